import PyProof.Rows.All
import Wide.All
import OpenK.AllK
import Wide.FinOn
import HandS.ForMost
import HandS.ForExc
import HandS.Wide
import HandS.Gcd
import HandS.Flow
import HandS.IsInst
import HandS.Conv
import HandS.TupAny
import HandS.Zip
import HandS.CallSlots
import HandS.TupLe
import KE.KDictKeyed
import HandS.TupMul
import HandS.ExcBuiltin
import HandS.TryOnly
import HandS.Defaults
import HandS.HeadEnd
import HandS.HeadHook1
import HandS.HeadHook2
import KE.KStateDown
import Lean
import HandS.Head0
import HandS.Head1
import HandS.Head2
import HandS.Head3
import HandS.More
import HandS.Deep
import HandS.Text
import KE.KTupSum
import KE.KMathGC
import KE.KIndexOf
import HandS.Codes
import KE.GoesZip
import KE.GoesMore
import HandS.TupLen
import KE.DataCmp
import KE.SortData
import HandS.SortInts
import HandS.Style
import KE.KDictSum
import KE.DataMinMax
import KE.KDictPairs
import PySem.Challenge.RW_closedratios_k71_whole_best_sets
set_option Elab.async false
set_option linter.all false
set_option maxRecDepth 100000
set_option maxHeartbeats 4000000
/-! HM: a layer of values over the hand layer. Part 1: values, stores, judgements. -/
namespace HM
open PySem PySem.Spec PyProof.Rows L2

/-! ### values -/
inductive D where
  | non | bl (b : Bool) | int (i : Int) | str (x : List Nat) | tup (xs : List D) | ref (n : Nat) | ty (n : String) | adr (a : Addr) | rol (xs : List D)
mutual
def D.dec : (a b : D) → Decidable (a = b)
  | .non, .non => Decidable.isTrue rfl
  | .bl a, .bl b => if h : a = b then Decidable.isTrue (h ▸ rfl) else Decidable.isFalse (fun e => h (D.bl.inj e))
  | .int a, .int b => if h : a = b then Decidable.isTrue (h ▸ rfl) else Decidable.isFalse (fun e => h (D.int.inj e))
  | .str a, .str b => if h : a = b then Decidable.isTrue (h ▸ rfl) else Decidable.isFalse (fun e => h (D.str.inj e))
  | .ref a, .ref b => if h : a = b then Decidable.isTrue (h ▸ rfl) else Decidable.isFalse (fun e => h (D.ref.inj e))
  | .ty a, .ty b => if h : a = b then Decidable.isTrue (h ▸ rfl) else Decidable.isFalse (fun e => h (D.ty.inj e))
  | .adr a, .adr b => if h : a = b then Decidable.isTrue (h ▸ rfl) else Decidable.isFalse (fun e => h (D.adr.inj e))
  | .tup a, .tup b => match D.decAll a b with
    | .isTrue h => Decidable.isTrue (h ▸ rfl)
    | .isFalse h => Decidable.isFalse (fun e => h (D.tup.inj e))
  | .rol a, .rol b => match D.decAll a b with
    | .isTrue h => Decidable.isTrue (h ▸ rfl)
    | .isFalse h => Decidable.isFalse (fun e => h (D.rol.inj e))
  | .non, .bl _ | .non, .int _ | .non, .str _ | .non, .tup _ | .non, .ref _ | .non, .ty _ | .non, .adr _ | .non, .rol _ => Decidable.isFalse nofun
  | .bl _, .non | .bl _, .int _ | .bl _, .str _ | .bl _, .tup _ | .bl _, .ref _ | .bl _, .ty _ | .bl _, .adr _ | .bl _, .rol _ => Decidable.isFalse nofun
  | .int _, .non | .int _, .bl _ | .int _, .str _ | .int _, .tup _ | .int _, .ref _ | .int _, .ty _ | .int _, .adr _ | .int _, .rol _ => Decidable.isFalse nofun
  | .str _, .non | .str _, .bl _ | .str _, .int _ | .str _, .tup _ | .str _, .ref _ | .str _, .ty _ | .str _, .adr _ | .str _, .rol _ => Decidable.isFalse nofun
  | .tup _, .non | .tup _, .bl _ | .tup _, .int _ | .tup _, .str _ | .tup _, .ref _ | .tup _, .ty _ | .tup _, .adr _ | .tup _, .rol _ => Decidable.isFalse nofun
  | .ref _, .non | .ref _, .bl _ | .ref _, .int _ | .ref _, .str _ | .ref _, .tup _ | .ref _, .ty _ | .ref _, .adr _ | .ref _, .rol _ => Decidable.isFalse nofun
  | .ty _, .non | .ty _, .bl _ | .ty _, .int _ | .ty _, .str _ | .ty _, .tup _ | .ty _, .ref _ | .ty _, .adr _ | .ty _, .rol _ => Decidable.isFalse nofun
  | .rol _, .non | .rol _, .bl _ | .rol _, .int _ | .rol _, .str _ | .rol _, .tup _ | .rol _, .ref _ | .rol _, .ty _ | .rol _, .adr _ => Decidable.isFalse nofun
  | .adr _, .non | .adr _, .bl _ | .adr _, .int _ | .adr _, .str _ | .adr _, .tup _ | .adr _, .ref _ | .adr _, .ty _ | .adr _, .rol _ => Decidable.isFalse nofun
def D.decAll : (a b : List D) → Decidable (a = b)
  | [], [] => Decidable.isTrue rfl
  | [], _ :: _ => Decidable.isFalse nofun
  | _ :: _, [] => Decidable.isFalse nofun
  | x :: xs, y :: ys => match D.dec x y with
    | .isFalse h => Decidable.isFalse (fun e => h (List.cons.inj e).1)
    | .isTrue h => match D.decAll xs ys with
      | .isTrue h2 => Decidable.isTrue (by rw [h, h2])
      | .isFalse h2 => Decidable.isFalse (fun e => h2 (List.cons.inj e).2)
end
instance : DecidableEq D := D.dec
instance : Inhabited D := ⟨.non⟩
/-- what stands in a cell of the store -/
inductive Cell where
  | lst (xs : List D) | dct (kvs : List (D × D))
  deriving DecidableEq, Inhabited
abbrev Store := List Cell
abbrev Sl := List (Option D)
/-- an exception: its class, its fields -/
structure Xc where
  cls : D
  fs : List (Str × D) := []
/-- what an evaluation gives -/
inductive ER (α : Type) where
  | ok (a : α) (st : Store) | exc (x : Xc) (st : Store) | bad
def ER.bind {α β : Type} (r : ER α) (k : α → Store → ER β) : ER β := match r with
  | .ok a st => k a st
  | .exc x st => .exc x st
  | .bad => .bad
@[simp] theorem ER.bind_ok {α β : Type} (a : α) (st : Store) (k : α → Store → ER β) : (ER.ok a st).bind k = k a st := rfl
@[simp] theorem ER.bind_exc {α β : Type} (x : Xc) (st : Store) (k : α → Store → ER β) : (ER.exc x st : ER α).bind k = .exc x st := rfl
@[simp] theorem ER.bind_bad {α β : Type} (k : α → Store → ER β) : (ER.bad : ER α).bind k = .bad := rfl
/-- what a statement gives -/
inductive SR where
  | nx (τ : Sl) (st : Store) | bk (τ : Sl) (st : Store) | ct (τ : Sl) (st : Store) | rt (d : D) (st : Store) | exc (x : Xc) (τ : Sl) (st : Store) | bad
abbrev EM (α : Type) := Sl → Store → ER α
abbrev SM := Sl → Store → SR

/-! ### how values stand for those of the layer -/
/-- a list that nobody writes -/
def FzL (K : PySem.W.Frag) (H : Hp) (a : Addr) (xs : List V) : Prop :=
  (∃ o, H a = some (.frz o (.lst xs))) ∨
    ∃ (o : Obj) (its : Array Value) (n : Nat), K.lookup a = some o ∧ o.cls = .type "list" ∧ o.dict = none ∧ o.data = .seq its n ∧ its.size ≤ sizeLine ∧ Vals xs its.toList
theorem FzL.sq {K : PySem.W.Frag} {H : Hp} {a : Addr} {xs : List V} (h : FzL K H a xs) : SqL K H a xs := by
  rcases h with ⟨o, h⟩ | h
  · exact .inl (.inr ⟨o, h⟩)
  · exact .inr h
theorem FzL.of {K : PySem.W.Frag} {H : Hp} {a : Addr} {xs : List V} (h : SqL K H a xs) (n : ∀ ys, H a ≠ some (.lst ys)) : FzL K H a xs := by
  rcases h with (h | h) | h
  · exact absurd h (n xs)
  · exact .inl h
  · exact .inr h
theorem FzL.new {K : PySem.W.Frag} {H : Hp} {p : Addr} {o : HO} (h : H p = none) {a : Addr} {vs : List V} (s : FzL K H a vs) : FzL K (upd H p o) a vs := by
  rcases s with ⟨ob, s⟩ | s
  · exact .inl ⟨ob, by rw [upd_ne (ne_of_none s h)]; exact s⟩
  · exact .inr s
/-- a tuple that has no dict of its own -/
def PlT (K : PySem.W.Frag) (H : Hp) (a : Addr) (xs : List V) : Prop :=
  (∃ o : Obj, o.dict = none ∧ H a = some (.frz o (.tup xs))) ∨
    ∃ (o : Obj) (its : Array Value) (n : Nat), K.lookup a = some o ∧ o.cls = .type "tuple" ∧ o.dict = none ∧ o.data = .seq its n ∧ its.size ≤ sizeLine ∧ Vals xs its.toList
theorem PlT.sq {K : PySem.W.Frag} {H : Hp} {a : Addr} {xs : List V} (h : PlT K H a xs) : SqT K H a xs := by
  rcases h with ⟨o, _, h⟩ | ⟨o, its, n, h1, h2, _, h3, h4, h5⟩
  · exact .inl (.inr ⟨o, h⟩)
  · exact .inr ⟨o, its, n, h1, h2, h3, h4, h5⟩
theorem PlT.new {K : PySem.W.Frag} {H : Hp} {p : Addr} {o : HO} (h : H p = none) {a : Addr} {vs : List V} (s : PlT K H a vs) : PlT K (upd H p o) a vs := by
  rcases s with ⟨ob, z, s⟩ | s
  · exact .inl ⟨ob, z, by rw [upd_ne (ne_of_none s h)]; exact s⟩
  · exact .inr s
theorem PlT.of {K : PySem.W.Frag} {H : Hp} {p : Addr} {o : Obj} {vs : List V} (h : o.dict = none) : PlT K (upd H p (.frz o (.tup vs))) p vs := .inl ⟨o, h, upd_same⟩
mutual
inductive RD (K : PySem.W.Frag) (m : List Addr) (H : Hp) : D → V → Prop
  | non : RD K m H .non .non
  | bl (b : Bool) : RD K m H (.bl b) (.bl b)
  | int (i : Int) : RD K m H (.int i) (.int i)
  | str (x : List Nat) : RD K m H (.str x) (.str ⟨x.toArray⟩)
  | ty (n : String) : RD K m H (.ty n) (.ty n)
  | adr (a : Addr) : RD K m H (.adr a) (.ref a)
  | tup {a : Addr} {vs : List V} {ds : List D} : PlT K H a vs → RDs K m H ds vs → RD K m H (.tup ds) (.ref a)
  | rol {a : Addr} {vs : List V} {ds : List D} : FzL K H a vs → RDs K m H ds vs → RD K m H (.rol ds) (.ref a)
  | ref {n : Nat} {a : Addr} : m[n]? = some a → RD K m H (.ref n) (.ref a)
inductive RDs (K : PySem.W.Frag) (m : List Addr) (H : Hp) : List D → List V → Prop
  | nil : RDs K m H [] []
  | cons {d : D} {v : V} {ds : List D} {vs : List V} : RD K m H d v → RDs K m H ds vs → RDs K m H (d :: ds) (v :: vs)
end
/-- what values lean on is kept -/
structure Kp (K : PySem.W.Frag) (m : List Addr) (H : Hp) (m' : List Addr) (H' : Hp) : Prop where
  pre : ∀ (n : Nat) (a : Addr), m[n]? = some a → m'[n]? = some a
  tup : ∀ (a : Addr) (vs : List V), SqT K H a vs → SqT K H' a vs
  plt : ∀ (a : Addr) (vs : List V), PlT K H a vs → PlT K H' a vs
  fzl : ∀ (a : Addr) (vs : List V), FzL K H a vs → FzL K H' a vs
/-- all that was is kept, but what the store may change -/
structure Ext (K : PySem.W.Frag) (m : List Addr) (H : Hp) (m' : List Addr) (H' : Hp) : Prop extends Kp K m H m' H' where
  frm : ∀ (a : Addr) (o : HO), a ∉ m → H a = some o → H' a = some o
  new : ∀ a : Addr, a ∈ m' → a ∉ m → H a = none
section
variable {K : PySem.W.Frag} {m m1 m2 m' : List Addr} {H H1 H2 H' : Hp}
theorem Ext.refl : Ext K m H m H := ⟨⟨fun _ _ h => h, fun _ _ h => h, fun _ _ h => h, fun _ _ h => h⟩, fun _ _ _ h => h, fun _ h n => absurd h n⟩
theorem Ext.mem (e : Ext K m H m1 H1) {a : Addr} (h : a ∈ m) : a ∈ m1 := by
  obtain ⟨n, q⟩ := List.getElem?_of_mem h
  exact List.mem_of_getElem? (e.pre n a q)
theorem Ext.trans (e : Ext K m H m1 H1) (f : Ext K m1 H1 m2 H2) : Ext K m H m2 H2 where
  pre := fun n a h => f.pre n a (e.pre n a h)
  tup := fun a vs h => f.tup a vs (e.tup a vs h)
  plt := fun a vs h => f.plt a vs (e.plt a vs h)
  fzl := fun a vs h => f.fzl a vs (e.fzl a vs h)
  frm := fun a o n h => by
    refine f.frm a o (fun q => ?_) (e.frm a o n h)
    rw [e.new a q n] at h
    cases h
  new := fun a h n => by
    by_cases q : a ∈ m1
    · exact e.new a q n
    · have z := f.new a h q
      cases r : H a with
      | none => rfl
      | some o =>
        rw [e.frm a o n r] at z
        cases z
mutual
theorem RD.kp (e : Kp K m H m' H') : ∀ {d : D} {v : V}, RD K m H d v → RD K m' H' d v
  | _, _, .non => .non
  | _, _, .bl b => .bl b
  | _, _, .int i => .int i
  | _, _, .str x => .str x
  | _, _, .ty n => .ty n
  | _, _, .adr a => .adr a
  | _, _, .tup h r => .tup (e.plt _ _ h) (RDs.kp e r)
  | _, _, .rol h r => .rol (e.fzl _ _ h) (RDs.kp e r)
  | _, _, .ref h => .ref (e.pre _ _ h)
theorem RDs.kp (e : Kp K m H m' H') : ∀ {ds : List D} {vs : List V}, RDs K m H ds vs → RDs K m' H' ds vs
  | _, _, .nil => .nil
  | _, _, .cons h r => .cons (RD.kp e h) (RDs.kp e r)
end
theorem RD.mono (e : Ext K m H m' H') {d : D} {v : V} (r : RD K m H d v) : RD K m' H' d v := r.kp e.toKp
theorem RDs.mono (e : Ext K m H m' H') {ds : List D} {vs : List V} (r : RDs K m H ds vs) : RDs K m' H' ds vs := r.kp e.toKp
theorem RDs.len : ∀ {ds : List D} {vs : List V}, RDs K m H ds vs → ds.length = vs.length
  | _, _, .nil => rfl
  | _, _, .cons _ r => congrArg (· + 1) r.len
theorem RDs.get : ∀ {ds : List D} {vs : List V} {i : Nat} {d : D}, RDs K m H ds vs → ds[i]? = some d → ∃ v, vs[i]? = some v ∧ RD K m H d v
  | _, _, _, _, .nil, e => by simp at e
  | _, _, 0, _, .cons h _, e => by
    simp at e
    subst e
    exact ⟨_, rfl, h⟩
  | _, _, i + 1, d, .cons _ r, e => by
    obtain ⟨v, h1, h2⟩ := RDs.get (i := i) (d := d) r (by simpa using e)
    exact ⟨v, by simpa using h1, h2⟩
theorem RDs.append : ∀ {ds es : List D} {vs us : List V}, RDs K m H ds vs → RDs K m H es us → RDs K m H (ds ++ es) (vs ++ us)
  | _, _, _, _, .nil, s => s
  | _, _, _, _, .cons h r, s => .cons h (RDs.append r s)
theorem RDs.take : ∀ {ds : List D} {vs : List V} (n : Nat), RDs K m H ds vs → RDs K m H (ds.take n) (vs.take n)
  | _, _, 0, _ => .nil
  | _, _, _ + 1, .nil => .nil
  | _, _, n + 1, .cons h r => .cons h (RDs.take n r)
theorem RDs.drop : ∀ {ds : List D} {vs : List V} (n : Nat), RDs K m H ds vs → RDs K m H (ds.drop n) (vs.drop n)
  | _, _, 0, r => r
  | _, _, _ + 1, .nil => .nil
  | _, _, n + 1, .cons _ r => RDs.drop n r
theorem RDs.set {d : D} {v : V} (h : RD K m H d v) : ∀ {ds : List D} {vs : List V} (i : Nat), RDs K m H ds vs → RDs K m H (ds.set i d) (vs.set i v)
  | _, _, _, .nil => .nil
  | _, _, 0, .cons _ r => .cons h r
  | _, _, i + 1, .cons g r => .cons g (RDs.set h i r)
theorem RDs.erase : ∀ {ds : List D} {vs : List V} (i : Nat), RDs K m H ds vs → RDs K m H (ds.eraseIdx i) (vs.eraseIdx i)
  | _, _, _, .nil => .nil
  | _, _, 0, .cons _ r => r
  | _, _, i + 1, .cons g r => .cons g (RDs.erase i r)
theorem RDs.dropLast {ds : List D} {vs : List V} (r : RDs K m H ds vs) : RDs K m H ds.dropLast vs.dropLast := by
  rw [List.dropLast_eq_take, List.dropLast_eq_take, r.len]
  exact r.take _
theorem RDs.one {d : D} {vs : List V} (r : RDs K m H [d] vs) : ∃ v, vs = [v] ∧ RD K m H d v := by
  cases r with
  | cons h r =>
    cases r
    exact ⟨_, rfl, h⟩
theorem RDs.two {d e : D} {vs : List V} (r : RDs K m H [d, e] vs) : ∃ v u, vs = [v, u] ∧ RD K m H d v ∧ RD K m H e u := by
  cases r with
  | cons h r =>
    obtain ⟨u, rfl, h2⟩ := r.one
    exact ⟨_, _, rfl, h, h2⟩
theorem RDs.reverse {ds : List D} {vs : List V} (r : RDs K m H ds vs) : RDs K m H ds.reverse vs.reverse := by
  induction ds generalizing vs with
  | nil =>
    cases r
    exact .nil
  | cons d ds ih =>
    cases r with
    | cons h r =>
      rw [List.reverse_cons, List.reverse_cons]
      exact (ih r).append (.cons h .nil)
theorem RDs.ints : ∀ (ns : List Int), RDs K m H (ns.map D.int) (ns.map V.int)
  | [] => .nil
  | n :: r => .cons (.int n) (RDs.ints r)
/-- the known part and the world -/
structure KW where
  F : PySem.W.Frag
  w : World
instance : CoeOut KW PySem.W.Frag := ⟨KW.F⟩
@[reducible] def _root_.L2.Cx.kw (X : Cx) : KW := ⟨X.K, X.w⟩
/-- values without truth values and references, so deep -/
def D.plain : Nat → D → Bool
  | _, .non => true
  | _, .int _ => true
  | _, .str x => x.all fun c => decide (c < 1114112)
  | 0, .tup _ => false
  | n + 1, .tup xs => xs.all (D.plain n)
  | _, _ => false

mutual
def D.nk : D → NestedKey
  | .non => .none
  | .int i => .num i
  | .str x => .text ⟨x.toArray⟩
  | .tup xs => .tup (D.nks xs)
  | _ => .none
def D.nks : List D → List NestedKey
  | [] => []
  | d :: ds => D.nk d :: D.nks ds
end
def D.tupQ (d : D) : Bool := match d with
  | .tup _ => d.plain 8
  | _ => false
def keyD : Key → D
  | .inl i => .int i
  | .inr x => .str x.cps.toList
/-- a dict whose keys are tuples, at its address -/
def DObj (w : World) (a : Addr) (xs : List (NestedKey × Addr × V)) (h : Heap) : Prop :=
  (a == sysModules) = false ∧ xs.length ≤ sizeLine ∧ ∃ zs : List (NestedKey × Addr × Value), Paired (fun p q => p.1 = q.1 ∧ p.2.1 = q.2.1 ∧ RelV p.2.2 q.2.2) xs zs ∧
    ∃ o es ep, h.get? a = some o ∧ o.ExactDict ∧ o.data = .dict es ep ∧ es.toList = zs.map (fun x => (⟨NestedKey.hash w x.1, .ref x.2.1, x.2.2⟩ : DictEntry)) ∧ (zs.map (·.1)).Nodup
abbrev DRel1 (K : PySem.W.Frag) (m : List Addr) (H : Hp) : List (D × D) → List (Key × V) → Prop := Paired fun p q => p.1 = keyD q.1 ∧ RD K m H p.2 q.2
abbrev DRel2 (K : PySem.W.Frag) (m : List Addr) (H : Hp) : List (D × D) → List (NestedKey × Addr × V) → Prop := Paired fun p q => p.1.tupQ = true ∧ q.1 = p.1.nk ∧ RD K m H p.1 (.ref q.2.1) ∧ RD K m H p.2 q.2.2
theorem DRel1.kp {m m' : List Addr} {H H' : Hp} {kvs : List (D × D)} {us : List (Key × V)} (r : DRel1 K m H kvs us) (e : Kp K m H m' H') : DRel1 K m' H' kvs us := Paired.mapP r fun _ _ z => ⟨z.1, z.2.kp e⟩
theorem DRel2.kp {m m' : List Addr} {H H' : Hp} {kvs : List (D × D)} {us : List (NestedKey × Addr × V)} (r : DRel2 K m H kvs us) (e : Kp K m H m' H') : DRel2 K m' H' kvs us := Paired.mapP r fun _ _ z => ⟨z.1, z.2.1, z.2.2.1.kp e, z.2.2.2.kp e⟩
/-- a cell and what stands at its address -/
def RC (K : KW) (m : List Addr) (H : Hp) (a : Addr) : Cell → Prop
  | .lst ds => ∃ vs, H a = some (.lst vs) ∧ RDs K m H ds vs
  | .dct kvs => (∃ us, H a = some (.dK us) ∧ DRel1 K m H kvs us) ∨ ∃ xs, H a = some (.ext (DObj K.w a xs)) ∧ xs ≠ [] ∧ DRel2 K m H kvs xs
structure SS (K : KW) (m : List Addr) (st : Store) (H : Hp) : Prop where
  len : m.length = st.length
  nd : m.Nodup
  cel : ∀ (n : Nat) (c : Cell) (a : Addr), st[n]? = some c → m[n]? = some a → RC K m H a c
/-- the slots -/
structure SL (K : PySem.W.Frag) (m : List Addr) (H : Hp) (τ : Sl) (σ : L2.St) : Prop where
  len : τ.length = σ.length
  get : ∀ (i : Nat) (d : D), τ[i]? = some (some d) → ∃ v, σ[i]? = some (some v) ∧ RD K m H d v
theorem SL.mono {τ : Sl} {σ : L2.St} (s : SL K m H τ σ) (e : Ext K m H m' H') : SL K m' H' τ σ :=
  ⟨s.len, fun i d h => let ⟨v, h1, h2⟩ := s.get i d h; ⟨v, h1, h2.mono e⟩⟩
theorem SL.set {τ : Sl} {σ : L2.St} {d : D} {v : V} (s : SL K m H τ σ) (i : Nat) (r : RD K m H d v) : SL K m H (τ.set i (some d)) (σ.set i (some v)) := by
  refine ⟨by simpa using s.len, fun j e h => ?_⟩
  by_cases hj : i = j
  · subst hj
    by_cases hl : i < τ.length
    · rw [List.getElem?_set_self hl] at h
      simp only [Option.some.injEq] at h
      subst h
      exact ⟨v, by rw [List.getElem?_set_self (by rw [← s.len]; exact hl)], r⟩
    · rw [List.getElem?_eq_none (by simpa using hl)] at h
      cases h
  · rw [List.getElem?_set_ne hj] at h
    rw [List.getElem?_set_ne hj]
    exact s.get j e h
theorem SS.at {K : KW} {st : Store} {n : Nat} {c : Cell} (s : SS K m st H) (h : st[n]? = some c) : ∃ a, m[n]? = some a ∧ RC K m H a c := by
  have hl : n < m.length := by
    rw [s.len]
    exact (List.getElem?_eq_some_iff.mp h).1
  exact ⟨m[n], by simp, s.cel n c _ h (by simp)⟩
theorem sqT_new {p : Addr} {o : HO} (h : H p = none) {a : Addr} {vs : List V} (s : SqT K H a vs) : SqT K (upd H p o) a vs := by
  rcases s with (s | ⟨ob, s⟩) | s
  · exact .inl (.inl (by rw [upd_ne (ne_of_none s h)]; exact s))
  · exact .inl (.inr ⟨ob, by rw [upd_ne (ne_of_none s h)]; exact s⟩)
  · exact .inr s
theorem sqL_new {p : Addr} {o : HO} (h : H p = none) {a : Addr} {vs : List V} (s : SqL K H a vs) : SqL K (upd H p o) a vs := by
  rcases s with (s | ⟨ob, s⟩) | s
  · exact .inl (.inl (by rw [upd_ne (ne_of_none s h)]; exact s))
  · exact .inl (.inr ⟨ob, by rw [upd_ne (ne_of_none s h)]; exact s⟩)
  · exact .inr s
theorem sqL_ne {p a : Addr} {o : HO} {vs : List V} (h : a ≠ p) (s : SqL K H a vs) : SqL K (upd H p o) a vs := by
  rcases s with (s | ⟨ob, s⟩) | s
  · exact .inl (.inl (by rw [upd_ne h]; exact s))
  · exact .inl (.inr ⟨ob, by rw [upd_ne h]; exact s⟩)
  · exact .inr s
theorem RC.here {K : KW} {a : Addr} {c : Cell} (r : RC K m H a c) : ∃ o, H a = some o := by
  cases c with
  | lst ds =>
    obtain ⟨vs, h, _⟩ := r
    exact ⟨_, h⟩
  | dct kvs =>
    rcases r with ⟨us, h, _⟩ | ⟨xs, h, _⟩ <;> exact ⟨_, h⟩
/-- a new object that the store does not hold -/
theorem Ext.fresh {p : Addr} {o : HO} (h : H p = none) : Ext K m H m (upd H p o) :=
  ⟨⟨fun _ _ h => h, fun _ _ s => sqT_new h s, fun _ _ s => s.new h, fun _ _ s => s.new h⟩, fun a ob _ q => by rw [upd_ne (ne_of_none q h)]; exact q, fun _ q n => absurd q n⟩
theorem RC.fresh {K : KW} {p a : Addr} {o : HO} {c : Cell} (h : H p = none) (r : RC K m H a c) : RC K m (upd H p o) a c := by
  cases c with
  | lst ds =>
    obtain ⟨vs, q, r⟩ := r
    exact ⟨vs, by rw [upd_ne (ne_of_none q h)]; exact q, r.mono (Ext.fresh h)⟩
  | dct kvs =>
    rcases r with ⟨us, q, r⟩ | ⟨xs, q, r⟩
    · exact .inl ⟨us, by rw [upd_ne (ne_of_none q h)]; exact q, r.kp (Ext.fresh h).toKp⟩
    · exact .inr ⟨xs, by rw [upd_ne (ne_of_none q h)]; exact q, r.1, r.2.kp (Ext.fresh h).toKp⟩
theorem SS.fresh {K : KW} {p : Addr} {o : HO} {st : Store} (s : SS K m st H) (h : H p = none) : SS K m st (upd H p o) :=
  ⟨s.len, s.nd, fun n c a h1 h2 => (s.cel n c a h1 h2).fresh h⟩
/-- a new object of the store's -/
theorem Ext.app {p : Addr} {o : HO} (h : H p = none) : Ext K m H (m ++ [p]) (upd H p o) where
  pre := fun n a q => by
    rw [List.getElem?_append_left (List.getElem?_eq_some_iff.mp q).1]
    exact q
  tup := fun _ _ s => sqT_new h s
  plt := fun _ _ s => s.new h
  fzl := fun _ _ s => s.new h
  frm := fun a ob _ q => by rw [upd_ne (ne_of_none q h)]; exact q
  new := fun a q n => by
    rcases List.mem_append.mp q with q | q
    · exact absurd q n
    · have e : a = p := by simpa using q
      rw [e]
      exact h
theorem Ext.grow {p : Addr} : (H p = none) → Ext K m H (m ++ [p]) H := fun h => {
  pre := fun n a q => by
    rw [List.getElem?_append_left (List.getElem?_eq_some_iff.mp q).1]
    exact q
  tup := fun _ _ s => s
  plt := fun _ _ s => s
  fzl := fun _ _ s => s
  frm := fun a ob _ q => q
  new := fun a q n => by
    rcases List.mem_append.mp q with q | q
    · exact absurd q n
    · have e : a = p := by simpa using q
      rw [e]
      exact h }
theorem RC.kp {K : KW} {a : Addr} {c : Cell} (r : RC K m H a c) (e : Kp K m H m' H') (h : ∀ o, H a = some o → H' a = some o) : RC K m' H' a c := by
  cases c with
  | lst ds =>
    obtain ⟨vs, q, r⟩ := r
    exact ⟨vs, h _ q, r.kp e⟩
  | dct kvs =>
    rcases r with ⟨us, q, r⟩ | ⟨xs, q, r⟩
    · exact .inl ⟨us, h _ q, r.kp e⟩
    · exact .inr ⟨xs, h _ q, r.1, r.2.kp e⟩
theorem Kp.grow {p : Addr} : Kp K m H (m ++ [p]) H := ⟨fun n a q => by
    rw [List.getElem?_append_left (List.getElem?_eq_some_iff.mp q).1]
    exact q, fun _ _ s => s, fun _ _ s => s, fun _ _ s => s⟩
/-- an object that is there becomes the store's -/
theorem SS.grow {K : KW} {p : Addr} {c : Cell} {st : Store} (s : SS K m st H) (hp : p ∉ m) (r : RC K (m ++ [p]) H p c) : SS K (m ++ [p]) (st ++ [c]) H where
  len := by simp [s.len]
  nd := by
    rw [List.nodup_append]
    refine ⟨s.nd, by simp, fun a h1 b h2 e => ?_⟩
    have e2 : b = p := by simpa using h2
    rw [e, e2] at h1
    exact hp h1
  cel := fun n d a h1 h2 => by
    by_cases hn : n < st.length
    · rw [List.getElem?_append_left hn] at h1
      rw [List.getElem?_append_left (by rw [s.len]; exact hn)] at h2
      exact (s.cel n d a h1 h2).kp Kp.grow fun _ q => q
    · have hl : n < (st ++ [c]).length := (List.getElem?_eq_some_iff.mp h1).1
      have e : n = st.length := by
        rw [List.length_append, List.length_singleton] at hl
        omega
      subst e
      have e1 : c = d := by simpa using h1
      have e2 : p = a := by
        rw [← s.len] at h2
        simpa using h2
      rw [← e1, ← e2]
      exact r
theorem SS.notin {K : KW} {st : Store} {p : Addr} (s : SS K m st H) (h : H p = none) : p ∉ m := fun q => by
  obtain ⟨n, e⟩ := List.getElem?_of_mem q
  have hl : n < st.length := by
    rw [← s.len]
    exact (List.getElem?_eq_some_iff.mp e).1
  obtain ⟨o, z⟩ := (s.cel n st[n] p (by simp) e).here
  rw [h] at z
  cases z
/-- a list is written -/
theorem Kp.write {p : Addr} {xs : List V} {o : HO} (h : H p = some (.lst xs)) : Kp K m H m (upd H p o) where
  pre := fun _ _ q => q
  tup := fun a vs s => by
    rcases s with (s | ⟨ob, s⟩) | s
    · exact .inl (.inl (by rw [upd_ne (fun e => by rw [e, h] at s; cases s)]; exact s))
    · exact .inl (.inr ⟨ob, by rw [upd_ne (fun e => by rw [e, h] at s; cases s)]; exact s⟩)
    · exact .inr s
  plt := fun a vs s => by
    rcases s with ⟨ob, z, s⟩ | s
    · exact .inl ⟨ob, z, by rw [upd_ne (fun e => by rw [e, h] at s; cases s)]; exact s⟩
    · exact .inr s
  fzl := fun a vs s => by
    rcases s with ⟨ob, s⟩ | s
    · exact .inl ⟨ob, by rw [upd_ne (fun e => by rw [e, h] at s; cases s)]; exact s⟩
    · exact .inr s
/-- a list that is not the store's is written -/
theorem SS.other {K : KW} {st : Store} {p : Addr} {xs : List V} {o : HO} (s : SS K m st H) (h : H p = some (.lst xs)) (hp : p ∉ m) : SS K m st (upd H p o) :=
  ⟨s.len, s.nd, fun n c a h1 h2 => (s.cel n c a h1 h2).kp (Kp.write h) fun ob q => by rw [upd_ne (fun e : a = p => hp (by rw [← e]; exact List.mem_of_getElem? h2))]; exact q⟩
/-- a list of the store's is written -/
theorem Ext.write {n : Nat} {p : Addr} {xs : List V} {o : HO} (h : H p = some (.lst xs)) (hn : m[n]? = some p) : Ext K m H m (upd H p o) :=
  { Kp.write h with
    frm := fun a ob q z => by rw [upd_ne (fun e : a = p => q (by rw [e]; exact List.mem_of_getElem? hn))]; exact z
    new := fun a q n => absurd q n }
theorem SS.write {K : KW} {st : Store} {n : Nat} {p : Addr} {xs ys : List V} {ds : List D} (s : SS K m st H) (h : H p = some (.lst xs)) (hn : m[n]? = some p) (r : RDs K m H ds ys) : SS K m (st.set n (.lst ds)) (upd H p (.lst ys)) where
  len := by rw [List.length_set]; exact s.len
  nd := s.nd
  cel := fun i c a h1 h2 => by
    by_cases hi : n = i
    · subst hi
      rw [hn] at h2
      cases h2
      have hl : n < st.length := by
        rw [← s.len]
        exact (List.getElem?_eq_some_iff.mp hn).1
      rw [List.getElem?_set_self hl] at h1
      cases h1
      exact ⟨ys, upd_same, r.kp (Kp.write h)⟩
    · rw [List.getElem?_set_ne hi] at h1
      refine (s.cel i c a h1 h2).kp (Kp.write h) fun ob q => ?_
      rw [upd_ne fun e => hi ?_]
      · exact q
      · subst e
        obtain ⟨l1, e1⟩ := List.getElem?_eq_some_iff.mp hn
        obtain ⟨l2, e2⟩ := List.getElem?_eq_some_iff.mp h2
        exact (List.getElem_inj s.nd).mp (e1.trans e2.symm)
/-- a thing of the store's is written -/
theorem Kp.writeM {p : Addr} {o : HO} (h : Mut (H p)) : Kp K m H m (upd H p o) where
  pre := fun _ _ q => q
  tup := fun a vs s => by
    rcases s with (s | ⟨ob, s⟩) | s
    · exact .inl (.inl (by rw [upd_ne (fun e => by rw [← e, s] at h; exact h)]; exact s))
    · exact .inl (.inr ⟨ob, by rw [upd_ne (fun e => by rw [← e, s] at h; exact h)]; exact s⟩)
    · exact .inr s
  plt := fun a vs s => by
    rcases s with ⟨ob, z, s⟩ | s
    · exact .inl ⟨ob, z, by rw [upd_ne (fun e => by rw [← e, s] at h; exact h)]; exact s⟩
    · exact .inr s
  fzl := fun a vs s => by
    rcases s with ⟨ob, s⟩ | s
    · exact .inl ⟨ob, by rw [upd_ne (fun e => by rw [← e, s] at h; exact h)]; exact s⟩
    · exact .inr s
theorem Ext.writeM {n : Nat} {p : Addr} {o : HO} (h : Mut (H p)) (hn : m[n]? = some p) : Ext K m H m (upd H p o) :=
  { Kp.writeM h with
    frm := fun a ob q z => by rw [upd_ne (fun e : a = p => q (by rw [e]; exact List.mem_of_getElem? hn))]; exact z
    new := fun a q n => absurd q n }
theorem SS.writeM {K : KW} {st : Store} {n : Nat} {p : Addr} {o : HO} {c : Cell} (s : SS K m st H) (h : Mut (H p)) (hn : m[n]? = some p) (r : RC K m (upd H p o) p c) : SS K m (st.set n c) (upd H p o) where
  len := by rw [List.length_set]; exact s.len
  nd := s.nd
  cel := fun i c' a h1 h2 => by
    by_cases hi : n = i
    · subst hi
      rw [hn] at h2
      cases h2
      have hl : n < st.length := by
        rw [← s.len]
        exact (List.getElem?_eq_some_iff.mp hn).1
      rw [List.getElem?_set_self hl] at h1
      cases h1
      exact r
    · rw [List.getElem?_set_ne hi] at h1
      refine (s.cel i c' a h1 h2).kp (Kp.writeM h) fun ob q => ?_
      rw [upd_ne fun e => hi ?_]
      · exact q
      · subst e
        obtain ⟨l1, e1⟩ := List.getElem?_eq_some_iff.mp hn
        obtain ⟨l2, e2⟩ := List.getElem?_eq_some_iff.mp h2
        exact (List.getElem_inj s.nd).mp (e1.trans e2.symm)
end
end HM

/-! HM, part 2: what an evaluation promises; expressions. -/
namespace HM
open PySem PySem.Spec PyProof.Rows L2

/-- an exception and how it flies -/
def XR (K : PySem.W.Frag) (m : List Addr) (H : Hp) (x : Xc) (c : Value) (d : Option Addr) : Prop := match x.cls with
  | .ty n => c = .type n ∧ x.fs = []
  | .adr a => c = .ref a ∧ (x.fs = [] ∨ ∃ da vs, d = some da ∧ H da = some (.xd vs) ∧ Paired (fun (p : Str × D) (q : Str × V) => p.1 = q.1 ∧ RD K m H p.2 q.2) x.fs vs)
  | _ => False
/-- behind an evaluation -/
def Pe {α β : Type} (K : KW) (E : XK) (R : List Addr → Hp → α → β → Prop) (m : List Addr) (H : Hp) (r : ER α) (Q : β → Hp → Prop) : Prop := match r with
  | .ok a st => ∀ m' H' b, Ext K m H m' H' → SS K m' st H' → R m' H' a b → Q b H'
  | .exc x st => ∀ m' H' c d, Ext K m H m' H' → SS K m' st H' → XR K m' H' x c d → E c d H'
  | .bad => False
section
variable {α β γ δ : Type} {K : KW} {E : XK} {R : List Addr → Hp → α → β → Prop} {S : List Addr → Hp → γ → δ → Prop} {m m1 : List Addr} {H H1 : Hp} {r : ER α} {Q : β → Hp → Prop}
theorem Pe.up (h : Pe K E R m H r Q) (e : Ext K m H m1 H1) : Pe K E R m1 H1 r Q := by
  cases r with
  | ok a st => exact fun m' H' b e' s q => h m' H' b (e.trans e') s q
  | exc x st => exact fun m' H' c d e' s q => h m' H' c d (e.trans e') s q
  | bad => exact h
theorem Pe.bind {k : α → Store → ER γ} {Q' : δ → Hp → Prop} (h : Pe K E S m H (r.bind k) Q')
    (hk : ∀ a st m' H' b, Ext K m H m' H' → SS K m' st H' → R m' H' a b → Pe K E S m' H' (k a st) Q' → Q b H') : Pe K E R m H r Q := by
  cases r with
  | ok a st => exact fun m' H' b e s q => hk a st m' H' b e s q (Pe.up h e)
  | exc x st => exact h
  | bad => exact h
theorem Pe.now {a : α} {st : Store} {b : β} (h : Pe K E R m H (.ok a st) Q) (s : SS K m st H) (q : R m H a b) : Q b H := h m H b .refl s q
theorem Pe.imp {Q' : β → Hp → Prop} (h : Pe K E R m H r Q) (hQ : ∀ b H, Q b H → Q' b H) : Pe K E R m H r Q' := by
  cases r with
  | ok a st => exact fun m' H' b e s q => hQ _ _ (h m' H' b e s q)
  | exc x st => exact h
  | bad => exact h
end
abbrev RB : List Addr → Hp → Bool → Bool → Prop := fun _ _ a b => a = b

/-! ### judgements -/
def wE (X : Cx) (e : Expr) : TE := fun σ H Q => ∀ (pins : List (Addr × Obj)) (s : Shared), Inv X pins σ H s → wpAny (model X.prog X.w) X.A (eval e X.env) (EP X pins σ Q) X.xe s
def wT (X : Cx) (e : Expr) : TT := fun σ H Q => ∀ (pins : List (Addr × Obj)) (s : Shared), Inv X pins σ H s → wpAny (model X.prog X.w) X.A (isTrue e X.env (eval e X.env)) (TP X pins σ Q) X.xe s
def wW (X : Cx) (e : Expr) : TT := fun σ H Q => ∀ (whole : Sem Value) (pins : List (Addr × Obj)) (s : Shared), Inv X pins σ H s → wpAny (model X.prog X.w) X.A (isTrue e X.env whole) (TP X pins σ Q) X.xe s
def wA (X : Cx) (es : List Expr) : TA := fun σ H Q => ∀ (pos : Pos) (pins : List (Addr × Obj)) (s : Shared), Inv X pins σ H s → wpAny (model X.prog X.w) X.A (spliced (backTo pos (starEach es X.env))) (AP X pins σ Q) X.xe s
theorem peW {X : Cx} {e : Expr} : PE X e (wE X e) := ⟨fun pins s σ H Q I h => h pins s I⟩
theorem ptW {X : Cx} {e : Expr} : PT X e (wT X e) := ⟨fun pins s σ H Q I h => h pins s I⟩
theorem pwW {X : Cx} {e : Expr} : PW X e (wW X e) := ⟨fun wh pins s σ H Q I h => h wh pins s I⟩
theorem paW {X : Cx} {es : List Expr} : PA X es (wA X es) := ⟨fun pos pins s σ H Q I h => h pos pins s I⟩
/-- an expression -/
structure Ex (X : Cx) (W : WX) (e : Expr) (f : EM D) : Prop where
  run : ∀ (m : List Addr) (τ : Sl) (st : Store) (σ : L2.St) (H : Hp) (Q : VK), SL X.K m H τ σ → SS X.kw m st H → Pe X.kw (fun c d H' => W c d σ H') (RD X.K) m H (f τ st) Q → wE X e σ H Q
/-- a test -/
structure Et (X : Cx) (W : WX) (e : Expr) (f : EM Bool) : Prop where
  run : ∀ (m : List Addr) (τ : Sl) (st : Store) (σ : L2.St) (H : Hp) (Q : Bool → Hp → Prop), SL X.K m H τ σ → SS X.kw m st H → Pe X.kw (fun c d H' => W c d σ H') RB m H (f τ st) Q → wT X e σ H Q
/-- a test whatever its whole is -/
structure Ew (X : Cx) (W : WX) (e : Expr) (f : EM Bool) : Prop where
  run : ∀ (m : List Addr) (τ : Sl) (st : Store) (σ : L2.St) (H : Hp) (Q : Bool → Hp → Prop), SL X.K m H τ σ → SS X.kw m st H → Pe X.kw (fun c d H' => W c d σ H') RB m H (f τ st) Q → wW X e σ H Q
/-- arguments -/
structure Ea (X : Cx) (W : WX) (es : List Expr) (f : EM (List D)) : Prop where
  run : ∀ (m : List Addr) (τ : Sl) (st : Store) (σ : L2.St) (H : Hp) (Q : List V → Hp → Prop), SL X.K m H τ σ → SS X.kw m st H → Pe X.kw (fun c d H' => W c d σ H') (RDs X.K) m H (f τ st) Q → wA X es σ H Q
section
variable {X : Cx} {W : WX} {e a b c : Expr} {es rest : List Expr} {pos : Pos} {f fa fb fc : EM D} {fs : EM (List D)} {g : EM Bool}
theorem Ex.le {f' : EM D} (h : Ex X W e f) (hl : ∀ (m : List Addr) (τ : Sl) (st : Store) (H : Hp) (E : XK) (Q : VK), SS X.kw m st H → Pe X.kw E (RD X.K) m H (f' τ st) Q → Pe X.kw E (RD X.K) m H (f τ st) Q) : Ex X W e f' :=
  ⟨fun m τ st σ H Q hL hS hP => h.run m τ st σ H Q hL hS (hl m τ st H _ Q hS hP)⟩

/-! ### names, constants -/
def eVar (i : Nat) : EM D := fun τ st => match τ[i]? with
  | some (some d) => .ok d st
  | _ => .bad
theorem ex_var {i : Nat} {x : Str} (hN : X.N[i]? = some x) (hv : Vis X.env.scope x) (hd : (x == ("__debug__" : Str)) = false := by decide) (hcd : (x == ("__classdict__" : Str)) = false := by decide) : Ex X W (.Name x pos) (eVar i) := by
  refine ⟨fun m τ st σ H Q hL hS hP pins s I => ?_⟩
  refine (pe_var hN hv hd hcd).run pins s σ H Q I ?_
  unfold eVar at hP
  split at hP
  · rename_i d hd
    obtain ⟨v, h1, h2⟩ := hL.get i d hd
    exact ⟨v, h1, hP.now hS h2⟩
  · exact hP.elim
theorem xv (i : Nat) {x : Str} (hN : X.N[i]? = some x := by rfl) (hv : Vis X.env.scope x := by first | exact Or.inl rfl | exact Or.inr (Or.inl rfl) | exact Or.inr (Or.inr rfl)) (hd : (x == ("__debug__" : Str)) = false := by decide)
    (hcd : (x == ("__classdict__" : Str)) = false := by decide) : Ex X W (.Name x pos) (eVar i) := ex_var hN hv hd hcd
def eC (d : D) : EM D := fun _ st => .ok d st
theorem ex_c {t : TE} {d : D} {v : V} (h : PE X e t) (ht : ∀ σ H Q, Q v H → t σ H Q) (r : ∀ m H, RD X.K m H d v) : Ex X W e (eC d) :=
  ⟨fun m τ st σ H Q hL hS hP pins s I => h.run pins s σ H Q I (ht _ _ _ (hP.now hS (r m H)))⟩
theorem ex_int {i j} : Ex X W (.Constant (.int i) j pos) (eC (.int i)) := ex_c pe_int (fun _ _ _ h => h) fun _ _ => .int i
theorem ex_bl {i j} : Ex X W (.Constant (.bool i) j pos) (eC (.bl i)) := ex_c pe_bl (fun _ _ _ h => h) fun _ _ => .bl i
theorem ex_non {j} : Ex X W (.Constant .none j pos) (eC .non) := ex_c pe_non (fun _ _ _ h => h) fun _ _ => .non
theorem ex_str {x : Str} {j} : Ex X W (.Constant (.str x) j pos) (eC (.str x.cps.toList)) := ex_c pe_str (fun _ _ _ h => h) fun _ _ => by
  have e : x = ⟨x.cps.toList.toArray⟩ := by simp
  exact e ▸ .str x.cps.toList
theorem ex_strc {x : Str} {j} (l : List Nat) (h : x.cps.toList = l) : Ex X W (.Constant (.str x) j pos) (eC (.str l)) := by
  subst h
  exact ex_str
/-- a module's constant -/
theorem ex_glob {x : Str} {v : V} {u : Value} {d : D} (hg : Gl X x) (hm : X.mg x = some u) (r : RelV v u) (rd : ∀ m H, RD X.K m H d v) (hd : (x == ("__debug__" : Str)) = false := by decide) : Ex X W (.Name x pos) (eC d) :=
  ex_c (pe_glob hg hm r hd) (fun _ _ _ h => h) rd
theorem ex_bltn {x : Str} {v : V} {u : Value} {d : D} (hg : Gl X x) (hm : X.mg x = none) (hv : bootBuiltins x = some u) (r : RelV v u) (rd : ∀ m H, RD X.K m H d v) (hn : x ≠ "__name__" := by decide) (hd : (x == ("__debug__" : Str)) = false := by decide) : Ex X W (.Name x pos) (eC d) :=
  ex_c (pe_bltn hg hm hv r hn hd) (fun _ _ _ h => h) rd

/-! ### operators -/
abbrev O1 := D → Store → ER D
abbrev O2 := D → D → Store → ER D
/-- a rule by values -/
def OpM (X : Cx) (W : WX) (f : Value → Value → Sem Value) (g : O2) : Prop :=
  ∀ (m : List Addr) (st : Store) (σ : L2.St) (H : Hp) (dx dy : D) (x y : V) (Q : VK), SS X.kw m st H → RD X.K m H dx x → RD X.K m H dy y → Pe X.kw (fun c d H' => W c d σ H') (RD X.K) m H (g dx dy st) Q →
    ∀ (pins : List (Addr × Obj)) (s : Shared) (v u : Value), Inv X pins σ H s → RelV x v → RelV y u → wpAny (model X.prog X.w) X.A (f v u) (EP X pins σ Q) X.xe s
theorem OpM.opr {F : Value → Value → Sem Value} {g : O2} (h : OpM X W F g) : OpR X F (fun x y H Q => ∀ (pins : List (Addr × Obj)) (s : Shared) (σ : L2.St) (v u : Value), Inv X pins σ H s → RelV x v → RelV y u → wpAny (model X.prog X.w) X.A (F v u) (EP X pins σ Q) X.xe s) :=
  fun pins s σ H x y v u Q I rx ry z => z pins s σ v u I rx ry
def eBin (g : O2) (fa fb : EM D) : EM D := fun τ st => (fa τ st).bind fun x s1 => (fb τ s1).bind fun y s2 => g x y s2
def wR2 (X : Cx) (f : Value → Value → Sem Value) (σ : L2.St) : R2 := fun x y H Q => ∀ (pins : List (Addr × Obj)) (s : Shared) (v u : Value), Inv X pins σ H s → RelV x v → RelV y u → wpAny (model X.prog X.w) X.A (f v u) (EP X pins σ Q) X.xe s
/-- two expressions in a row -/
theorem two {g : D → D → Store → ER α} {α' : Type} {RA : List Addr → Hp → α → α' → Prop} {Q : α' → Hp → Prop} (ha : Ex X W a fa) (hb : Ex X W b fb) {m : List Addr} {τ : Sl} {st : Store} {σ : L2.St} {H : Hp} (hL : SL X.K m H τ σ) (hS : SS X.kw m st H)
    (hP : Pe X.kw (fun c d H' => W c d σ H') RA m H ((fa τ st).bind fun x s1 => (fb τ s1).bind fun y s2 => g x y s2) Q) {R : V → V → Hp → Prop}
    (hk : ∀ (m2 : List Addr) (st2 : Store) (H2 : Hp) (dx dy : D) (x y : V), Ext X.K m H m2 H2 → SS X.kw m2 st2 H2 → RD X.K m2 H2 dx x → RD X.K m2 H2 dy y → Pe X.kw (fun c d H' => W c d σ H') RA m2 H2 (g dx dy st2) Q → R x y H2) :
    wE X a σ H fun x H1 => wE X b σ H1 fun y H2 => R x y H2 :=
  ha.run m τ st σ H _ hL hS (hP.bind fun dx s1 m1 H1 x e1 hS1 r1 hP1 => hb.run m1 τ s1 σ H1 _ (hL.mono e1) hS1 (hP1.bind fun dy s2 m2 H2 y e2 hS2 r2 hP2 => hk m2 s2 H2 dx dy x y (e1.trans e2) hS2 (r1.mono e2) r2 hP2))
theorem ex_op {op : Operator} {g : O2} (ho : OpM X W (binaryOp op) g) (ha : Ex X W a fa) (hb : Ex X W b fb) : Ex X W (.BinOp a op b pos) (eBin g fa fb) := by
  refine ⟨fun m τ st σ H Q hL hS hP pins s I => ?_⟩
  refine wpAny_BinOp (binT peW peW I (R := fun x y H2 => wR2 X (binaryOp op) σ x y H2 Q) (two ha hb hL hS hP fun m2 st2 H2 dx dy x y e2 hS2 r1 r2 hP2 pins s v u I rx ry => ho m2 st2 σ H2 dx dy x y Q hS2 r1 r2 hP2 pins s v u I rx ry) fun v u s2 x y H2 I2 rx ry q => q pins s2 v u I2 rx ry)
end
end HM

/-! HM, part P: new tuples as frozen ones, that have no dict of their own. -/
namespace HM
open PySem PySem.Spec PyProof.Rows L2
/-- a new tuple -/
abbrev TNew (Q : VK) (H : Hp) (xs : List V) : Prop := ∀ (p : Addr) (o : Obj), o.dict = none → H p = none → Q (.ref p) (upd H p (.frz o (.tup xs)))
section
variable {X : Cx} {es : List Expr} {e : Expr} {t : TA} {pos : Pos}
def tTupF (t : TA) : TE := fun σ H Q => t σ H fun xs H1 => xs.length ≤ sizeLine ∧ TNew Q H1 xs
theorem pe_tupF {x1} (h : PA X es t) : PE X (.Tuple es x1 pos) (tTupF t) := by
  refine ⟨fun pins s σ H Q I hq => ?_⟩
  refine wpAny_Tuple_spliced (thn (h.run pos pins s σ H _ I hq) fun us s1 ⟨xs, H1, I1, r, z, q⟩ => ⟨by rw [← r.length]; exact z, ?_⟩)
  have hf : H1 s1.heap.objs.size = none := I1.hok.fresh (Nat.le_refl _)
  refine ⟨.ref s1.heap.objs.size, upd H1 s1.heap.objs.size (.frz { cls := .type "tuple", data := .seq us.toArray } (.tup xs)), I1.laid (t' := s1.toks) (fun b u e => Heap.get?_push_of_some _ e) (Nat.le_refl _) ?_, rfl, q _ _ rfl hf⟩
  exact ⟨Heap.get?_push_size _ rfl, z, us, r, ⟨_, Heap.get?_push_size _ rfl, rfl, _, rfl⟩⟩
theorem call_tuple_ofF : CallR X (.type "tuple") (fun xs H Q => ∃ p ys, xs = [.ref p] ∧ ((SqL X.K H p ys ∧ TNew Q H ys) ∨ (SqT X.K H p ys ∧ Q (.ref p) H))) := by
  intro pins s σ H xs us Q I r h
  obtain ⟨p, ys, rfl, h⟩ := h
  obtain ⟨u, rfl, rx⟩ := vals1 r
  cases rx
  rcases h with ⟨hq, q⟩ | ⟨hq, q⟩
  · obtain ⟨its, r', pl, hz⟩ := I.list hq
    have hlen := r'.length
    refine call_tuple_list pl.isList (fun h' kp => ?_) (by simp only [List.size_toArray] <;> omega)
    have I1 : Inv X pins σ H { s with heap := h' } := I.kept (t' := s.toks) kp
    have I2 : Inv X pins σ (upd H h'.objs.size (.frz { cls := .type "tuple", data := .seq its.toArray } (.tup ys))) { s with heap := h'.push { cls := .type "tuple", data := .seq its.toArray } } :=
      I1.laid (t' := s.toks) (fun b o e => Heap.get?_push_of_some _ e) (Nat.le_refl _) ⟨Heap.get?_push_size _ rfl, (show ObjOk X.prog X.w _ _ _ (.tup ys) from ⟨hz, its, r', IsTup.new _ _⟩)⟩
    exact ⟨.ref h'.objs.size, _, I2, rfl, q _ _ rfl (I1.hok.fresh (Nat.le_refl _))⟩
  · obtain ⟨its, r', pl, hz⟩ := I.tuple hq
    exact call_tuple_same pl ⟨.ref p, H, I, rfl, q⟩
def rCatF (K : PySem.W.Frag) : R2 := fun x y H Q => ∃ a b xs ys, x = .ref a ∧ y = .ref b ∧ SqT K H a xs ∧ SqT K H b ys ∧ xs.length + ys.length ≤ sizeLine ∧
  (xs = [] → Q (.ref b) H) ∧ (xs ≠ [] → ys = [] → Q (.ref a) H) ∧ (xs ≠ [] → ys ≠ [] → TNew Q H (xs ++ ys))
theorem op_catF : OpR X (binaryOp .Add) (rCatF X.K) := by
  intro pins s σ H x y v u Q I rx ry h
  obtain ⟨a, b, xs, ys, rfl, rfl, ha, hb, hz, q0, q1, q2⟩ := h
  cases rx
  cases ry
  obtain ⟨its, r1, p1, _⟩ := I.tuple ha
  obtain ⟨its2, r2, p2, _⟩ := I.tuple hb
  by_cases hx : xs = []
  · subst hx
    cases r1
    exact cat_tup0 p1 p2 ⟨.ref b, H, I, rfl, q0 rfl⟩
  · refine HT.cat_tup p1 p2 (fun z => hx (r1.nil_iff.mp z)) (fun z => ⟨.ref a, H, I, rfl, q1 hx (r2.nil_iff.mp z)⟩) (fun z => ?_) (by rw [← r1.length, ← r2.length]; exact hz)
    refine ⟨.ref s.heap.objs.size, _, I.laid (t' := s.toks) (o := .frz { cls := .type "tuple", data := .seq (its ++ its2).toArray } (.tup (xs ++ ys))) (fun b ob q => Heap.get?_push_of_some _ q) (Nat.le_refl _) ⟨Heap.get?_push_size _ rfl, ?_⟩, rfl, q2 hx (fun w => z (r2.nil_iff.mpr w)) _ _ rfl (I.hok.fresh (Nat.le_refl _))⟩
    exact ⟨by rw [List.length_append]; exact hz, _, r1.append r2, IsTup.new _ _⟩
def rSlF (K : PySem.W.Frag) : V → Option Int → Option Int → Hp → VK → Prop := fun x lo hi H Q => ∃ a xs, x = .ref a ∧ SqT K H a xs ∧
  ¬ (HT.sIx xs.length 0 lo = 0 ∧ HT.sIx xs.length xs.length hi = xs.length) ∧ TNew Q H (cutV xs lo hi)
theorem sl_tupF : SlR X (rSlF X.K) := by
  intro pins s σ H x v vl vu lo hi sl Q I rx hs pl pu h
  obtain ⟨a, xs, rfl, hx, hw, q⟩ := h
  cases rx
  obtain ⟨its, r, ht, hz⟩ := I.tuple hx
  have hlen : its.toArray.size = xs.length := by rw [List.size_toArray]; exact r.length.symm
  refine ⟨"tuple", _, PyProof.Rows.slot_tuple_getitem.lookup, ht.typeIs, ?_⟩
  refine HT.getItem_tuple_cut ht hs pl pu (by rw [hlen]; exact hw) ?_ (by rw [hlen]; exact hz)
  rw [hlen]
  refine ⟨.ref s.heap.objs.size, _, I.laid (t' := s.toks) (o := .frz _ (.tup (cutV xs lo hi))) (fun b ob q => Heap.get?_push_of_some _ q) (Nat.le_refl _) ⟨Heap.get?_push_size _ rfl, ?_⟩, rfl, q _ _ ?_ (I.hok.fresh (Nat.le_refl _))⟩
  · exact ⟨Nat.le_trans (cutV_length xs lo hi) hz, _, (r.drop (HT.sIx xs.length 0 lo)).take (HT.sIx xs.length xs.length hi - HT.sIx xs.length 0 lo), IsTup.new _ _⟩
  · rfl
def tTupRgF (te : L2.St → Hp → (Int → Int → Hp → Prop) → Prop) : TE := fun σ H Q => te σ H fun a b H1 => RgOk a b ∧ TNew Q H1 (rgV a b)
theorem pe_tupRgF {p pos : Pos} {te : L2.St → Hp → (Int → Int → Hp → Prop) → Prop} (hc : X.calm = true) (hg : Gl X "tuple") (hm : X.mg "tuple" = none) (he : PRg X e te) (na : starEach [e] X.env = (false, eval e X.env) :: starEach [] X.env := by rfl) : PE X (.Call (.Name "tuple" p) [e] [] pos) (tTupRgF te) := by
  refine ⟨fun pins s σ H Q I h => ?_⟩
  refine Call_ (ld_blt I hg hm boot_tuple (PyProof.Rows.callWith_type1 (args_cons (thn (he pins s σ H _ I h) fun x s1 ⟨r, a, b, t, u, v, H1, ex, hr, I1, ok, q⟩ => args_nil ?_) na) na))
  subst ex
  obtain ⟨b1, b2, b3, b4, b5⟩ := ok
  refine call_tuple_range (n := (b - a).toNat) (I1.ok.hd hc) hr (small_one b1 b2 b3 b4) (rangeSize_nat a b) b5 fun h' tk acc hk hi => ?_
  have I2 : Inv X pins σ H1 { s1 with heap := h', toks := tk } := I1.kept hk
  refine ⟨.ref h'.objs.size, upd H1 h'.objs.size (.frz { cls := .type "tuple", data := .seq acc } (.tup (rgV a b))), I2.laid (t' := tk) (fun c o e => Heap.get?_push_of_some _ e) (Nat.le_refl _) ⟨Heap.get?_push_size _ rfl, (show ObjOk X.prog X.w _ _ _ (.tup (rgV a b)) from ⟨?_, acc.toList, vals_rg hi, ?_⟩)⟩, rfl, q _ _ rfl (I2.hok.fresh (Nat.le_refl _))⟩
  · rw [rgV_length, sizeLine_eq]; omega
  · rw [Array.toArray_toList]; exact IsTup.new _ _
def rRepF (K : PySem.W.Frag) : R2 := fun x y H Q => ∃ l k xs, x = .ref l ∧ y = .int k ∧ SqT K H l xs ∧ xs ≠ [] ∧ 2 ≤ k ∧ k ≤ 1000 ∧ xs.length ≤ 1000 ∧ TNew Q H (List.replicate k.toNat xs).flatten
theorem op_repF : OpR X (binaryOp .Mult) (rRepF X.K) := by
  intro pins s σ H x y v u Q I rx ry h
  obtain ⟨l, k, xs, rfl, rfl, hT, hne, h1, h2, hz, q⟩ := h
  cases rx
  obtain ⟨t, rfl⟩ := ry
  obtain ⟨its, r, ⟨⟨cls, dd, data, sl⟩, ho, hc, n, hd⟩, hs⟩ := I.tuple hT
  simp only at hc hd
  subst hc hd
  have hle : its.length = xs.length := r.length.symm
  have hn : its ≠ [] := fun e => hne (by
    rw [e] at hle
    exact List.eq_nil_of_length_eq_zero hle.symm)
  have hi : its.toArray.isEmpty = false := by
    cases its with
    | nil => exact absurd rfl hn
    | cons a b => rfl
  have hsz0 : its.toArray.size = xs.length := by rw [List.size_toArray, hle]
  have hm : ((its.toArray.size : Nat) : Int) * k ≤ 1000000 := by
    rw [hsz0]
    have a1 : ((xs.length : Nat) : Int) * k ≤ 1000 * k := Int.mul_le_mul_of_nonneg_right (by omega) (by omega)
    omega
  have flen : (List.replicate k.toNat its).flatten.length ≤ sizeLine := by
    rw [PyProof.Rows.lm_len_rep_flat, hle, sizeLine_eq]
    have a1 : k.toNat * xs.length ≤ 1000 * 1000 := Nat.mul_le_mul (by omega) hz
    omega
  have c0 : (decide (k < -(2 ^ 63)) || decide (k ≥ 2 ^ 63)) = false := by
    rw [decide_eq_false (by omega), decide_eq_false (by omega)] <;> rfl
  have c1 : (its.toArray.isEmpty || k == 1) = false := by
    rw [hi, Bool.false_or]
    exact beq_eq_false_iff_ne.mpr (by omega)
  have c2 : (decide (k ≤ 0) || its.toArray.isEmpty) = false := by
    rw [hi, Bool.or_false]
    exact decide_eq_false (by omega)
  have c4 : Builtin.Tuple.tupleTooMany (((its.toArray.size : Nat) : Int) * k) = false := by
    unfold Builtin.Tuple.tupleTooMany
    rw [sizeLine_eq]
    exact decide_eq_false (by omega)
  refine wpAny_binaryOp_repeat_ref (T := "tuple") (U := "int") (by decide) ⟨_, ho, rfl⟩ (fun s' => typeIs_int s' k t) noFill_tuple_mul F.fills_int_mul F.slot_int_rmul repeat_tuple F.slot_int_index.lookup
    (call_meets F.slot_int_rmul (typeIs_int s k t) F.entry_int_rmul (F.args_int_rmul_2 _ _) (int_rmul_tuple k t l its.toArray n dd sl)
      ⟨ho, rfl, ⟨_, ho, rfl⟩, call_meets F.slot_tuple_mul ⟨_, ho, rfl⟩ F.entry_tuple_mul (F.args_tuple_mul_2 _ _) (tuple_mulW l its.toArray n dd sl k t c0 c1 c2 (by omega) c4 (by rw [size_rep, List.size_toArray]; exact flen)) ⟨ho, ?_⟩⟩)
  rw [size_rep]
  refine ⟨.ref s.heap.objs.size, _, I.laid (t' := s.toks) (o := .frz _ (.tup (List.replicate k.toNat xs).flatten)) (fun b ob q => Heap.get?_push_of_some _ q) (Nat.le_refl _) ⟨Heap.get?_push_size _ rfl, ?_⟩, rfl, q _ _ ?_ (I.hok.fresh (Nat.le_refl _))⟩
  · exact ⟨by rw [PyProof.Rows.lm_len_rep_flat, sizeLine_eq]; have a1 : k.toNat * xs.length ≤ 1000 * 1000 := Nat.mul_le_mul (by omega) hz; omega, _, r.rep k.toNat, IsTup.new _ _⟩
  · rfl
end
/-! ### methods of frozen tuples -/
/-- the value is of that builtin type -/
def tyP (K : PySem.W.Frag) (T : String) (x : V) (H : Hp) : Prop := tyV K T x H ∨ (T = "tuple" ∧ ∃ (p : Addr) (o : Obj) (vs : List V), x = .ref p ∧ H p = some (.frz o (.tup vs)) ∧ o.dict = none)
section
variable {X : Cx} {pins : List (Addr × Obj)} {σ : L2.St} {H : Hp} {s : Shared}
theorem tyP_is {T : String} {x : V} {v : Value} (I : Inv X pins σ H s) (r : RelV x v) (ty : tyP X.K T x H) : s.TypeIs v T ∧ ∀ a, v = .ref a → ∃ ob, s.heap.get? a = some ob ∧ ob.dict = none := by
  rcases ty with ty | ⟨rfl, p, o, vs, rfl, hp, hd⟩
  · exact tyV_is I r ty
  · cases r
    obtain ⟨e, z, its, rv, ob, e2, hc, n, hdd⟩ := I.hok p _ hp
    rw [e] at e2
    cases e2
    exact ⟨⟨o, e, hc⟩, fun a ea => by cases ea; exact ⟨o, e, hd⟩⟩
end
section
variable {X : Cx} {o e : Expr} {es : List Expr} {to : TE} {t : TA} {name : Str} {apos cpos : Pos} {T id : String} {r : V → List V → Hp → VK → Prop}
def tBM0P (K : PySem.W.Frag) (T : String) (r : V → List V → Hp → VK → Prop) (to : TE) : TE := fun σ H Q => to σ H fun x H1 => tyP K T x H1 ∧ r x [] H1 Q
def tBMP (K : PySem.W.Frag) (T : String) (r : V → List V → Hp → VK → Prop) (to : TE) (t : TA) : TE := fun σ H Q => to σ H fun x H1 => tyP K T x H1 ∧ t σ H1 fun xs H2 => r x xs H2 Q
theorem pe_bm0P (pa : PlainAttrs T) (slot : Slot T name id) (hty : typeOf (.builtin id) = pure (.type "method_descriptor")) (hm : MtR X id r) (ho : PE X o to)
    (hbase : attributeBase o name X.env (eval o X.env) = eval o X.env := by rfl) (hline : (apos.endLine == cpos.line) = true := by rfl) : PE X (.Call (.Attribute o name apos) [] [] cpos) (tBM0P X.K T r to) := by
  refine ⟨fun pins s σ H Q I h => ?_⟩
  refine wpAny_Call_method0_late hbase hline (thn (ho.run pins s σ H _ I h) fun v s1 ⟨x, H1, I1, r1, ty, q1⟩ => ?_)
  obtain ⟨h1, h2⟩ := tyP_is I1 r1 ty
  exact ⟨T, id, pa, slot, hty, h1, h2, Calls.callWith_builtin rfl (PySem.evalArgs_none (hm pins s1 σ H1 x [] v [] Q I1 r1 .nil q1))⟩
theorem pe_bmP (pa : PlainAttrs T) (slot : Slot T name id) (hty : typeOf (.builtin id) = pure (.type "method_descriptor")) (hm : MtR X id r) (ho : PE X o to) (ha : PA X (e :: es) t)
    (hbase : attributeBase o name X.env (eval o X.env) = eval o X.env := by rfl)
    (hfew : ((backTo cpos (starEach (e :: es) X.env)).all (fun x => !x.1) && (backToKw cpos (keywordEach [] X.env)).all (fun x => x.1.isSome)
      && decide ((e :: es).length + ([] : List Keyword).length + (if ([] : List Keyword).isEmpty then 0 else 1) < 30)) = true := by rfl)
    (hline : (apos.endLine == cpos.line) = true := by rfl) (hs : starEach (e :: es) X.env = (false, eval e X.env) :: starEach es X.env := by rfl) (hplain : (backTo cpos (starEach es X.env)).any (·.1) = false := by rfl) :
    PE X (.Call (.Attribute o name apos) (e :: es) [] cpos) (tBMP X.K T r to t) := by
  refine ⟨fun pins s σ H Q I h => ?_⟩
  refine wpAny_Call_method_late hbase hfew hline rfl (thn (ho.run pins s σ H _ I h) fun v s1 ⟨x, H1, I1, r1, ty, q1⟩ => ?_)
  obtain ⟨h1, h2⟩ := tyP_is I1 r1 ty
  refine ⟨T, id, pa, slot, hty, h1, h2, ?_⟩
  have hA := ha.run cpos pins s1 σ H1 _ I1 q1
  rw [hs] at hA ⊢
  refine Calls.callWith_builtin (by show (false || (backTo cpos (starEach es X.env)).any (·.1)) = false; rw [hplain] <;> rfl) (Calls.evalArgs_plain ?_)
  exact thn hA fun us s2 ⟨vs, H2, I2, r2, q2⟩ => hm pins s2 σ H2 x vs v us Q I2 r1 r2 q2
end
end HM

/-! HM, part 3: operators by values. -/
namespace HM
open PySem PySem.Spec PyProof.Rows L2
section
variable {X : Cx} {W : WX}
theorem opm_of {f : Value → Value → Sem Value} {r : R2} {g : O2} (hr : OpR X f r) (h : ∀ (m : List Addr) (st : Store) (H : Hp) (dx dy : D) (x y : V) (E : XK) (Q : VK), SS X.kw m st H → RD X.K m H dx x → RD X.K m H dy y → Pe X.kw E (RD X.K) m H (g dx dy st) Q → r x y H Q) : OpM X W f g :=
  fun m st σ H dx dy x y Q hS r1 r2 hP pins s v u I rx ry => hr pins s σ H x y v u Q I rx ry (h m st H dx dy x y _ Q hS r1 r2 hP)
end
section
variable {K : KW} {E : XK} {m : List Addr} {st : Store} {H : Hp} {Q : VK}
/-- a new tuple -/
theorem Pe.tup {ds : List D} {vs : List V} (h : Pe K E (RD K) m H (.ok (.tup ds) st) Q) (s : SS K m st H) (r : RDs K m H ds vs) : TNew Q H vs := fun p o ho hp =>
  h m _ _ (Ext.fresh hp) (s.fresh hp) (.tup (PlT.of ho) (r.mono (Ext.fresh hp)))
/-- a new list of the store's -/
theorem SS.app {c : Cell} {p : Addr} {o : HO} (s : SS K m st H) (hp : H p = none) (r : RC K (m ++ [p]) (upd H p o) p c) : SS K (m ++ [p]) (st ++ [c]) (upd H p o) :=
  (s.fresh hp).grow (s.notin hp) r
theorem Pe.lst {ds : List D} {vs : List V} (h : Pe K E (RD K) m H (.ok (.ref st.length) (st ++ [.lst ds])) Q) (s : SS K m st H) (r : RDs K m H ds vs) : ∀ p, H p = none → Q (.ref p) (upd H p (.lst vs)) := fun p hp => by
  refine h (m ++ [p]) _ _ (Ext.app hp) (s.app hp ⟨vs, upd_same, r.mono (Ext.app hp)⟩) (.ref ?_)
  rw [← s.len]
  simp
end
/-- the items of a list -/
def lstAt (st : Store) (n : Nat) : Option (List D) := match st[n]? with
  | some (.lst xs) => some xs
  | _ => none
@[simp] theorem lstAt_app {st : Store} {xs : List D} : lstAt (st ++ [.lst xs]) st.length = some xs := by simp [lstAt]
theorem lstAt_left {st more : Store} {n : Nat} (h : n < st.length) : lstAt (st ++ more) n = lstAt st n := by
  unfold lstAt
  rw [List.getElem?_append_left h]
theorem SS.list {K : KW} {m : List Addr} {st : Store} {H : Hp} {n : Nat} {xs : List D} {a : Addr} (s : SS K m st H) (h : lstAt st n = some xs) (e : m[n]? = some a) : ∃ vs, H a = some (.lst vs) ∧ RDs K m H xs vs := by
  unfold lstAt at h
  split at h
  · rename_i ys q
    cases h
    exact s.cel n _ a q e
  · cases h
theorem lstAt_lt {st : Store} {n : Nat} {xs : List D} (h : lstAt st n = some xs) : n < st.length := by
  unfold lstAt at h
  split at h
  · rename_i q
    exact (List.getElem?_eq_some_iff.mp q).1
  · cases h

/-! ### arithmetic -/
def oAdd : O2 := fun x y st => match x, y with
  | .int i, .int j => .ok (.int (i + j)) st
  | .str a, .str b => if a.length + b.length ≤ 16777216 then .ok (.str (a ++ b)) st else .bad
  | .tup a, .tup b => if a.length + b.length ≤ 16777216 then .ok (.tup (a ++ b)) st else .bad
  | .ref a, .ref b => match lstAt st a, lstAt st b with
    | some xs, some ys => if xs.length + ys.length ≤ 16777216 then .ok (.ref st.length) (st ++ [.lst (xs ++ ys)]) else .bad
    | _, _ => .bad
  | _, _ => .bad
def oInt (g : Int → Int → Int) : O2 := fun x y st => match x, y with
  | .int i, .int j => .ok (.int (g i j)) st
  | _, _ => .bad
def oIntC (C : Int → Int → Bool) (g : Int → Int → Int) : O2 := fun x y st => match x, y with
  | .int i, .int j => if C i j then .ok (.int (g i j)) st else .bad
  | _, _ => .bad
abbrev oSub : O2 := oInt fun i j => i - j
def oIAdd : O2 := fun x y st => match x, y with
  | .int i, .int j => .ok (.int (i + j)) st
  | .str a, .str b => if a.length + b.length ≤ 16777216 then .ok (.str (a ++ b)) st else .bad
  | _, _ => .bad
def okMul (i j : Int) : Bool := decide ((i.natAbs < 18446744073709551616 ∨ j.natAbs < 18446744073709551616) ∨ i.natAbs.log2 + j.natAbs.log2 < 1000000)
def okDiv (_ j : Int) : Bool := decide (j ≠ 0 ∧ j.natAbs.log2 < 9000)
def okMod (_ j : Int) : Bool := decide (j ≠ 0)
def okPow (i j : Int) : Bool := decide (0 ≤ j ∧ j ≤ 1000000 ∧ i.natAbs < 18446744073709551616)
def okShr (_ j : Int) : Bool := decide (0 ≤ j)
abbrev oMulI : O2 := oIntC okMul fun i j => i * j
abbrev oDiv : O2 := oIntC okDiv fun i j => i.fdiv j
abbrev oMod : O2 := oIntC okMod fun i j => i.fmod j
abbrev oPow : O2 := oIntC okPow fun i j => i ^ j.toNat
abbrev oShl : O2 := oIntC okPow fun i j => i * 2 ^ j.toNat
abbrev oShr : O2 := oIntC okShr fun i j => i / 2 ^ j.toNat
abbrev oAnd : O2 := oInt Builtin.bitAnd
section
variable {X : Cx} {W : WX}
theorem line_of {n : Nat} (h : n ≤ 16777216) : n ≤ sizeLine := by
  rw [PySem.sizeLine_eq]
  exact h
theorem op_add_all : OpR X (binaryOp .Add) (fun x y H Q => (rI0 (fun i j => .int (i + j)) x y H Q ∨ (∃ i j, x = .str i ∧ y = .str j ∧ i.length + j.length ≤ sizeLine ∧ Q (.str (i ++ j)) H)) ∨ (rCatF X.K x y H Q ∨ rCat x y H Q)) :=
  (op_add.or op_add_str).or (op_catF.or op_cat)
theorem m_add : OpM X W (binaryOp .Add) oAdd := opm_of op_add_all fun m st H dx dy x y E Q hS r1 r2 hP => by
  unfold oAdd at hP
  split at hP
  · cases r1
    cases r2
    exact .inl (.inl ⟨_, _, rfl, rfl, hP.now hS (.int _)⟩)
  · split at hP
    · rename_i hl
      cases r1
      cases r2
      refine .inl (.inr ⟨_, _, rfl, rfl, line_of hl, ?_⟩)
      have q := hP.now hS (.str _)
      have e : ∀ a b : List Nat, (⟨(a ++ b).toArray⟩ : PySem.Str) = (⟨a.toArray⟩ : PySem.Str) ++ (⟨b.toArray⟩ : PySem.Str) := fun a b => by
        show (⟨(a ++ b).toArray⟩ : PySem.Str) = ⟨a.toArray ++ b.toArray⟩
        simp
      rw [e] at q
      exact q
    · exact hP.elim
  · split at hP
    · rename_i a b hl
      cases r1 with
      | tup s1 h1 =>
        rename_i va
        cases r2 with
        | tup s2 h2 =>
          rename_i vb
          refine .inr (.inl ⟨_, _, _, _, rfl, rfl, s1.sq, s2.sq, line_of (by rw [← h1.len, ← h2.len]; exact hl), fun e => ?_, fun _ e => ?_, fun _ _ => ?_⟩)
          · subst e
            cases h1
            exact hP.now hS (.tup s2 h2)
          · subst e
            cases h2
            rw [List.append_nil] at hP
            exact hP.now hS (.tup s1 h1)
          · exact hP.tup hS (h1.append h2)
    · exact hP.elim
  · rename_i a b
    split at hP
    · rename_i xs ys ex ey
      split at hP
      · rename_i hl
        cases r1 with
        | ref e1 =>
          cases r2 with
          | ref e2 =>
            obtain ⟨va, ha, ra⟩ := hS.list ex e1
            obtain ⟨vb, hb, rb⟩ := hS.list ey e2
            exact .inr (.inr ⟨_, _, va, vb, rfl, rfl, ha, hb, line_of (by rw [← ra.len, ← rb.len]; exact hl), hP.lst hS (ra.append rb)⟩)
      · exact hP.elim
    · exact hP.elim
  · exact hP.elim
theorem m_int {f : Value → Value → Sem Value} {g : Int → Int → Int} (h : OpR X f (rI0 fun i j => .int (g i j))) : OpM X W f (oInt g) := opm_of h fun m st H dx dy x y E Q hS r1 r2 hP => by
  unfold oInt at hP
  split at hP
  · cases r1
    cases r2
    exact ⟨_, _, rfl, rfl, hP.now hS (.int _)⟩
  · exact hP.elim
theorem m_intC {f : Value → Value → Sem Value} {C : Int → Int → Bool} {C' : Int → Int → Prop} {g : Int → Int → Int} (h : OpR X f (rI C' fun i j => .int (g i j))) (hC : ∀ i j, C i j = true → C' i j) : OpM X W f (oIntC C g) := opm_of h fun m st H dx dy x y E Q hS r1 r2 hP => by
  unfold oIntC at hP
  split at hP
  · split at hP
    · rename_i hc
      cases r1
      cases r2
      exact ⟨_, _, rfl, rfl, hC _ _ hc, hP.now hS (.int _)⟩
    · exact hP.elim
  · exact hP.elim
theorem m_sub : OpM X W (binaryOp .Sub) oSub := m_int op_sub
theorem op_mulAny : OpR X (binaryOp .Mult) (rI IntMulOk fun i j => .int (i * j)) := opI fun _ _ _ _ _ _ _ hc q => mul_int q hc
theorem m_mulI : OpM X W (binaryOp .Mult) oMulI := m_intC op_mulAny fun i j h => by
  have q : (i.natAbs < 18446744073709551616 ∨ j.natAbs < 18446744073709551616) ∨ i.natAbs.log2 + j.natAbs.log2 < 1000000 := of_decide_eq_true h
  rcases q with (q | q) | q
  · exact CMul.ok (.inl (by omega))
  · exact CMul.ok (.inr (by omega))
  · exact CMulW.ok q
theorem op_fdivAny : OpR X (binaryOp .FloorDiv) (rI (fun _ j => j ≠ 0 ∧ j.natAbs.log2 < 9000) fun i j => .int (i.fdiv j)) := opI fun _ _ _ _ _ _ _ hc q => floordiv_int hc.1 q (.inl (PyProof.noPylong_of_log2 hc.2))
theorem m_div : OpM X W (binaryOp .FloorDiv) oDiv := m_intC op_fdivAny fun i j h => of_decide_eq_true h
theorem m_mod : OpM X W (binaryOp .Mod) oMod := m_intC op_modN fun i j h => of_decide_eq_true h
theorem ok_pow {i j : Int} (h : okPow i j = true) : CPow i j := by
  have q : 0 ≤ j ∧ j ≤ 1000000 ∧ i.natAbs < 18446744073709551616 := of_decide_eq_true h
  exact q
theorem m_pow : OpM X W (binaryOp .Pow) oPow := m_intC op_pow fun i j h => ok_pow h
theorem m_shl : OpM X W (binaryOp .LShift) oShl := m_intC op_shl fun i j h => ok_pow h
theorem m_shr : OpM X W (binaryOp .RShift) oShr := m_intC op_shr fun i j h => of_decide_eq_true h
theorem m_and : OpM X W (binaryOp .BitAnd) oAnd := m_int op_and
/-- in place -/
theorem mi_add : OpM X W (inplaceOp .Add) oIAdd := opm_of (iop_add.or iop_add_str) fun m st H dx dy x y E Q hS r1 r2 hP => by
  unfold oIAdd at hP
  split at hP
  · cases r1
    cases r2
    exact .inl ⟨_, _, rfl, rfl, hP.now hS (.int _)⟩
  · split at hP
    · rename_i hl
      cases r1
      cases r2
      refine .inr ⟨_, _, rfl, rfl, line_of hl, ?_⟩
      have q := hP.now hS (.str _)
      have e : ∀ a b : List Nat, (⟨(a ++ b).toArray⟩ : PySem.Str) = (⟨a.toArray⟩ : PySem.Str) ++ (⟨b.toArray⟩ : PySem.Str) := fun a b => by
        show (⟨(a ++ b).toArray⟩ : PySem.Str) = ⟨a.toArray ++ b.toArray⟩
        simp
      rw [e] at q
      exact q
    · exact hP.elim
  · exact hP.elim
theorem mi_sub : OpM X W (inplaceOp .Sub) oSub := m_int iop_sub
end

/-! ### == by what is data -/
def D.toP : Nat → D → PyData
  | _, .int i => .int i
  | _, .str x => .str ⟨x.toArray⟩
  | n + 1, .tup xs => .tuple (xs.map (D.toP n))
  | _, .bl b => .bool b
  | _, _ => .none
theorem plain_all {K : PySem.W.Frag} {m : List Addr} {H : Hp} {n : Nat} (ih : ∀ (d : D) (v : V), d.plain n = true → RD K m H d v → Dp K H v (d.toP n) ∧ (d.toP n).canLay0 = true ∧ (d.toP n).depth ≤ n) : ∀ (ds : List D) (vs : List V), ds.all (D.plain n) = true → RDs K m H ds vs →
    DpAll K H vs (ds.map (D.toP n)) ∧ PyData.canLayAll0 (ds.map (D.toP n)) = true ∧ PyData.depthAll (ds.map (D.toP n)) ≤ n
  | [], _, _, r => by
    cases r
    exact ⟨.nil, by simp [PyData.canLayAll0], by simp [PyData.depthAll]⟩
  | d :: ds, _, h, r => by
    cases r with
    | cons r1 r2 =>
      rw [List.all_cons, Bool.and_eq_true] at h
      obtain ⟨a1, a2, a3⟩ := ih d _ h.1 r1
      obtain ⟨b1, b2, b3⟩ := plain_all ih ds _ h.2 r2
      refine ⟨.cons a1 b1, ?_, ?_⟩
      · simp only [List.map_cons, PyData.canLayAll0, a2, b2, Bool.and_self]
      · simp only [List.map_cons, PyData.depthAll]
        omega
theorem str_ok {x : List Nat} {n : Nat} (h : (x.all fun c => decide (c < 1114112)) = true) : ((D.str x).toP n).canLay0 = true := by
  have e : (D.str x).toP n = .str ⟨x.toArray⟩ := by cases n <;> rfl
  rw [e]
  simp only [PyData.canLay0, PyData.strOk]
  simpa using h
theorem plain_dp {K : PySem.W.Frag} {m : List Addr} {H : Hp} : ∀ (n : Nat) (d : D) (v : V), d.plain n = true → RD K m H d v → Dp K H v (d.toP n) ∧ (d.toP n).canLay0 = true ∧ (d.toP n).depth ≤ n := by
  intro n
  induction n with
  | zero =>
    intro d v h r
    cases r <;> simp [D.plain] at h
    · exact ⟨.non, by simp [D.toP, PyData.canLay0], by simp [D.toP, PyData.depth]⟩
    · exact ⟨.int _, by simp [D.toP, PyData.canLay0], by simp [D.toP, PyData.depth]⟩
    · exact ⟨.str _, str_ok (by simpa using h), by simp [D.toP, PyData.depth]⟩
  | succ n ih =>
    intro d v h r
    cases r with
    | non => exact ⟨.non, by simp [D.toP, PyData.canLay0], by simp [D.toP, PyData.depth]⟩
    | int i => exact ⟨.int _, by simp [D.toP, PyData.canLay0], by simp [D.toP, PyData.depth]⟩
    | str x => exact ⟨.str _, str_ok h, by simp [D.toP, PyData.depth]⟩
    | tup s rs =>
      rename_i a vs ds
      obtain ⟨b1, b2, b3⟩ := plain_all ih ds vs h rs
      refine ⟨.tup s.sq b1, by simpa only [D.toP, PyData.canLay0] using b2, ?_⟩
      simp only [D.toP, PyData.depth]
      omega
    | _ => simp [D.plain] at h
theorem eqvAll_map {n : Nat} (ih : ∀ x y : D, x.plain n = true → y.plain n = true → PyData.eqv (x.toP n) (y.toP n) = decide (x = y)) : ∀ xs ys : List D, xs.all (D.plain n) = true → ys.all (D.plain n) = true → PyData.eqvAll (xs.map (D.toP n)) (ys.map (D.toP n)) = decide (xs = ys)
  | [], [], _, _ => by simp [PyData.eqvAll]
  | [], _ :: _, _, _ => by simp [PyData.eqvAll]
  | _ :: _, [], _, _ => by simp [PyData.eqvAll]
  | x :: xs, y :: ys, h1, h2 => by
    rw [List.all_cons, Bool.and_eq_true] at h1 h2
    simp only [List.map_cons, PyData.eqvAll, ih x y h1.1 h2.1, eqvAll_map ih xs ys h1.2 h2.2, List.cons.injEq, Bool.decide_and]
theorem eqv_plain : ∀ (n : Nat) (x y : D), x.plain n = true → y.plain n = true → PyData.eqv (x.toP n) (y.toP n) = decide (x = y) := by
  intro n
  induction n with
  | zero =>
    intro x y h1 h2
    cases x <;> simp [D.plain] at h1 <;> cases y <;> simp [D.plain] at h2 <;> simp [D.toP, PyData.eqv]
    all_goals first | rfl | (rw [Bool.eq_iff_iff]; simp)
  | succ n ih =>
    intro x y h1 h2
    cases x <;> simp only [D.plain, Bool.false_eq_true] at h1 <;> cases y <;> simp only [D.plain, Bool.false_eq_true] at h2 <;> first
      | (simp only [D.toP, PyData.eqv, D.tup.injEq]; exact eqvAll_map ih _ _ h1 h2)
      | (simp only [D.toP, PyData.eqv]; first | rfl | (rw [Bool.eq_iff_iff]; simp))
/-- a value as data that == compares: one by itself, or a list -/
def D.pd (st : Store) (d : D) : Option (D ⊕ List D) := match d with
  | .ref n => match lstAt st n with
    | some xs => if xs.all (D.plain 59) then some (.inr xs) else none
    | none => none
  | .rol xs => if xs.all (D.plain 59) then some (.inr xs) else none
  | d => if d.plain 60 then some (.inl d) else none
def pdP : D ⊕ List D → PyData
  | .inl d => d.toP 60
  | .inr xs => .list (xs.map (D.toP 59))
theorem pd_dp {K : KW} {m : List Addr} {st : Store} {H : Hp} {d : D} {v : V} {p : D ⊕ List D} (s : SS K m st H) (h : d.pd st = some p) (r : RD K m H d v) : Dp K H v (pdP p) ∧ SeqAt.shaped (pdP p) = true := by
  have fin : ∀ {q : PyData}, q.canLay0 = true → q.depth ≤ 60 → SeqAt.shaped q = true := fun {q} h1 h2 => by
    unfold SeqAt.shaped
    rw [h1, Bool.true_and, decide_eq_true_eq]
    omega
  have one : ∀ {d : D}, RD K m H d v → d.plain 60 = true → Dp K H v (d.toP 60) ∧ SeqAt.shaped (d.toP 60) = true := fun {d} r h => by
    obtain ⟨a, b, c⟩ := plain_dp 60 d v h r
    exact ⟨a, fin b c⟩
  have lst : ∀ {xs : List D} {vs : List V} {a : Addr}, SqL K H a vs → RDs K m H xs vs → xs.all (D.plain 59) = true → Dp K H (.ref a) (.list (xs.map (D.toP 59))) ∧ SeqAt.shaped (.list (xs.map (D.toP 59))) = true := fun {xs vs a} hl rs h => by
    obtain ⟨a, b, c⟩ := plain_all (plain_dp 59) xs vs h rs
    refine ⟨.lst hl a, fin (by simpa only [PyData.canLay0] using b) ?_⟩
    simp only [PyData.depth]
    omega
  unfold D.pd at h
  split at h
  · split at h
    · split at h
      · rename_i n _ xs e ha
        cases h
        cases r with
        | ref q =>
          obtain ⟨vs, h1, h2⟩ := s.list e q
          exact lst (SqL.of h1) h2 ha
      · cases h
    · cases h
  · split at h
    · rename_i ha
      cases h
      cases r with
      | rol q rs => exact lst q.sq rs ha
    · cases h
  · split at h
    · rename_i ha
      cases h
      exact one r ha
    · cases h
theorem pd_ok {st : Store} {d : D} {p : D ⊕ List D} (h : d.pd st = some p) : (∃ e : D, p = .inl e ∧ e.plain 60 = true) ∨ ∃ xs : List D, p = .inr xs ∧ xs.all (D.plain 59) = true := by
  unfold D.pd at h
  split at h
  · split at h
    · split at h
      · cases h
        exact .inr ⟨_, rfl, by assumption⟩
      · cases h
    · cases h
  · split at h
    · cases h
      exact .inr ⟨_, rfl, by assumption⟩
    · cases h
  · split at h
    · cases h
      exact .inl ⟨_, rfl, by assumption⟩
    · cases h
theorem pd_eqv {st st' : Store} {d e : D} {p q : D ⊕ List D} (h : d.pd st = some p) (h' : e.pd st' = some q) : PyData.eqv (pdP p) (pdP q) = decide (p = q) := by
  rcases pd_ok h with ⟨x, rfl, hx⟩ | ⟨xs, rfl, hx⟩
  · rcases pd_ok h' with ⟨y, rfl, hy⟩ | ⟨ys, rfl, hy⟩
    · show PyData.eqv (x.toP 60) (y.toP 60) = _
      rw [eqv_plain 60 x y hx hy]
      simp
    · show PyData.eqv (x.toP 60) _ = _
      cases x <;> simp [D.plain] at hx <;> simp [D.toP, pdP, PyData.eqv]
  · rcases pd_ok h' with ⟨y, rfl, hy⟩ | ⟨ys, rfl, hy⟩
    · show PyData.eqv _ (y.toP 60) = _
      cases y <;> simp [D.plain] at hy <;> simp [D.toP, pdP, PyData.eqv]
    · show PyData.eqvAll (xs.map (D.toP 59)) (ys.map (D.toP 59)) = _
      rw [eqvAll_map (eqv_plain 59) xs ys hx hy]
      simp
def dEq (x y : D) (st : Store) : Option Bool := match x, y with
  | .str a, .str b => some (decide (a = b))
  | .bl a, .bl b => some (decide (a = b))
  | .int a, .int b => some (decide (a = b))
  | .bl a, .int b => some (decide ((if a then 1 else 0) = b))
  | .int a, .bl b => some (decide (a = (if b then 1 else 0)))
  | x, y => match x.pd st, y.pd st with
    | some p, some q => some (decide (p = q))
    | _, _ => none
def oEq : O2 := fun x y st => match dEq x y st with
  | some b => .ok (.bl b) st
  | none => .bad
def oNe : O2 := fun x y st => match dEq x y st with
  | some b => .ok (.bl !b) st
  | none => .bad
section
variable {X : Cx} {W : WX}
theorem m_eqB {op : CmpOp} {neg : Bool → Bool} {r1 r2 : R2} (h1 : OpR X (compareOp op) r1) (h2 : OpR X (compareOp op) r2) (s1 : ∀ x y H Q, scal x y = true → Q (.bl (neg (decide (x = y)))) H → r1 x y H Q)
    (s2 : ∀ x y H Q d e, Dp X.K H x d → Dp X.K H y e → SeqAt.shaped d = true → SeqAt.shaped e = true → Q (.bl (neg (PyData.eqv d e))) H → r2 x y H Q) : OpM X W (compareOp op) (fun x y st => match dEq x y st with
    | some b => .ok (.bl (neg b)) st
    | none => .bad) := opm_of (h1.or h2) fun m st H dx dy x y E Q hS ra rb hP => by
  split at hP
  · rename_i b hb
    have q := hP.now hS (.bl _)
    unfold dEq at hb
    split at hb
    · cases ra
      cases rb
      cases hb
      refine .inl (s1 _ _ _ _ rfl ?_)
      simpa using q
    · cases ra
      cases rb
      cases hb
      refine .inl (s1 _ _ _ _ rfl ?_)
      simpa using q
    · cases ra
      cases rb
      cases hb
      refine .inl (s1 _ _ _ _ rfl ?_)
      simpa using q
    · cases ra
      cases rb
      cases hb
      refine .inr (s2 _ _ _ _ _ _ (.bl _) (.int _) rfl rfl ?_)
      simpa [PyData.eqv, Bool.beq_eq_decide_eq] using q
    · cases ra
      cases rb
      cases hb
      refine .inr (s2 _ _ _ _ _ _ (.int _) (.bl _) rfl rfl ?_)
      simpa [PyData.eqv, Bool.beq_eq_decide_eq] using q
    · split at hb
      · rename_i p q' e1 e2
        cases hb
        obtain ⟨a1, a2⟩ := pd_dp hS e1 ra
        obtain ⟨b1, b2⟩ := pd_dp hS e2 rb
        refine .inr (s2 _ _ _ _ _ _ a1 b1 a2 b2 ?_)
        rw [pd_eqv e1 e2]
        exact q
      · cases hb
  · exact hP.elim
theorem m_eq (hu : X.A.units + 64 < cLine) : OpM X W (compareOp .Eq) oEq := m_eqB (neg := id) op_eq (op_eqD hu) (fun x y H Q h q => ⟨h, q⟩) fun x y H Q d e h1 h2 h3 h4 q => ⟨d, e, h1, h2, h3, h4, q⟩
theorem m_ne (hu : X.A.units + 64 < cLine) : OpM X W (compareOp .NotEq) oNe := m_eqB (neg := Bool.not) op_ne (op_neD hu) (fun x y H Q h q => ⟨h, q⟩) fun x y H Q d e h1 h2 h3 h4 q => ⟨d, e, h1, h2, h3, h4, q⟩
/-! ### order of ints, is -/
def oCmp (g : Int → Int → Bool) : O2 := fun x y st => match x, y with
  | .int i, .int j => .ok (.bl (g i j)) st
  | _, _ => .bad
theorem m_cmp {f : Value → Value → Sem Value} {g : Int → Int → Bool} (h : OpR X f (rI0 fun i j => .bl (g i j))) : OpM X W f (oCmp g) := opm_of h fun m st H dx dy x y E Q hS r1 r2 hP => by
  unfold oCmp at hP
  split at hP
  · cases r1
    cases r2
    exact ⟨_, _, rfl, rfl, hP.now hS (.bl _)⟩
  · exact hP.elim
abbrev oLtI : O2 := oCmp fun i j => decide (i < j)
abbrev oLe : O2 := oCmp fun i j => decide (i ≤ j)
abbrev oGt : O2 := oCmp fun i j => decide (j < i)
abbrev oGe : O2 := oCmp fun i j => decide (j ≤ i)
theorem m_ltI : OpM X W (compareOp .Lt) oLtI := m_cmp op_lt
theorem m_le : OpM X W (compareOp .LtE) oLe := m_cmp op_le
theorem m_gt : OpM X W (compareOp .Gt) oGt := m_cmp op_gt
theorem m_ge : OpM X W (compareOp .GtE) oGe := m_cmp op_ge
def dIs (x y : D) : Option Bool := match x, y with
  | .non, .non => some true
  | .bl _, .non | .int _, .non | .str _, .non | .tup _, .non | .ref _, .non | .rol _, .non => some false
  | .bl a, .bl b => some (decide (a = b))
  | _, _ => none
def oIs : O2 := fun x y st => match dIs x y with
  | some b => .ok (.bl b) st
  | none => .bad
def oIsNot : O2 := fun x y st => match dIs x y with
  | some b => .ok (.bl !b) st
  | none => .bad
theorem m_isB {op : CmpOp} {neg : Bool → Bool} {r1 r2 : R2} (h1 : OpR X (compareOp op) r1) (h2 : OpR X (compareOp op) r2) (s1 : ∀ x H (Q : VK), Q (.bl (neg (decide (x = .non)))) H → r1 x .non H Q)
    (s2 : ∀ a b H (Q : VK), Q (.bl (neg (decide (a = b)))) H → r2 (.bl a) (.bl b) H Q) : OpM X W (compareOp op) (fun x y st => match dIs x y with
    | some b => .ok (.bl (neg b)) st
    | none => .bad) := opm_of (h1.or h2) fun m st H dx dy x y E Q hS ra rb hP => by
  split at hP
  · rename_i b hb
    have q := hP.now hS (.bl _)
    unfold dIs at hb
    split at hb <;> cases hb <;> cases ra <;> cases rb <;> first | exact .inl (s1 _ _ _ q) | exact .inr (s2 _ _ _ _ q)
  · exact hP.elim
theorem m_is : OpM X W (compareOp .Is) oIs := m_isB (neg := id) op_isN op_is_bl (fun x H Q q => ⟨rfl, q⟩) fun a b H Q q => ⟨_, _, rfl, rfl, q⟩
theorem m_isnot : OpM X W (compareOp .IsNot) oIsNot := m_isB (neg := Bool.not) op_notN op_isnot_bl (fun x H Q q => ⟨rfl, q⟩) fun a b H Q q => ⟨_, _, rfl, rfl, q⟩
end
end HM

/-! HM, part 4: expressions. -/
namespace HM
open PySem PySem.Spec PyProof.Rows L2
section
variable {X : Cx} {W : WX} {e a b c : Expr} {es rest : List Expr} {pos : Pos} {f fa fb fc : EM D} {fs : EM (List D)} {g ga gb : EM Bool}

/-! ### unary, comparisons -/
def eUn (o : O1) (fa : EM D) : EM D := fun τ st => (fa τ st).bind o
def UnM (X : Cx) (W : WX) (F : Value → Sem Value) (g : O1) : Prop :=
  ∀ (m : List Addr) (st : Store) (σ : L2.St) (H : Hp) (dx : D) (x : V) (Q : VK), SS X.kw m st H → RD X.K m H dx x → Pe X.kw (fun c d H' => W c d σ H') (RD X.K) m H (g dx st) Q →
    ∀ (pins : List (Addr × Obj)) (s : Shared) (v : Value), Inv X pins σ H s → RelV x v → wpAny (model X.prog X.w) X.A (F v) (EP X pins σ Q) X.xe s
theorem ex_un {op : UnaryOp} {o : O1} (ho : UnM X W (unaryOp op) o) (ha : Ex X W a fa) : Ex X W (.UnaryOp op a pos) (eUn o fa) := by
  refine ⟨fun m τ st σ H Q hL hS hP pins s I => ?_⟩
  refine UnaryOp_ (thn (ha.run m τ st σ H (fun x H1 => ∀ (pins : List (Addr × Obj)) (s : Shared) (v : Value), Inv X pins σ H1 s → RelV x v → wpAny (model X.prog X.w) X.A (unaryOp op v) (EP X pins σ Q) X.xe s) hL hS (hP.bind fun dx s1 m1 H1 x e1 hS1 r1 hP1 pins s v I rx => ho m1 s1 σ H1 dx x Q hS1 r1 hP1 pins s v I rx) pins s I) fun v s1 ⟨x, H1, I1, r1, q1⟩ => q1 pins s1 v I1 r1)
def oNeg : O1 := fun x st => match x with
  | .int i => .ok (.int (-i)) st
  | _ => .bad
theorem m_neg : UnM X W (unaryOp .USub) oNeg := fun m st σ H dx x Q hS r hP pins s v I rx => by
  unfold oNeg at hP
  split at hP
  · cases r
    exact un_neg pins s σ H _ v Q I rx ⟨_, rfl, hP.now hS (.int _)⟩
  · exact hP.elim
theorem ex_cmp {op : CmpOp} {o : O2} (ho : OpM X W (compareOp op) o) (ha : Ex X W a fa) (hb : Ex X W b fb) (hm : behindInMarks op b = false) : Ex X W (.Compare a [op] [b] pos) (eBin o fa fb) := by
  refine ⟨fun m τ st σ H Q hL hS hP pins s I => ?_⟩
  exact wpAny_Compare1 (binT peW peW I (R := fun x y H2 => wR2 X (compareOp op) σ x y H2 Q) (two ha hb hL hS hP fun m2 st2 H2 dx dy x y e2 hS2 r1 r2 hP2 pins s v u I rx ry => ho m2 st2 σ H2 dx dy x y Q hS2 r1 r2 hP2 pins s v u I rx ry) fun v u s2 x y H2 I2 rx ry q => q pins s2 v u I2 rx ry) hm
/-- a bool as a test -/
def dBl (x : D) (st : Store) : ER Bool := match x with
  | .bl b => .ok b st
  | _ => .bad
def tBl (fa : EM D) : EM Bool := fun τ st => (fa τ st).bind dBl
theorem bl_post {K : KW} {E : XK} {m : List Addr} {H : Hp} {dx : D} {s1 : Store} {x : V} {Q : Bool → Hp → Prop} (hS : SS K m s1 H) (r : RD K m H dx x) (hP : Pe K E RB m H (dBl dx s1) Q) : ∃ k, x = .bl k ∧ Q k H := by
  unfold dBl at hP
  split at hP
  · cases r
    exact ⟨_, rfl, hP.now hS rfl⟩
  · exact hP.elim
theorem et_cmp {op : CmpOp} {o : O2} (ho : OpM X W (compareOp op) o) (ha : Ex X W a fa) (hb : Ex X W b fb) (hm : behindInMarks op b = false) : Et X W (.Compare a [op] [b] pos) (tBl (eBin o fa fb)) := by
  refine ⟨fun m τ st σ H Q hL hS hP pins s I => ?_⟩
  have q : wE X (.Compare a [op] [b] pos) σ H fun x H1 => ∃ k, x = .bl k ∧ Q k H1 := (ex_cmp ho ha hb hm).run m τ st σ H _ hL hS (hP.bind fun dx s1 m1 H1 x e1 hS1 r1 hP1 => bl_post hS1 r1 hP1)
  refine wpAny_isTrue_Compare1 (binT peW peW I (R := fun x y H2 => wR2 X (compareOp op) σ x y H2 fun x H1 => ∃ k, x = .bl k ∧ Q k H1) ?_ fun v u s2 x y H2 I2 rx ry q => thn (q pins s2 v u I2 rx ry) fun c s3 ⟨x, H1, I1, r1, q1⟩ => ?_) hm
  · have hP' : Pe X.kw (fun c d H' => W c d σ H') (RD X.K) m H (eBin o fa fb τ st) fun x H1 => ∃ k, x = .bl k ∧ Q k H1 := hP.bind fun dx s1 m1 H1 x e1 hS1 r1 hP1 => bl_post hS1 r1 hP1
    exact two ha hb hL hS hP' fun m2 st2 H2 dx dy x y e2 hS2 r1 r2 hP2 pins s v u I rx ry => ho m2 st2 σ H2 dx dy x y _ hS2 r1 r2 hP2 pins s v u I rx ry
  · obtain ⟨k, rfl, q1⟩ := q1
    cases r1
    exact wpAny_truthy_bool ⟨H1, I1, q1⟩
/-- a chain of two comparisons -/
def eChain (o o' : O2) (fa fb fc : EM D) : EM D := fun τ st => (fa τ st).bind fun x s1 => (fb τ s1).bind fun y s2 => (o x y s2).bind fun z s3 => match z with
  | .bl true => (fc τ s3).bind fun w s4 => o' y w s4
  | .bl false => .ok (.bl false) s3
  | _ => .bad
theorem chain_read {op op' : CmpOp} {o o' : O2} (ho : OpM X W (compareOp op) o) (ho' : OpM X W (compareOp op') o') (ha : Ex X W a fa) (hb : Ex X W b fb) (hc : Ex X W c fc) {m : List Addr} {τ : Sl} {st : Store} {σ : L2.St} {H : Hp} {Q : VK} (hL : SL X.K m H τ σ) (hS : SS X.kw m st H)
    (hP : Pe X.kw (fun c d H' => W c d σ H') (RD X.K) m H (eChain o o' fa fb fc τ st) Q) : tChain (fun x y H Q => wR2 X (compareOp op) σ x y H Q) (fun x y H Q => wR2 X (compareOp op') σ x y H Q) (wE X a) (wE X b) (wE X c) σ H Q := by
  refine two ha hb hL hS hP fun m2 st2 H2 dx dy x y e2 hS2 r1 r2 hP2 pins s v u I rx ry => ?_
  refine ho m2 st2 σ H2 dx dy x y _ hS2 r1 r2 (hP2.bind fun dz s3 m3 H3 z e3 hS3 r3 hP3 => ?_) pins s v u I rx ry
  split at hP3
  · cases r3
    refine ⟨true, rfl, ?_⟩
    rw [if_pos rfl]
    exact hc.run m3 τ s3 σ H3 _ (hL.mono (e2.trans e3)) hS3 (hP3.bind fun dw s4 m4 H4 w e4 hS4 r4 hP4 pins s v u I rx ry => ho' m4 s4 σ H4 dy dw y w Q hS4 ((r2.mono e3).mono e4) r4 hP4 pins s v u I rx ry)
  · cases r3
    refine ⟨false, rfl, ?_⟩
    rw [if_neg Bool.false_ne_true]
    exact hP3.now hS3 (.bl _)
  · exact hP3.elim
/-- a rule of the layer's whose premises may speak of the slots at hand -/
theorem oprS {F : Value → Value → Sem Value} {σ : L2.St} : ∀ (pins : List (Addr × Obj)) (s : Shared) (H : Hp) (x y : V) (v u : Value) (Q : VK), Inv X pins σ H s → RelV x v → RelV y u → wR2 X F σ x y H Q → wpAny (model X.prog X.w) X.A (F v u) (EP X pins σ Q) X.xe s :=
  fun pins s H x y v u Q I rx ry q => q pins s v u I rx ry
theorem ex_chain {op op' : CmpOp} {o o' : O2} (ho : OpM X W (compareOp op) o) (ho' : OpM X W (compareOp op') o') (ha : Ex X W a fa) (hb : Ex X W b fb) (hc : Ex X W c fc) (hm : lastMarks [op, op'] [b, c] = false := by with_unfolding_all rfl) : Ex X W (.Compare a [op, op'] [b, c] pos) (eChain o o' fa fb fc) := by
  refine ⟨fun m τ st σ H Q hL hS hP pins s I => ?_⟩
  have h := chain_read ho ho' ha hb hc hL hS hP
  refine Compare_chain (thn (peW.run pins s σ H _ I h) fun v s1 ⟨x, H1, I1, r1, q1⟩ => chain_link (thn (peW.run pins s1 σ H1 _ I1 q1) fun u s2 ⟨y, H2, I2, r2, q2⟩ =>
    thn (q2 pins s2 v u I2 r1 r2) fun d s3 ⟨z, H3, I3, r3, k, e, q3⟩ => ?_)) hm
  subst e
  cases r3
  refine wpAny_truthy_bool ?_
  cases k with
  | false => exact ite_ff ⟨.bl false, H3, I3, rfl, q3⟩
  | true => exact ite_tt (chain_last (thn (peW.run pins s3 σ H3 _ I3 q3) fun w' s4 ⟨z', H4, I4, r4, q4⟩ => q4 pins s4 u w' I4 r2 r4))
theorem et_chain {op op' : CmpOp} {o o' : O2} (ho : OpM X W (compareOp op) o) (ho' : OpM X W (compareOp op') o') (ha : Ex X W a fa) (hb : Ex X W b fb) (hc : Ex X W c fc) (hm : lastMarks [op, op'] [b, c] = false := by with_unfolding_all rfl) : Et X W (.Compare a [op, op'] [b, c] pos) (tBl (eChain o o' fa fb fc)) := by
  refine ⟨fun m τ st σ H Q hL hS hP pins s I => ?_⟩
  have hP' : Pe X.kw (fun c d H' => W c d σ H') (RD X.K) m H (eChain o o' fa fb fc τ st) fun x H1 => ∃ k, x = .bl k ∧ Q k H1 := hP.bind fun dx s1 m1 H1 x e1 hS1 r1 hP1 => bl_post hS1 r1 hP1
  have h := chain_read ho ho' ha hb hc hL hS hP'
  refine isTrue_chain (thn (peW.run pins s σ H _ I h) fun v s1 ⟨x, H1, I1, r1, q1⟩ => test_link (thn (peW.run pins s1 σ H1 _ I1 q1) fun u s2 ⟨y, H2, I2, r2, q2⟩ =>
    thn (q2 pins s2 v u I2 r1 r2) fun d s3 ⟨z, H3, I3, r3, k, e, q3⟩ => ?_)) hm
  subst e
  cases r3
  refine wpAny_truthy_bool ?_
  cases k with
  | false =>
    obtain ⟨k', e', q'⟩ := q3
    cases e'
    exact ite_ff ⟨H3, I3, q'⟩
  | true =>
    refine ite_tt (test_last (thn (peW.run pins s3 σ H3 _ I3 q3) fun w' s4 ⟨z', H4, I4, r4, q4⟩ => thn (q4 pins s4 u w' I4 r2 r4) fun d' s5 ⟨z2, H5, I5, r5, k2, e2, q5⟩ => ?_))
    subst e2
    cases r5
    exact wpAny_truthy_bool ⟨H5, I5, q5⟩

/-! ### tests -/
/-- a value's truth -/
def dTru (st : Store) : D → Option Bool
  | .non => some false
  | .bl b => some b
  | .int i => some (i != 0)
  | .str x => if x.length ≤ 16777216 then some (!x.isEmpty) else none
  | .tup xs => some (!xs.isEmpty)
  | .rol xs => some (!xs.isEmpty)
  | .ref n => (lstAt st n).map fun xs => !xs.isEmpty
  | _ => none
def tVal (fa : EM D) : EM Bool := fun τ st => (fa τ st).bind fun x s1 => match dTru s1 x with
  | some b => .ok b s1
  | none => .bad
theorem empty_of {K : PySem.W.Frag} {m : List Addr} {H : Hp} {ds : List D} {vs : List V} (r : RDs K m H ds vs) : ds.isEmpty = vs.isEmpty := by
  cases r <;> rfl
theorem tru_read {K : KW} {m : List Addr} {st : Store} {H : Hp} {d : D} {v : V} {b : Bool} (s : SS K m st H) (h : dTru st d = some b) (r : RD K m H d v) : TruV K v H b := by
  cases r with
  | non =>
    cases h
    exact rfl
  | bl b =>
    cases h
    exact rfl
  | int i =>
    cases h
    exact rfl
  | str x =>
    have h : (if x.length ≤ 16777216 then some (!x.isEmpty) else none) = some b := h
    split at h
    · rename_i hl
      cases h
      refine ⟨line_of (by simpa [PySem.Str.length] using hl), ?_⟩
      cases x with
      | nil => rfl
      | cons c x =>
        have e : ((⟨(c :: x).toArray⟩ : PySem.Str).length : Int) ≠ 0 := by
          show (((c :: x).toArray.size : Nat) : Int) ≠ 0
          rw [List.size_toArray, List.length_cons]
          omega
        simp [PySem.Str.length]
        omega
    · cases h
  | tup q rs =>
    cases h
    exact .inr (.inl ⟨_, q.sq, by rw [empty_of rs]⟩)
  | rol q rs =>
    cases h
    exact .inl ⟨_, q.sq, by rw [empty_of rs]⟩
  | ref q =>
    unfold dTru at h
    simp only [Option.map_eq_some_iff] at h
    obtain ⟨xs, e, rfl⟩ := h
    obtain ⟨vs, h1, h2⟩ := s.list e q
    exact .inl ⟨vs, SqL.of h1, by rw [empty_of h2]⟩
  | _ => cases h
theorem et_val (ha : Ex X W a fa) (he : ∀ whole, isTrue a X.env whole = (do let v ← whole; standAt a.pos; holding [v] (truthy v)) := by intro _; rfl) : Et X W a (tVal fa) := by
  refine ⟨fun m τ st σ H Q hL hS hP pins s I => ?_⟩
  refine isTrue_plain (thn (ha.run m τ st σ H (fun x H' => ∃ k, TruV X.K x H' k ∧ Q k H') hL hS (hP.bind fun dx s1 m1 H1 x e1 hS1 r1 hP1 => ?_) pins s I) fun v s1 ⟨x, H1, I1, r1, q1⟩ => tru_ok pins s1 σ H1 x v Q I1 r1 q1) (he _)
  split at hP1
  · rename_i k hk
    exact ⟨k, tru_read hS1 hk r1, hP1.now hS1 rfl⟩
  · exact hP1.elim
def tAnd (ga gb : EM Bool) : EM Bool := fun τ st => (ga τ st).bind fun x s1 => if x then gb τ s1 else .ok false s1
def tOr (ga gb : EM Bool) : EM Bool := fun τ st => (ga τ st).bind fun x s1 => if x then .ok true s1 else gb τ s1
def tNot (ga : EM Bool) : EM Bool := fun τ st => (ga τ st).bind fun x s1 => .ok (!x) s1
theorem Ew.et (h : Ew X W e g) : Et X W e g := ⟨fun m τ st σ H Q hL hS hP pins s I => h.run m τ st σ H Q hL hS hP _ pins s I⟩
theorem ew_and1 (ha : Et X W a ga) : Ew X W (.BoolOp .And [a] pos) ga := ⟨fun m τ st σ H Q hL hS hP wh pins s I => (pw_and1 ptW).run wh pins s σ H Q I (ha.run m τ st σ H Q hL hS hP)⟩
theorem ew_or1 (ha : Et X W a ga) : Ew X W (.BoolOp .Or [a] pos) ga := ⟨fun m τ st σ H Q hL hS hP wh pins s I => (pw_or1 ptW).run wh pins s σ H Q I (ha.run m τ st σ H Q hL hS hP)⟩
theorem ew_and (ha : Et X W a ga) (hb : Ew X W (.BoolOp .And (b :: rest) pos) gb) : Ew X W (.BoolOp .And (a :: b :: rest) pos) (tAnd ga gb) := by
  refine ⟨fun m τ st σ H Q hL hS hP wh pins s I => (pw_and ptW pwW).run wh pins s σ H Q I ?_⟩
  refine ha.run m τ st σ H _ hL hS (hP.bind fun dx s1 m1 H1 x e1 hS1 r1 hP1 => ?_)
  subst r1
  cases dx with
  | true => exact iteT (hb.run m1 τ s1 σ H1 Q (hL.mono e1) hS1 hP1)
  | false => exact iteF (hP1.now hS1 rfl)
theorem ew_or (ha : Et X W a ga) (hb : Ew X W (.BoolOp .Or (b :: rest) pos) gb) : Ew X W (.BoolOp .Or (a :: b :: rest) pos) (tOr ga gb) := by
  refine ⟨fun m τ st σ H Q hL hS hP wh pins s I => (pw_or ptW pwW).run wh pins s σ H Q I ?_⟩
  refine ha.run m τ st σ H _ hL hS (hP.bind fun dx s1 m1 H1 x e1 hS1 r1 hP1 => ?_)
  subst r1
  cases dx with
  | true => exact iteT (hP1.now hS1 rfl)
  | false => exact iteF (hb.run m1 τ s1 σ H1 Q (hL.mono e1) hS1 hP1)
theorem et_not (ha : Et X W a ga) : Et X W (.UnaryOp .Not a pos) (tNot ga) := by
  refine ⟨fun m τ st σ H Q hL hS hP pins s I => (pt_not ptW).run pins s σ H Q I ?_⟩
  refine ha.run m τ st σ H _ hL hS (hP.bind fun dx s1 m1 H1 x e1 hS1 r1 hP1 => ?_)
  subst r1
  exact hP1.now hS1 rfl
/-! ### and, or, not as values -/
def eAnd (fa fb : EM D) : EM D := fun τ st => (fa τ st).bind fun x s1 => match dTru s1 x with
  | some true => fb τ s1
  | some false => .ok x s1
  | none => .bad
def eOr (fa fb : EM D) : EM D := fun τ st => (fa τ st).bind fun x s1 => match dTru s1 x with
  | some true => .ok x s1
  | some false => fb τ s1
  | none => .bad
def eNot (fa : EM D) : EM D := fun τ st => (fa τ st).bind fun x s1 => match dTru s1 x with
  | some b => .ok (.bl !b) s1
  | none => .bad
theorem ex_one {op} (h : Ex X W a fa) : Ex X W (.BoolOp op [a] pos) fa := ⟨fun m τ st σ H Q hL hS hP pins s I => BoolOp_one (h.run m τ st σ H Q hL hS hP pins s I)⟩
theorem ex_and (ha : Ex X W a fa) (hb : Ex X W (.BoolOp .And (b :: rest) pos) fb) : Ex X W (.BoolOp .And (a :: b :: rest) pos) (eAnd fa fb) := by
  refine ⟨fun m τ st σ H Q hL hS hP pins s I => (pe_andT peW peW).run pins s σ H Q I ?_⟩
  refine ha.run m τ st σ H _ hL hS (hP.bind fun dx s1 m1 H1 x e1 hS1 r1 hP1 => ?_)
  split at hP1
  · rename_i hk
    exact ⟨true, tru_read hS1 hk r1, iteT (hb.run m1 τ s1 σ H1 Q (hL.mono e1) hS1 hP1)⟩
  · rename_i hk
    exact ⟨false, tru_read hS1 hk r1, iteF (hP1.now hS1 r1)⟩
  · exact hP1.elim
theorem ex_or (ha : Ex X W a fa) (hb : Ex X W (.BoolOp .Or (b :: rest) pos) fb) : Ex X W (.BoolOp .Or (a :: b :: rest) pos) (eOr fa fb) := by
  refine ⟨fun m τ st σ H Q hL hS hP pins s I => (pe_orT peW peW).run pins s σ H Q I ?_⟩
  refine ha.run m τ st σ H _ hL hS (hP.bind fun dx s1 m1 H1 x e1 hS1 r1 hP1 => ?_)
  split at hP1
  · rename_i hk
    exact ⟨true, tru_read hS1 hk r1, iteT (hP1.now hS1 r1)⟩
  · rename_i hk
    exact ⟨false, tru_read hS1 hk r1, iteF (hb.run m1 τ s1 σ H1 Q (hL.mono e1) hS1 hP1)⟩
  · exact hP1.elim
theorem ex_not (ha : Ex X W a fa) : Ex X W (.UnaryOp .Not a pos) (eNot fa) := by
  refine ⟨fun m τ st σ H Q hL hS hP pins s I => (pe_notT peW).run pins s σ H Q I ?_⟩
  refine ha.run m τ st σ H _ hL hS (hP.bind fun dx s1 m1 H1 x e1 hS1 r1 hP1 => ?_)
  split at hP1
  · rename_i k hk
    exact ⟨k, tru_read hS1 hk r1, hP1.now hS1 (.bl _)⟩
  · exact hP1.elim
def eIf (g : EM Bool) (fa fb : EM D) : EM D := fun τ st => (g τ st).bind fun x s1 => if x then fa τ s1 else fb τ s1
theorem ex_if {c : Expr} (hc : Et X W c g) (ha : Ex X W a fa) (hb : Ex X W b fb) : Ex X W (.IfExp c a b pos) (eIf g fa fb) := by
  refine ⟨fun m τ st σ H Q hL hS hP pins s I => (pe_ifExp ptW peW peW).run pins s σ H Q I ?_⟩
  refine hc.run m τ st σ H _ hL hS (hP.bind fun dx s1 m1 H1 x e1 hS1 r1 hP1 => ?_)
  subst r1
  cases dx with
  | true => exact iteT (ha.run m1 τ s1 σ H1 Q (hL.mono e1) hS1 hP1)
  | false => exact iteF (hb.run m1 τ s1 σ H1 Q (hL.mono e1) hS1 hP1)

/-! ### arguments, displays -/
def aNil : EM (List D) := fun _ st => .ok [] st
def aCons (f : EM D) (fs : EM (List D)) : EM (List D) := fun τ st => (f τ st).bind fun x s1 => (fs τ s1).bind fun xs s2 => .ok (x :: xs) s2
theorem ea_nil : Ea X W [] aNil := ⟨fun m τ st σ H Q hL hS hP pos pins s I => pa_nil.run pos pins s σ H Q I (hP.now hS .nil)⟩
theorem ea_cons (ha : Ex X W e f) (hr : Ea X W es fs) (hs : starEach (e :: es) X.env = (false, eval e X.env) :: starEach es X.env := by rfl) : Ea X W (e :: es) (aCons f fs) := by
  refine ⟨fun m τ st σ H Q hL hS hP pos pins s I => (pa_cons peW paW hs).run pos pins s σ H Q I ?_⟩
  refine ha.run m τ st σ H _ hL hS (hP.bind fun dx s1 m1 H1 x e1 hS1 r1 hP1 => ?_)
  exact hr.run m1 τ s1 σ H1 _ (hL.mono e1) hS1 (hP1.bind fun ds s2 m2 H2 xs e2 hS2 r2 hP2 => hP2.now hS2 (.cons (r1.mono e2) r2))
def eTup (fs : EM (List D)) : EM D := fun τ st => (fs τ st).bind fun xs s1 => if xs.length ≤ 16777216 then .ok (.tup xs) s1 else .bad
def eLst (fs : EM (List D)) : EM D := fun τ st => (fs τ st).bind fun xs s1 => if xs.length ≤ 16777216 then .ok (.ref s1.length) (s1 ++ [.lst xs]) else .bad
theorem ex_tup {x1} (h : Ea X W es fs) : Ex X W (.Tuple es x1 pos) (eTup fs) := by
  refine ⟨fun m τ st σ H Q hL hS hP pins s I => (pe_tupF paW).run pins s σ H Q I ?_⟩
  refine h.run m τ st σ H _ hL hS (hP.bind fun ds s1 m1 H1 vs e1 hS1 r1 hP1 => ?_)
  split at hP1
  · rename_i hl
    exact ⟨line_of (by rw [← r1.len]; exact hl), hP1.tup hS1 r1⟩
  · exact hP1.elim
theorem ex_lst (h : Ea X W es fs) : Ex X W (.List es pos) (eLst fs) := by
  refine ⟨fun m τ st σ H Q hL hS hP pins s I => (pe_lst paW).run pins s σ H Q I ?_⟩
  refine h.run m τ st σ H _ hL hS (hP.bind fun ds s1 m1 H1 vs e1 hS1 r1 hP1 => ?_)
  split at hP1
  · rename_i hl
    exact ⟨line_of (by rw [← r1.len]; exact hl), hP1.lst hS1 r1⟩
  · exact hP1.elim

/-! ### subscripts -/
def IxM (X : Cx) (W : WX) (g : O2) : Prop :=
  ∃ r : R2, IxR X r ∧ ∀ (m : List Addr) (st : Store) (H : Hp) (dx dy : D) (x y : V) (E : XK) (Q : VK), SS X.kw m st H → RD X.K m H dx x → RD X.K m H dy y → Pe X.kw E (RD X.K) m H (g dx dy st) Q → r x y H Q
theorem ex_ix {o : O2} (ho : IxM X W o) (ha : Ex X W a fa) (hb : Ex X W b fb) (hs : PlainIx b := by exact fun _ _ => rfl) : Ex X W (.Subscript a b pos) (eBin o fa fb) := by
  obtain ⟨r, hr, h⟩ := ho
  refine ⟨fun m τ st σ H Q hL hS hP pins s I => (pe_ix hr peW peW hs).run pins s σ H Q I ?_⟩
  exact two ha hb hL hS hP fun m2 st2 H2 dx dy x y e2 hS2 r1 r2 hP2 => h m2 st2 H2 dx dy x y _ Q hS2 r1 r2 hP2
def oIxS : O2 := fun x y st => match x, y with
  | .tup xs, .int i => match atI xs i with
    | some d => .ok d st
    | none => .bad
  | .rol xs, .int i => match atI xs i with
    | some d => .ok d st
    | none => .bad
  | .ref n, .int i => match lstAt st n with
    | some xs => match atI xs i with
      | some d => .ok d st
      | none => .bad
    | none => .bad
  | .str x, .int i => if x.length ≤ 16777216 then match atI x i with
      | some c => .ok (.str [c]) st
      | none => .bad
    else .bad
  | _, _ => .bad
theorem atI_rds {K : PySem.W.Frag} {m : List Addr} {H : Hp} {ds : List D} {vs : List V} {i : Int} {d : D} (r : RDs K m H ds vs) (h : atI ds i = some d) : ∃ v, atI vs i = some v ∧ RD K m H d v := by
  unfold atI at h ⊢
  rw [← r.len]
  cases e : ixN ds.length i with
  | none =>
    rw [e] at h
    cases h
  | some j =>
    rw [e] at h
    exact r.get h
theorem m_ixS : IxM X W oIxS := ⟨_, ix_seq, fun m st H dx dy x y E Q hS r1 r2 hP => by
  unfold oIxS at hP
  split at hP
  · split at hP
    · rename_i d e
      cases r1 with
      | tup q rs =>
        cases r2
        obtain ⟨v, h1, h2⟩ := atI_rds rs e
        exact .inr (.inl ⟨_, _, _, v, rfl, rfl, q.sq, h1, hP.now hS h2⟩)
    · exact hP.elim
  · split at hP
    · rename_i d e
      cases r1 with
      | rol q rs =>
        cases r2
        obtain ⟨v, h1, h2⟩ := atI_rds rs e
        exact .inl ⟨_, _, _, v, rfl, rfl, q.sq, h1, hP.now hS h2⟩
    · exact hP.elim
  · split at hP
    · split at hP
      · rename_i ex _ _ e
        cases r1 with
        | ref q =>
          cases r2
          obtain ⟨vs, h1, h2⟩ := hS.list ex q
          obtain ⟨v, h3, h4⟩ := atI_rds h2 e
          exact .inl ⟨_, _, _, v, rfl, rfl, SqL.of h1, h3, hP.now hS h4⟩
      · exact hP.elim
    · exact hP.elim
  · split at hP
    · split at hP
      · rename_i hl _ c e
        cases r1
        cases r2
        exact .inr (.inr ⟨_, _, c, rfl, rfl, line_of (by simpa [PySem.Str.length] using hl), by simpa using e, hP.now hS (.str [c])⟩)
      · exact hP.elim
    · exact hP.elim
  · exact hP.elim⟩
end
end HM

/-! HM, part 5: calls, what is walked, comprehensions. -/
namespace HM
open PySem PySem.Spec PyProof.Rows L2

/-! ### defs -/
abbrev FM := List D → Store → ER D
/-- a def's promise by its mirror -/
def spM (K : KW) (n : Nat) (mf : FM) : Sp := fun vs H Q E => ∃ (m : List Addr) (st : Store) (ds : List D), ds.length = n ∧ SS K m st H ∧ RDs K m H ds vs ∧ Pe K E (RD K) m H (mf ds st) Q
/-- the def f keeps the mirror -/
abbrev FnM (P : Program) (w : World) (K : PySem.W.Frag) (mg : Str → Option Value) (base : Heap) (k : Nat) (f : Addr) (fd : FuncData) (ps : List Str) (mf : FM) : Prop :=
  FnOk P w K mg base (L2.CX P w) k f fd ps (spM ⟨K, w⟩ ps.length mf)
section
variable {X : Cx} {W : WX} {e a b c : Expr} {es rest : List Expr} {pos p : Pos} {f fa fb fc : EM D} {fs : EM (List D)} {g ga gb : EM Bool}
def eCall (n : Nat) (mf : FM) (fs : EM (List D)) : EM D := fun τ st => (fs τ st).bind fun ds s1 => if ds.length = n then mf ds s1 else .bad
theorem ex_call {k : Nat} {fa : Addr} {fd : FuncData} {ps : List Str} {mf : FM} {x : Str} (tk : Takes X W) (F : FnM X.prog X.w X.K X.mg X.base k fa fd ps mf) (hr : Room k X.A) (hg : Gl X x) (hm : X.mg x = some (.ref fa)) (hk : PySem.W.keepIn X.K (.ref fa) = true) (hb : Binds X.K fd ps [])
    (ha : Ea X W (e :: es) fs) (hdb : (x == ("__debug__" : Str)) = false := by decide) (he : starEach (e :: es) X.env = (false, eval e X.env) :: starEach es X.env := by rfl) (hpl : (backTo pos (starEach es X.env)).any (·.1) = false := by rfl) :
    Ex X W (.Call (.Name x p) (e :: es) [] pos) (eCall ps.length mf fs) := by
  refine ⟨fun m τ st σ H Q hL hS hP pins s I => ?_⟩
  refine wpAny_Call_Name_kw (ld_glob I hg hm ?_ hdb)
  have q : wA X (e :: es) σ H fun vs H1 => spM X.kw ps.length mf (vs ++ []) H1 Q (WE W σ) := ha.run m τ st σ H _ hL hS (hP.bind fun ds s1 m1 H1 vs e1 hS1 r1 hP1 => by
    split at hP1
    · rename_i hl
      rw [List.append_nil]
      exact ⟨m1, s1, ds, hl, hS1, r1, hP1⟩
    · exact hP1.elim)
  refine PySem.W.callWith_K (h₀ := X.base) I.ok.mod.kin hk (thn (q pos pins s I) fun us s1 ⟨vs, H1, I1, r, q⟩ => ⟨I1.kIn, ?_⟩) he hpl
  exact run_fnSD (E := WE W) F hr hb .nil (passAt tk σ) I1 r q
theorem ex_call0 {k : Nat} {fa : Addr} {fd : FuncData} {ps : List Str} {mf : FM} {x : Str} (tk : Takes X W) (F : FnM X.prog X.w X.K X.mg X.base k fa fd ps mf) (hr : Room k X.A) (hg : Gl X x) (hm : X.mg x = some (.ref fa)) (hk : PySem.W.keepIn X.K (.ref fa) = true) (hb : Binds X.K fd ps [])
    (hdb : (x == ("__debug__" : Str)) = false := by decide) : Ex X W (.Call (.Name x p) [] [] pos) (eCall ps.length mf aNil) := by
  refine ⟨fun m τ st σ H Q hL hS hP pins s I => ?_⟩
  refine wpAny_Call_Name_kw (ld_glob I hg hm ?_ hdb)
  refine PySem.W.callWith_K0 I.kIn hk (run_fnSD (E := WE W) (us := []) (vs := []) F hr hb .nil (passAt tk σ) I .nil ?_)
  have hP : Pe X.kw (fun c d H' => W c d σ H') (RD X.K) m H (if ([] : List D).length = ps.length then mf [] st else .bad) Q := hP
  split at hP
  · rename_i hl
    exact ⟨m, st, [], hl, hS, .nil, hP⟩
  · exact hP.elim

/-! ### built-ins by values -/
def CallM (X : Cx) (fv : Value) (g : FM) : Prop :=
  ∃ r, CallR X fv r ∧ ∀ (m : List Addr) (st : Store) (H : Hp) (ds : List D) (vs : List V) (E : XK) (Q : VK), SS X.kw m st H → RDs X.K m H ds vs → Pe X.kw E (RD X.K) m H (g ds st) Q → r vs H Q
def eCB (mf : FM) (fs : EM (List D)) : EM D := fun τ st => (fs τ st).bind mf
theorem ex_callB {x : Str} {id : String} {mf : FM} (hc : CallM X (.builtin id) mf) (hg : Gl X x) (hm : X.mg x = none) (hv : bootBuiltins x = some (.builtin id)) (ha : Ea X W (e :: es) fs) (hn : x ≠ "__name__" := by decide) (hdb : (x == ("__debug__" : Str)) = false := by decide)
    (he : starEach (e :: es) X.env = (false, eval e X.env) :: starEach es X.env := by rfl) (hpl : (backTo pos (starEach es X.env)).any (·.1) = false := by rfl) : Ex X W (.Call (.Name x p) (e :: es) [] pos) (eCB mf fs) := by
  obtain ⟨r, hr, h⟩ := hc
  refine ⟨fun m τ st σ H Q hL hS hP pins s I => (pe_callB hr hg hm hv paW hn hdb he hpl).run pins s σ H Q I ?_⟩
  exact ha.run m τ st σ H _ hL hS (hP.bind fun ds s1 m1 H1 vs e1 hS1 r1 hP1 => h m1 s1 H1 ds vs _ Q hS1 r1 hP1)
theorem ex_callT {x : Str} {T : String} {mf : FM} (hc : CallM X (.type T) mf) (hg : Gl X x) (hm : X.mg x = none) (hv : bootBuiltins x = some (.type T)) (ha : Ea X W (e :: es) fs) (hn : x ≠ "__name__" := by decide) (hdb : (x == ("__debug__" : Str)) = false := by decide)
    (he : starEach (e :: es) X.env = (false, eval e X.env) :: starEach es X.env := by rfl) (hpl : (backTo pos (starEach es X.env)).any (·.1) = false := by rfl) : Ex X W (.Call (.Name x p) (e :: es) [] pos) (eCB mf fs) := by
  obtain ⟨r, hr, h⟩ := hc
  refine ⟨fun m τ st σ H Q hL hS hP pins s I => (pe_callTy hr hg hm hv paW hn hdb he hpl).run pins s σ H Q I ?_⟩
  exact ha.run m τ st σ H _ hL hS (hP.bind fun ds s1 m1 H1 vs e1 hS1 r1 hP1 => h m1 s1 H1 ds vs _ Q hS1 r1 hP1)
theorem ex_callF {x : Str} {id : String} {mf : FM} (hc : CallM X (.builtin id) mf) (hg : Gl X x) (hm : X.mg x = some (.builtin id)) (ha : Ea X W (e :: es) fs) (hdb : (x == ("__debug__" : Str)) = false := by decide)
    (he : starEach (e :: es) X.env = (false, eval e X.env) :: starEach es X.env := by rfl) (hpl : (backTo pos (starEach es X.env)).any (·.1) = false := by rfl) : Ex X W (.Call (.Name x p) (e :: es) [] pos) (eCB mf fs) := by
  obtain ⟨r, hr, h⟩ := hc
  refine ⟨fun m τ st σ H Q hL hS hP pins s I => (pe_callBfun hr hg hm paW hdb he hpl).run pins s σ H Q I ?_⟩
  exact ha.run m τ st σ H _ hL hS (hP.bind fun ds s1 m1 H1 vs e1 hS1 r1 hP1 => h m1 s1 H1 ds vs _ Q hS1 r1 hP1)
/-- the items of what is a list or a tuple -/
def dSeq (st : Store) : D → Option (List D)
  | .tup xs => some xs
  | .rol xs => some xs
  | .ref n => lstAt st n
  | _ => none
def SqV (K : PySem.W.Frag) (m : List Addr) (H : Hp) (ds : List D) (v : V) : Prop := ∃ a vs, v = .ref a ∧ (SqL K H a vs ∨ PlT K H a vs) ∧ RDs K m H ds vs
theorem dSeq_read {K : KW} {m : List Addr} {st : Store} {H : Hp} {d : D} {v : V} {xs : List D} (s : SS K m st H) (h : dSeq st d = some xs) (r : RD K m H d v) : SqV K m H xs v := by
  cases r with
  | tup q rs =>
    cases h
    exact ⟨_, _, rfl, .inr q, rs⟩
  | rol q rs =>
    cases h
    exact ⟨_, _, rfl, .inl q.sq, rs⟩
  | ref q =>
    obtain ⟨vs, h1, h2⟩ := s.list h q
    exact ⟨_, vs, rfl, .inl (SqL.of h1), h2⟩
  | _ => cases h
def fLenS : FM := fun ds st => match ds with
  | [.str x] => if x.length ≤ 16777216 then .ok (.int x.length) st else .bad
  | [d] => match dSeq st d with
    | some xs => .ok (.int xs.length) st
    | none => .bad
  | _ => .bad
theorem c_lenS : CallM X (.builtin "len") fLenS := ⟨_, call_len_seq.or call_len_str, fun m st H ds vs E Q hS r hP => by
  unfold fLenS at hP
  split at hP
  · split at hP
    · rename_i x hl
      obtain ⟨v, rfl, r1⟩ := r.one
      cases r1
      refine .inr ⟨_, rfl, line_of (by simpa [PySem.Str.length] using hl), ?_⟩
      have e : (((⟨x.toArray⟩ : PySem.Str).length : Nat) : Int) = (x.length : Int) := by simp [PySem.Str.length]
      rw [e]
      exact hP.now hS (.int _)
    · exact hP.elim
  · split at hP
    · rename_i xs hx
      obtain ⟨v, rfl, r1⟩ := r.one
      obtain ⟨a, vs, rfl, q, rs⟩ := dSeq_read hS hx r1
      refine .inl ⟨a, vs, rfl, q.imp id PlT.sq, ?_⟩
      rw [← rs.len]
      exact hP.now hS (.int _)
    · exact hP.elim
  · exact hP.elim⟩
def fInt : FM := fun ds st => match ds with
  | [.int i] => .ok (.int i) st
  | [.bl b] => .ok (.int (if b then 1 else 0)) st
  | _ => .bad
theorem c_int : CallM X (.type "int") fInt := ⟨_, call_int1, fun m st H ds vs E Q hS r hP => by
  unfold fInt at hP
  split at hP
  · obtain ⟨v, rfl, r1⟩ := r.one
    cases r1
    exact .inl ⟨_, rfl, hP.now hS (.int _)⟩
  · obtain ⟨v, rfl, r1⟩ := r.one
    cases r1
    exact .inr ⟨_, rfl, hP.now hS (.int _)⟩
  · exact hP.elim⟩
def fAbs : FM := fun ds st => match ds with
  | [.int i] => .ok (.int (i.natAbs : Nat)) st
  | _ => .bad
theorem c_abs : CallM X (.builtin "abs") fAbs := ⟨_, call_abs, fun m st H ds vs E Q hS r hP => by
  unfold fAbs at hP
  split at hP
  · rename_i i
    obtain ⟨v, rfl, r1⟩ := r.one
    cases r1
    refine ⟨_, rfl, ?_⟩
    have e : (if i < 0 then -i else i) = ((i.natAbs : Nat) : Int) := by split <;> omega
    rw [e]
    exact hP.now hS (.int _)
  · exact hP.elim⟩
def fGcd : FM := fun ds st => match ds with
  | [.int i, .int j] => .ok (.int (Nat.gcd i.natAbs j.natAbs : Nat)) st
  | _ => .bad
theorem c_gcd : CallM X (.builtin "math.gcd") fGcd := ⟨_, cr_gcd, fun m st H ds vs E Q hS r hP => by
  unfold fGcd at hP
  split at hP
  · obtain ⟨v, u, rfl, r1, r2⟩ := r.two
    cases r1
    cases r2
    exact ⟨_, _, rfl, hP.now hS (.int _)⟩
  · exact hP.elim⟩
def fTuple : FM := fun ds st => match ds with
  | [d] => match dSeq st d with
    | some xs => .ok (.tup xs) st
    | none => .bad
  | _ => .bad
theorem c_tuple : CallM X (.type "tuple") fTuple := ⟨_, call_tuple_ofF, fun m st H ds vs E Q hS r hP => by
  unfold fTuple at hP
  split at hP
  · split at hP
    · rename_i xs hx
      obtain ⟨v, rfl, r1⟩ := r.one
      obtain ⟨a, vs, rfl, q, rs⟩ := dSeq_read hS hx r1
      rcases q with q | q
      · exact ⟨a, vs, rfl, .inl ⟨q, hP.tup hS rs⟩⟩
      · exact ⟨a, vs, rfl, .inr ⟨q.sq, hP.now hS (.tup q rs)⟩⟩
    · exact hP.elim
  · exact hP.elim⟩
def fList : FM := fun ds st => match ds with
  | [d] => match dSeq st d with
    | some xs => .ok (.ref st.length) (st ++ [.lst xs])
    | none => .bad
  | _ => .bad
theorem c_list : CallM X (.type "list") fList := ⟨_, call_list_of, fun m st H ds vs E Q hS r hP => by
  unfold fList at hP
  split at hP
  · split at hP
    · rename_i xs hx
      obtain ⟨v, rfl, r1⟩ := r.one
      obtain ⟨a, vs, rfl, q, rs⟩ := dSeq_read hS hx r1
      exact ⟨a, vs, rfl, q.imp id PlT.sq, hP.lst hS rs⟩
    · exact hP.elim
  · exact hP.elim⟩
def fMin2 : FM := fun ds st => match ds with
  | [.int i, .int j] => .ok (.int (if j < i then j else i)) st
  | _ => .bad
theorem c_min2 (hc : X.calm = true) : CallM X (.builtin "min") fMin2 := ⟨_, call_min2 hc, fun m st H ds vs E Q hS r hP => by
  unfold fMin2 at hP
  split at hP
  · obtain ⟨v, u, rfl, r1, r2⟩ := r.two
    cases r1
    cases r2
    exact ⟨_, _, rfl, hP.now hS (.int _)⟩
  · exact hP.elim⟩
def fMax2 : FM := fun ds st => match ds with
  | [.int i, .int j] => .ok (.int (if j > i then j else i)) st
  | _ => .bad
theorem c_max2 (hc : X.calm = true) : CallM X (.builtin "max") fMax2 := ⟨_, call_max2 hc, fun m st H ds vs E Q hS r hP => by
  unfold fMax2 at hP
  split at hP
  · obtain ⟨v, u, rfl, r1, r2⟩ := r.two
    cases r1
    cases r2
    exact ⟨_, _, rfl, hP.now hS (.int _)⟩
  · exact hP.elim⟩
/-! ### isinstance -/
def dTy (st : Store) : D → Option String
  | .non => some "NoneType"
  | .bl _ => some "bool"
  | .int _ => some "int"
  | .str _ => some "str"
  | .tup _ => some "tuple"
  | .rol _ => some "list"
  | .ref n => (lstAt st n).map fun _ => "list"
  | _ => none
def isiT (a b : String) : Option Bool :=
  if (["NoneType", "bool", "int", "str", "tuple", "list"].contains a && ["bool", "int", "str", "tuple", "list"].contains b) = true then some (decide (a = b) || (decide (a = "bool") && decide (b = "int"))) else none
theorem isiT_ok {a b : String} {r : Bool} (h : isiT a b = some r) : kitB a b = some r := by
  have all : (["NoneType", "bool", "int", "str", "tuple", "list"].all fun a => ["bool", "int", "str", "tuple", "list"].all fun b => decide (kitB a b = some (decide (a = b) || (decide (a = "bool") && decide (b = "int"))))) = true := by decide +kernel
  unfold isiT at h
  split at h
  · rename_i c
    rw [Bool.and_eq_true] at c
    have z := List.all_eq_true.mp (List.all_eq_true.mp all a (List.contains_iff_mem.mp c.1)) b (List.contains_iff_mem.mp c.2)
    rw [of_decide_eq_true z]
    exact h
  · cases h
theorem ty_read {K : KW} {m : List Addr} {st : Store} {H : Hp} {d : D} {v : V} {t : String} (s : SS K m st H) (h : dTy st d = some t) (r : RD K m H d v) : TyX K H v (.type t) := by
  cases r with
  | non => cases h; exact .base .non
  | bl b => cases h; exact .base (.bl b)
  | int i => cases h; exact .base (.int i)
  | str x => cases h; exact .base (.str _)
  | tup q rs =>
    cases h
    rcases q with ⟨o, _, q⟩ | ⟨o, its, n, q1, q2, _⟩
    · exact .fTuple q
    · exact .kTuple q1 q2
  | rol q rs =>
    cases h
    rcases q with ⟨o, q⟩ | ⟨o, its, n, q1, q2, _⟩
    · exact .base (.frz q)
    · exact .kList q1 q2
  | ref q =>
    have h : (lstAt st _).map (fun _ => "list") = some t := h
    simp only [Option.map_eq_some_iff] at h
    obtain ⟨xs, e, rfl⟩ := h
    obtain ⟨vs, h1, h2⟩ := s.list e q
    exact .base (.lst h1)
  | _ => cases h
def fIsi : FM := fun ds st => match ds with
  | [d, .ty c] => match dTy st d with
    | some t => match isiT t c with
      | some b => .ok (.bl b) st
      | none => .bad
    | none => .bad
  | _ => .bad
theorem c_isi : CallM X (.builtin "isinstance") fIsi := ⟨_, call_isi, fun m st H ds vs E Q hS r hP => by
  unfold fIsi at hP
  split at hP
  · split at hP
    · rename_i t ht
      split at hP
      · rename_i b hb
        obtain ⟨v, u, rfl, r1, r2⟩ := r.two
        cases r2
        exact ⟨_, _, _, _, b, rfl, by constructor, ty_read hS ht r1, kit_ty (isiT_ok hb), hP.now hS (.bl _)⟩
      · exact hP.elim
    · exact hP.elim
  · exact hP.elim⟩

/-! ### fresh lists, sequences as arguments -/
/-- an expression that makes a list that nobody else has -/
structure El (X : Cx) (W : WX) (e : Expr) (f : EM (List D)) : Prop where
  run : ∀ (m : List Addr) (τ : Sl) (st : Store) (σ : L2.St) (H : Hp) (Q : VK), SL X.K m H τ σ → SS X.kw m st H →
    Pe X.kw (fun c d H' => W c d σ H') (fun m' H' ds v => ∃ a vs, v = .ref a ∧ H' a = some (.lst vs) ∧ a ∉ m' ∧ H a = none ∧ RDs X.K m' H' ds vs) m H (f τ st) Q → wE X e σ H Q
def eEl (f : EM (List D)) : EM D := fun τ st => (f τ st).bind fun ds s1 => .ok (.ref s1.length) (s1 ++ [.lst ds])
theorem Ext.back {K : KW} {m m1 : List Addr} {H H1 : Hp} {s1 : Store} {a : Addr} (e : Ext K m H m1 H1) (s : SS K m1 s1 H1) (h : H1 a = none) : H a = none := by
  cases q : H a with
  | none => rfl
  | some o =>
    by_cases hm : a ∈ m
    · exact absurd (e.mem hm) (s.notin h)
    · rw [e.frm a o hm q] at h
      cases h
theorem Ext.own {K : PySem.W.Frag} {m m1 : List Addr} {H H1 : Hp} {a : Addr} (e : Ext K m H m1 H1) (h : H a = none) : Ext K m H (m1 ++ [a]) H1 where
  pre := fun n b q => by
    have z := e.pre n b q
    rw [List.getElem?_append_left (List.getElem?_eq_some_iff.mp z).1]
    exact z
  tup := e.tup
  plt := e.plt
  fzl := e.fzl
  frm := e.frm
  new := fun b q n => by
    rcases List.mem_append.mp q with q | q
    · exact e.new b q n
    · have z : b = a := by simpa using q
      rw [z]
      exact h
theorem ex_el {fl : EM (List D)} (h : El X W e fl) : Ex X W e (eEl fl) := by
  refine ⟨fun m τ st σ H Q hL hS hP => h.run m τ st σ H Q hL hS ?_⟩
  unfold eEl at hP
  cases hq : fl τ st with
  | ok ds s1 =>
    rw [hq] at hP
    intro m1 H1 v e1 hS1 ⟨a, vs, e, ha, na, hn, rs⟩
    subst e
    refine hP (m1 ++ [a]) H1 (.ref a) (e1.own hn) (hS1.grow na ⟨vs, ha, rs.kp Kp.grow⟩) (.ref ?_)
    rw [← hS1.len]
    simp
  | exc x st' =>
    rw [hq] at hP
    exact hP
  | bad =>
    rw [hq] at hP
    exact hP.elim
/-- the items of an expression's list or tuple -/
structure Es (X : Cx) (W : WX) (e : Expr) (f : EM (List D)) : Prop where
  run : ∀ (m : List Addr) (τ : Sl) (st : Store) (σ : L2.St) (H : Hp) (Q : VK), SL X.K m H τ σ → SS X.kw m st H → Pe X.kw (fun c d H' => W c d σ H') (SqV X.K) m H (f τ st) Q → wE X e σ H Q
theorem es_el {fl : EM (List D)} (h : El X W e fl) : Es X W e fl := by
  refine ⟨fun m τ st σ H Q hL hS hP => h.run m τ st σ H Q hL hS ?_⟩
  cases hq : fl τ st with
  | ok ds s1 =>
    rw [hq] at hP
    intro m1 H1 v e1 hS1 ⟨a, vs, e, ha, na, hn, rs⟩
    exact hP m1 H1 v e1 hS1 ⟨a, vs, e, .inl (SqL.of ha), rs⟩
  | exc x st' =>
    rw [hq] at hP
    exact hP
  | bad =>
    rw [hq] at hP
    exact hP.elim
def sEx (f : EM D) : EM (List D) := fun τ st => (f τ st).bind fun d s1 => match dSeq s1 d with
  | some xs => .ok xs s1
  | none => .bad
theorem es_ex (h : Ex X W e f) : Es X W e (sEx f) := by
  refine ⟨fun m τ st σ H Q hL hS hP => h.run m τ st σ H Q hL hS (hP.bind fun d s1 m1 H1 v e1 hS1 r1 hP1 => ?_)⟩
  split at hP1
  · rename_i xs hx
    exact hP1.now hS1 (dSeq_read hS1 hx r1)
  · exact hP1.elim
/-- a built-in of one argument, by its items -/
abbrev SM1 := List D → Store → ER D
def CallS (X : Cx) (fv : Value) (g : SM1) : Prop :=
  ∃ r, CallR X fv r ∧ ∀ (m : List Addr) (st : Store) (H : Hp) (ds : List D) (v : V) (E : XK) (Q : VK), SS X.kw m st H → SqV X.K m H ds v → Pe X.kw E (RD X.K) m H (g ds st) Q → r [v] H Q
def eCS (g : SM1) (f : EM (List D)) : EM D := fun τ st => (f τ st).bind g
theorem ex_callBs {x : Str} {id : String} {g : SM1} {fl : EM (List D)} (hc : CallS X (.builtin id) g) (hg : Gl X x) (hm : X.mg x = none) (hv : bootBuiltins x = some (.builtin id)) (ha : Es X W e fl) (hn : x ≠ "__name__" := by decide) (hdb : (x == ("__debug__" : Str)) = false := by decide)
    (he : starEach [e] X.env = (false, eval e X.env) :: starEach [] X.env := by rfl) (hpl : (backTo pos (starEach [] X.env)).any (·.1) = false := by rfl) : Ex X W (.Call (.Name x p) [e] [] pos) (eCS g fl) := by
  obtain ⟨r, hr, h⟩ := hc
  refine ⟨fun m τ st σ H Q hL hS hP pins s I => (pe_callB hr hg hm hv (pa_cons peW pa_nil he) hn hdb he hpl).run pins s σ H Q I ?_⟩
  exact ha.run m τ st σ H _ hL hS (hP.bind fun ds s1 m1 H1 v e1 hS1 r1 hP1 => h m1 s1 H1 ds v _ Q hS1 r1 hP1)
theorem ex_callTs {x : Str} {T : String} {g : SM1} {fl : EM (List D)} (hc : CallS X (.type T) g) (hg : Gl X x) (hm : X.mg x = none) (hv : bootBuiltins x = some (.type T)) (ha : Es X W e fl) (hn : x ≠ "__name__" := by decide) (hdb : (x == ("__debug__" : Str)) = false := by decide)
    (he : starEach [e] X.env = (false, eval e X.env) :: starEach [] X.env := by rfl) (hpl : (backTo pos (starEach [] X.env)).any (·.1) = false := by rfl) : Ex X W (.Call (.Name x p) [e] [] pos) (eCS g fl) := by
  obtain ⟨r, hr, h⟩ := hc
  refine ⟨fun m τ st σ H Q hL hS hP pins s I => (pe_callTy hr hg hm hv (pa_cons peW pa_nil he) hn hdb he hpl).run pins s σ H Q I ?_⟩
  exact ha.run m τ st σ H _ hL hS (hP.bind fun ds s1 m1 H1 v e1 hS1 r1 hP1 => h m1 s1 H1 ds v _ Q hS1 r1 hP1)
def gTuple : SM1 := fun xs st => .ok (.tup xs) st
theorem s_tuple : CallS X (.type "tuple") gTuple := ⟨_, call_tuple_ofF, fun m st H ds v E Q hS r hP => by
  obtain ⟨a, vs, rfl, q, rs⟩ := r
  rcases q with q | q
  · exact ⟨a, vs, rfl, .inl ⟨q, hP.tup hS rs⟩⟩
  · exact ⟨a, vs, rfl, .inr ⟨q.sq, hP.now hS (.tup q rs)⟩⟩⟩
def gLen : SM1 := fun xs st => .ok (.int xs.length) st
theorem s_len : CallS X (.builtin "len") gLen := ⟨_, call_len_seq, fun m st H ds v E Q hS r hP => by
  obtain ⟨a, vs, rfl, q, rs⟩ := r
  refine ⟨a, vs, rfl, q.imp id PlT.sq, ?_⟩
  rw [← rs.len]
  exact hP.now hS (.int _)⟩

/-! ### targets -/
def wG (X : Cx) (tg : Expr) : TG := fun v σ H Q => ∀ (pins : List (Addr × Obj)) (s : Shared) (u : Value), Inv X pins σ H s → RelV v u → wpAny (model X.prog X.w) X.A (assign tg X.env u) (fun _ s' => ∃ σ' H', Inv X pins σ' H' s' ∧ Q σ' H') X.xe s
theorem pgW {X : Cx} {tg : Expr} : PG X tg (wG X tg) := ⟨fun pins s σ H v u Q I r h => h pins s u I r⟩
/-- a target: the slots at ix are set -/
structure Eg (X : Cx) (tg : Expr) (ix : List Nat) (set : D → Sl → Option Sl) : Prop where
  run : ∀ (m : List Addr) (τ τ' : Sl) (st : Store) (σ : L2.St) (H : Hp) (d : D) (v : V) (Q : L2.St → Hp → Prop), SL X.K m H τ σ → SS X.kw m st H → RD X.K m H d v → set d τ = some τ' →
    (∀ σ', σ'.length = σ.length → (∀ j, j ∉ ix → σ'[j]? = σ[j]?) → SL X.K m H τ' σ' → Q σ' H) → wG X tg v σ H Q
def gN (i : Nat) : D → Sl → Option Sl := fun d τ => some (τ.set i (some d))
theorem eg_name {i : Nat} {x : Str} (hN : X.N.Nodup) (hi : X.N[i]? = some x := by rfl) (hx : Loc X.env.scope x := by first | exact Or.inl rfl | exact Or.inr rfl) (hf : X.fn x = true ∨ X.env.scope.names.lookup x = some .local := by first | exact .inl rfl | exact .inr rfl) : Eg X (.Name x pos) [i] (gN i) := by
  refine ⟨fun m τ τ' st σ H d v Q hL hS r e k pins s u I ru => (pg_name hN hi hx hf).run pins s σ H v u Q I ru ?_⟩
  cases e
  exact k _ (by simp) (fun j hj => List.getElem?_set_ne (fun z => hj (by simp [z]))) (hL.set i r)
/-- several names, one after another -/
structure Egs (X : Cx) (ts : List Expr) (ix : List Nat) (set : List D → Sl → Option Sl) : Prop where
  run : ∃ t : TGs, PGs X ts t ∧ ∀ (m : List Addr) (τ τ' : Sl) (σ : L2.St) (H : Hp) (ds : List D) (vs : List V) (Q : L2.St → Hp → Prop), SL X.K m H τ σ → RDs X.K m H ds vs → set ds τ = some τ' →
    (∀ σ', σ'.length = σ.length → (∀ j, j ∉ ix → σ'[j]? = σ[j]?) → SL X.K m H τ' σ' → Q σ' H) → t vs σ H Q
def gNil0 : List D → Sl → Option Sl := fun ds τ => match ds with
  | [] => some τ
  | _ => none
theorem egs_nil : Egs X [] [] gNil0 := ⟨_, pgs_nil, fun m τ τ' σ H ds vs Q hL r e k => by
    cases r with
    | nil =>
      cases e
      exact ⟨rfl, k σ rfl (fun _ _ => rfl) hL⟩
    | cons _ _ => cases e⟩
def gCs (i : Nat) (set : List D → Sl → Option Sl) : List D → Sl → Option Sl := fun ds τ => match ds with
  | d :: r => set r (τ.set i (some d))
  | [] => none
theorem egs_cons {i : Nat} {ix : List Nat} {x : Str} {ts : List Expr} {set : List D → Sl → Option Sl} (hN : X.N.Nodup) (hr : Egs X ts ix set) (hi : X.N[i]? = some x := by rfl) (hx : Loc X.env.scope x := by first | exact Or.inl rfl | exact Or.inr rfl) (hf : X.fn x = true ∨ X.env.scope.names.lookup x = some .local := by first | exact .inl rfl | exact .inr rfl)
    (hs : (assignEach (.Name x pos :: ts) X.env).map (·.2) = assign (.Name x pos) X.env :: (assignEach ts X.env).map (·.2) := by rfl) : Egs X (.Name x pos :: ts) (i :: ix) (gCs i set) := by
  obtain ⟨t, ht, h⟩ := hr
  refine ⟨_, pgs_cons (pg_name hN hi hx hf) ht hs, fun m τ τ' σ H ds vs Q hL r e k => ?_⟩
  cases r with
  | nil => cases e
  | cons r1 r2 =>
    refine ⟨_, _, rfl, h m _ τ' _ H _ _ Q (hL.set i r1) r2 e fun σ' l q s => k σ' (by rw [l, List.length_set]) (fun j hj => ?_) s⟩
    rw [q j fun z => hj (List.mem_cons_of_mem _ z)]
    exact List.getElem?_set_ne (fun z => hj (by simp [z]))
def gT (n : Nat) (set : List D → Sl → Option Sl) : D → Sl → Option Sl := fun d τ => match d with
  | .tup ds => if ds.length = n then set ds τ else none
  | _ => none
theorem eg_tup {ts : List Expr} {kk : Nat} {ix : List Nat} {set : List D → Sl → Option Sl} {n : Nat} (hc : X.calm = true) (h : Egs X ts ix set) (hn : (assignEach ts X.env).length = n := by rfl) (hst : (assignEach ts X.env).findIdx? (·.1) = none := by rfl) : Eg X (.Tuple ts kk pos) ix (gT n set) := by
  obtain ⟨t, ht, h⟩ := h
  refine ⟨fun m τ τ' st σ H d v Q hL hS r e k pins s u I ru => (pg_tup hc ht hn hst).run pins s σ H v u Q I ru ?_⟩
  unfold gT at e
  split at e
  · split at e
    · rename_i hl
      cases r with
      | tup q rs => exact ⟨_, _, rfl, q.sq, by rw [← rs.len]; exact hl, h m τ τ' σ H _ _ Q hL rs e k⟩
    · cases e
  · cases e

/-! ### what is walked -/
inductive Sq where
  /-- items that stay -/
  | fix (xs : List D)
  /-- the items of a list of the store's, which must stay as long as it is walked -/
  | cell (n : Nat) (xs : List D)
  /-- pairs of the items of two lists of the store's -/
  | two (n k : Nat) (xs ys : List D)
  /-- pairs of the items of a list of the store's (the first one if l, otherwise the second one) and of a tuple -/
  | mix (l : Bool) (n : Nat) (xs ys : List D)
/-- pairs -/
def zipD (xs ys : List D) : List D := (List.zip xs ys).map fun p => .tup [p.1, p.2]
def Sq.items : Sq → List D
  | .fix xs => xs
  | .cell _ xs => xs
  | .two _ _ xs ys => zipD xs ys
  | .mix _ _ xs ys => zipD xs ys
def Sq.chk (q : Sq) (st : Store) : Bool := match q with
  | .fix _ => true
  | .cell n xs => decide (lstAt st n = some xs)
  | .two n k xs ys => decide (lstAt st n = some xs) && decide (lstAt st k = some ys)
  | .mix l n xs ys => decide (lstAt st n = some (if l then xs else ys))
def JOk (K : KW) (m0 : List Addr) (H0 : Hp) (q : Sq) (J : It) : Prop :=
  ∀ (m : List Addr) (H : Hp) (st : Store), Ext K m0 H0 m H → SS K m st H → q.chk st = true →
    (∀ (i : Nat) (d : D), q.items[i]? = some d → J.go i H ∧ ∀ x H', J.yld i H x H' → Ext K m H m H' ∧ SS K m st H' ∧ RD K m H' d x) ∧ J.stop q.items.length H
def wI (X : Cx) (tg iter : Expr) : TI := fun σ H R => ∀ (pins : List (Addr × Obj)) (s : Shared), Inv X pins σ H s → wpAny (model X.prog X.w) X.A (eval iter X.env) (fun v s1 => wpAny (model X.prog X.w) X.A (pyIter v) (PIE X pins σ tg R) X.xe s1) X.xe s
theorem piW {X : Cx} {tg iter : Expr} : PI X tg iter (wI X tg iter) := ⟨fun pins s σ H R I h => h pins s I⟩
structure Ei (X : Cx) (W : WX) (tg iter : Expr) (f : EM Sq) : Prop where
  run : ∀ (m : List Addr) (τ : Sl) (st : Store) (σ : L2.St) (H : Hp) (R : It → Hp → Prop), SL X.K m H τ σ → SS X.kw m st H → Pe X.kw (fun c d H' => W c d σ H') (JOk X.kw) m H (f τ st) R → wI X tg iter σ H R
theorem j_list {K : KW} {m0 : List Addr} {H0 : Hp} {a : Addr} {q : Sq} (h : ∀ (m : List Addr) (H : Hp) (st : Store), Ext K m0 H0 m H → SS K m st H → q.chk st = true → ∃ vs, SqL K H a vs ∧ RDs K m H q.items vs) : JOk K m0 H0 q (Itl K a) := fun m H st e s hc => by
  obtain ⟨vs, hq, rs⟩ := h m H st e s hc
  refine ⟨fun i d hd => ?_, ⟨vs, hq, by rw [rs.len]; exact Nat.le_refl _⟩⟩
  obtain ⟨v, hv, r⟩ := rs.get hd
  refine ⟨⟨vs, v, hq, hv⟩, fun x H' hy => ?_⟩
  obtain ⟨rfl, y⟩ := hy
  have z := y vs hq
  rw [hv] at z
  cases z
  exact ⟨.refl, s, r⟩
theorem j_tup {K : KW} {m0 : List Addr} {H0 : Hp} {a : Addr} {vs : List V} {xs : List D} (hq : SqT K H0 a vs) (rs : RDs K m0 H0 xs vs) : JOk K m0 H0 (.fix xs) (Itt K a) := fun m H st e s _ => by
  have hq' := e.tup a vs hq
  have rs' := rs.mono e
  refine ⟨fun i d hd => ?_, ⟨vs, hq', by show vs.length ≤ xs.length; rw [← rs.len]; exact Nat.le_refl _⟩⟩
  obtain ⟨v, hv, r⟩ := rs'.get (show xs[i]? = some d from hd)
  refine ⟨⟨vs, v, hq', hv⟩, fun x H' hy => ?_⟩
  obtain ⟨rfl, y⟩ := hy
  have z := y vs hq'
  rw [hv] at z
  cases z
  exact ⟨.refl, s, r⟩
def dSq (st : Store) : D → Option Sq
  | .tup xs => some (.fix xs)
  | .rol xs => some (.fix xs)
  | .ref n => (lstAt st n).map (.cell n)
  | .str x => some (.fix (x.map fun c => .str [c]))
  | _ => none
def iEx (f : EM D) : EM Sq := fun τ st => (f τ st).bind fun d s1 => match dSq s1 d with
  | some q => .ok q s1
  | none => .bad
theorem j_str {K : KW} {m0 : List Addr} {H0 : Hp} (x : List Nat) : JOk K m0 H0 (.fix (x.map fun c => .str [c])) (Its ⟨x.toArray⟩) := fun m H st e s _ => by
  refine ⟨fun i d hd => ?_, ?_⟩
  · have hd : (x.map fun c => D.str [c])[i]? = some d := hd
    rw [List.getElem?_map] at hd
    cases hx : x[i]? with
    | none =>
      rw [hx] at hd
      cases hd
    | some c =>
      rw [hx] at hd
      cases hd
      refine ⟨(List.getElem?_eq_some_iff.mp hx).1, fun y H' hy => ?_⟩
      obtain ⟨e, c', h1, h2⟩ := hy
      subst e
      have h3 : x[i]? = some c' := by simpa using h1
      rw [hx] at h3
      cases h3
      subst h2
      exact ⟨.refl, s, .str [c]⟩
  · show (⟨x.toArray⟩ : PySem.Str).cps.size ≤ (x.map fun c => D.str [c]).length
    simp
theorem ei_ex {tg : Expr} (h : Ex X W e f) : Ei X W tg e (iEx f) := by
  refine ⟨fun m τ st σ H R hL hS hP pins s I => ?_⟩
  unfold iEx at hP
  have hrun := h.run m τ st σ H
  cases hq : f τ st with
  | bad =>
    rw [hq] at hP
    exact hP.elim
  | exc x s1 =>
    rw [hq] at hP
    refine (pi_list (tg := tg) peW).run pins s σ H R I (hrun _ hL hS ?_)
    rw [hq]
    exact hP
  | ok d s1 =>
    rw [hq] at hP
    have hP : Pe X.kw (fun c d H' => W c d σ H') (JOk X.kw) m H (match dSq s1 d with
      | some q => .ok q s1
      | none => .bad) R := hP
    cases hd : dSq s1 d with
    | none =>
      rw [hd] at hP
      exact hP.elim
    | some q =>
      rw [hd] at hP
      cases d with
      | tup xs =>
        cases hd
        refine (pi_tup (tg := tg) peW).run pins s σ H R I (hrun _ hL hS ?_)
        rw [hq]
        intro m1 H1 v e1 hS1 r1
        cases r1 with
        | tup sq rs => exact ⟨_, rfl, ⟨_, sq.sq⟩, hP m1 H1 _ e1 hS1 (j_tup sq.sq rs)⟩
      | rol xs =>
        cases hd
        refine (pi_list (tg := tg) peW).run pins s σ H R I (hrun _ hL hS ?_)
        rw [hq]
        intro m1 H1 v e1 hS1 r1
        cases r1 with
        | rol sq rs => exact ⟨_, rfl, ⟨_, sq.sq⟩, hP m1 H1 _ e1 hS1 (j_list fun m H st e s _ => ⟨_, (e.fzl _ _ sq).sq, rs.mono e⟩)⟩
      | ref n =>
        have hd : (lstAt s1 n).map (Sq.cell n) = some q := hd
        simp only [Option.map_eq_some_iff] at hd
        obtain ⟨xs, hx, rfl⟩ := hd
        refine (pi_list (tg := tg) peW).run pins s σ H R I (hrun _ hL hS ?_)
        rw [hq]
        intro m1 H1 v e1 hS1 r1
        cases r1 with
        | ref z =>
          obtain ⟨vs, h1, h2⟩ := hS1.list hx z
          refine ⟨_, rfl, ⟨vs, SqL.of h1⟩, hP m1 H1 _ e1 hS1 (j_list fun m H st e s hc => ?_)⟩
          obtain ⟨us, h3, h4⟩ := s.list (of_decide_eq_true hc) (e.pre _ _ z)
          exact ⟨us, SqL.of h3, h4⟩
      | str x =>
        cases hd
        refine (pi_str (tg := tg) peW).run pins s σ H R I (hrun _ hL hS ?_)
        rw [hq]
        intro m1 H1 v e1 hS1 r1
        cases r1
        exact ⟨_, rfl, hP m1 H1 _ e1 hS1 (j_str x)⟩
      | _ => cases hd
def iEl (f : EM (List D)) : EM Sq := fun τ st => (f τ st).bind fun xs s1 => .ok (.fix xs) s1
theorem ei_el {tg : Expr} {fl : EM (List D)} (h : El X W e fl) : Ei X W tg e (iEl fl) := by
  refine ⟨fun m τ st σ H R hL hS hP pins s I => (pi_list (tg := tg) peW).run pins s σ H R I (h.run m τ st σ H _ hL hS ?_)⟩
  unfold iEl at hP
  cases hq : fl τ st with
  | ok ds s1 =>
    rw [hq] at hP
    intro m1 H1 v e1 hS1 ⟨a, vs, e, ha, na, hn, rs⟩
    exact ⟨a, e, ⟨vs, SqL.of ha⟩, hP m1 H1 _ e1 hS1 (j_list fun m H st e s _ => ⟨vs, SqL.of (e.frm _ _ na ha), rs.mono e⟩)⟩
  | exc x st' =>
    rw [hq] at hP
    exact hP
  | bad =>
    rw [hq] at hP
    exact hP.elim
/-- lo, lo + 1, .. below hi -/
def rng (lo hi : Int) : List D := (List.range (hi - lo).toNat).map fun k => D.int (lo + (k : Nat))
theorem j_rng {K : KW} {m0 : List Addr} {H0 : Hp} (lo hi : Int) : JOk K m0 H0 (.fix (rng lo hi)) (Itr lo (hi - lo).toNat) := fun m H st e s _ => by
  refine ⟨fun i d hd => ?_, ?_⟩
  · have hd : (rng lo hi)[i]? = some d := hd
    unfold rng at hd
    rw [List.getElem?_map] at hd
    cases hx : (List.range (hi - lo).toNat)[i]? with
    | none =>
      rw [hx] at hd
      cases hd
    | some k =>
      rw [hx] at hd
      cases hd
      obtain ⟨h1, h2⟩ := List.getElem?_eq_some_iff.mp hx
      rw [List.length_range] at h1
      rw [List.getElem_range] at h2
      subst h2
      refine ⟨h1, fun y H' hy => ?_⟩
      obtain ⟨rfl, rfl⟩ := hy
      exact ⟨.refl, s, .int _⟩
  · show (hi - lo).toNat ≤ (rng lo hi).length
    simp [rng]
def okRng (j : Int) : Bool := decide (j.natAbs < 4611686018427387904)
theorem okRng_ok {j : Int} (h : okRng j = true) : -(2 ^ 62) ≤ j ∧ j < 2 ^ 62 := by
  have q : j.natAbs < 4611686018427387904 := of_decide_eq_true h
  have q' : -4611686018427387904 ≤ j ∧ j < 4611686018427387904 := by omega
  exact q'
def iRg1 (f : EM D) : EM Sq := fun τ st => (f τ st).bind fun d s1 => match d with
  | .int j => if okRng j then .ok (.fix (rng 0 j)) s1 else .bad
  | _ => .bad
def iRg2 (fa fb : EM D) : EM Sq := fun τ st => (fa τ st).bind fun d s1 => (fb τ s1).bind fun e s2 => match d, e with
  | .int i, .int j => if okRng i && okRng j then .ok (.fix (rng i j)) s2 else .bad
  | _, _ => .bad
theorem ei_range1 {tg : Expr} (hg : Gl X "range") (hm : X.mg "range" = none) (ha : Ex X W a fa) (hs : starEach [a] X.env = [(false, eval a X.env)] := by rfl) : Ei X W tg (.Call (.Name "range" p) [a] [] pos) (iRg1 fa) := by
  refine ⟨fun m τ st σ H R hL hS hP pins s I => (pi_range1 (tg := tg) hg hm (pa_cons peW pa_nil (by rw [hs]; rfl)) hs).run pins s σ H R I (ha.run m τ st σ H _ hL hS (hP.bind fun d s1 m1 H1 v e1 hS1 r1 hP1 => ?_))⟩
  split at hP1
  · split at hP1
    · rename_i j hj
      cases r1
      obtain ⟨q1, q2⟩ := okRng_ok hj
      refine ⟨j, rfl, q1, q2, hP1.now hS1 ?_⟩
      have z := j_rng (K := X.kw) (m0 := m1) (H0 := H1) 0 j
      rw [Int.sub_zero] at z
      exact z
    · exact hP1.elim
  · exact hP1.elim
theorem ei_range2 {tg : Expr} (hg : Gl X "range") (hm : X.mg "range" = none) (ha : Ex X W a fa) (hb : Ex X W b fb) (hs : starEach [a, b] X.env = [(false, eval a X.env), (false, eval b X.env)] := by rfl) (hs2 : starEach [b] X.env = [(false, eval b X.env)] := by rfl) :
    Ei X W tg (.Call (.Name "range" p) [a, b] [] pos) (iRg2 fa fb) := by
  refine ⟨fun m τ st σ H R hL hS hP pins s I => (pi_range2 (tg := tg) hg hm (pa_cons peW (pa_cons peW pa_nil (by rw [hs2]; rfl)) (by rw [hs, hs2])) hs hs2).run pins s σ H R I ?_⟩
  refine two ha hb hL hS hP fun m2 st2 H2 dx dy x y e2 hS2 r1 r2 hP2 => ?_
  split at hP2
  · split at hP2
    · rename_i i j hij
      cases r1
      cases r2
      rw [Bool.and_eq_true] at hij
      obtain ⟨q1, q2⟩ := okRng_ok hij.1
      obtain ⟨q3, q4⟩ := okRng_ok hij.2
      exact ⟨i, j, rfl, ⟨q1, q2, q3, q4⟩, hP2.now hS2 (j_rng i j)⟩
    · exact hP2.elim
  · exact hP2.elim

/-! ### comprehensions -/
def wipeD (τ : Sl) : List Nat → Sl
  | [] => τ
  | v :: vs => (wipeD τ vs).set v none
theorem wipeD_some {τ : Sl} {i : Nat} {d : D} : ∀ {vs : List Nat}, (wipeD τ vs)[i]? = some (some d) → τ[i]? = some (some d) ∧ i ∉ vs
  | [], h => ⟨h, by simp⟩
  | v :: vs, h => by
    unfold wipeD at h
    by_cases hi : v = i
    · subst hi
      by_cases hv : v < (wipeD τ vs).length
      · rw [List.getElem?_set_self hv] at h
        cases h
      · rw [List.getElem?_eq_none (by simpa using hv)] at h
        cases h
    · rw [List.getElem?_set_ne hi] at h
      obtain ⟨h1, h2⟩ := wipeD_some h
      exact ⟨h1, by simp only [List.mem_cons, not_or]; exact ⟨fun e => hi e.symm, h2⟩⟩
theorem wipeD_len (τ : Sl) : ∀ vs : List Nat, (wipeD τ vs).length = τ.length
  | [] => rfl
  | v :: vs => by unfold wipeD; rw [List.length_set, wipeD_len τ vs]
theorem SL.wipe {K : PySem.W.Frag} {m : List Addr} {H : Hp} {τ : Sl} {σ : L2.St} (s : SL K m H τ σ) (vs : List Nat) : SL K m H (wipeD τ vs) (L2.wipe σ vs) :=
  ⟨by rw [wipeD_len, wipe_length, s.len], fun i d h => by
    obtain ⟨h1, h2⟩ := wipeD_some h
    obtain ⟨v, h3, h4⟩ := s.get i d h1
    exact ⟨v, by rw [wipe_out h2]; exact h3, h4⟩⟩
theorem wipe_same {σ σ' : L2.St} {vs : List Nat} (hl : σ'.length = σ.length) (h : ∀ j, j ∉ vs → σ'[j]? = σ[j]?) : L2.wipe σ' vs = L2.wipe σ vs := by
  apply List.ext_getElem?
  intro i
  by_cases hi : i ∈ vs
  · have z : ∀ (τ : L2.St) (us : List Nat), i ∈ us → (L2.wipe τ us)[i]? = if i < τ.length then some none else none := by
      intro τ us
      induction us with
      | nil => intro q; cases q
      | cons u us ih =>
        intro q
        unfold L2.wipe
        by_cases hu : u = i
        · subst hu
          split
          · rename_i hlt
            rw [List.getElem?_set_self (by rw [wipe_length]; exact hlt)]
          · rename_i hlt
            exact List.getElem?_eq_none (by rw [List.length_set, wipe_length]; omega)
        · rw [List.getElem?_set_ne hu]
          exact ih ((List.mem_cons.mp q).resolve_left fun e => hu e.symm)
    rw [z σ' vs hi, z σ vs hi, hl]
  · rw [wipe_out hi, wipe_out hi, h i hi]
/-- no exception leaves here -/
def _root_.HM.ER.bindN {α β : Type} (r : ER α) (k : α → Store → ER β) : ER β := match r with
  | .ok a st => k a st
  | _ => .bad
@[simp] theorem _root_.HM.ER.bindN_ok {α β : Type} (a : α) (st : Store) (k : α → Store → ER β) : (ER.ok a st).bindN k = k a st := rfl
theorem Pe.bindN {α β γ δ : Type} {K : KW} {E E' : XK} {R : List Addr → Hp → α → β → Prop} {S : List Addr → Hp → γ → δ → Prop} {m : List Addr} {H : Hp} {r : ER α} {Q : β → Hp → Prop} {k : α → Store → ER γ} {Q' : δ → Hp → Prop} (h : Pe K E S m H (r.bindN k) Q')
    (hk : ∀ a st m' H' b, Ext K m H m' H' → SS K m' st H' → R m' H' a b → Pe K E S m' H' (k a st) Q' → Q b H') : Pe K E' R m H r Q := by
  cases r with
  | ok a st => exact fun m' H' b e s q => hk a st m' H' b e s q (Pe.up h e)
  | exc x st => exact h.elim
  | bad => exact h
/-- .. read from an earlier heap -/
theorem Pe.from {α β γ δ : Type} {K : KW} {E E' : XK} {R : List Addr → Hp → α → β → Prop} {S : List Addr → Hp → γ → δ → Prop} {m m1 : List Addr} {H H1 : Hp} {r : ER α} {Q : β → Hp → Prop} {k : α → Store → ER γ} {Q' : δ → Hp → Prop} (h : Pe K E S m1 H1 (r.bindN k) Q')
    (hk : ∀ a st m' H' b, Ext K m H m' H' → SS K m' st H' → R m' H' a b → Pe K E S m1 H1 (k a st) Q' → Q b H') : Pe K E' R m H r Q := by
  cases r with
  | ok a st => exact fun m' H' b e s q => hk a st m' H' b e s q h
  | exc x st => exact h.elim
  | bad => exact h
/-- the turns of a comprehension -/
def compL (q : Sq) (set : D → Sl → Option Sl) (ft : EM Bool) (fe : EM D) (τ : Sl) : List D → List D → Store → ER (List D)
  | [], acc => fun st => if q.chk st then .ok acc st else .bad
  | d :: ds, acc => fun st => if q.chk st then match set d τ with
    | some τ1 => (ft τ1 st).bindN fun b s1 => if b then (fe τ1 s1).bindN fun x s2 => compL q set ft fe τ ds (acc ++ [x]) s2 else compL q set ft fe τ ds acc s1
    | none => .bad
  else .bad
def lComp (own : List Nat) (fi : EM Sq) (set : D → Sl → Option Sl) (ft : EM Bool) (fe : EM D) : EM (List D) := fun τ st => (fi τ st).bind fun q s1 =>
  if q.items.length ≤ 16777216 then compL q set ft fe (wipeD τ own) q.items [] s1 else .bad
/-- tests of a comprehension -/
def wTs (X : Cx) (ifs : List Expr) : TT := fun σ H Q => ∀ (pins : List (Addr × Obj)) (s : Shared), Inv X pins σ H s → wpAny (model X.prog X.w) X.A (forIn ifs true fun c r => if r = true then do let ok ← isTrue c X.env (eval c X.env); pure (ForInStep.yield ok) else pure (ForInStep.yield r)) (TP X pins σ Q) X.xe s
theorem ptsW {X : Cx} {ifs : List Expr} : PTs X ifs (wTs X ifs) := ⟨fun pins s σ H Q I h => h pins s I⟩
structure Ets (X : Cx) (W : WX) (ifs : List Expr) (f : EM Bool) : Prop where
  run : ∀ (m : List Addr) (τ : Sl) (st : Store) (σ : L2.St) (H : Hp) (Q : Bool → Hp → Prop), SL X.K m H τ σ → SS X.kw m st H → Pe X.kw (fun c d H' => W c d σ H') RB m H (f τ st) Q → wTs X ifs σ H Q
def tYes : EM Bool := fun _ st => .ok true st
theorem ets_nil : Ets X W [] tYes := ⟨fun m τ st σ H Q hL hS hP pins s I => pts_nil.run pins s σ H Q I (hP.now hS rfl)⟩
theorem ets_one (h : Et X W e g) : Ets X W [e] g := ⟨fun m τ st σ H Q hL hS hP pins s I => (pts_one ptW).run pins s σ H Q I (h.run m τ st σ H Q hL hS hP)⟩
abbrev W0 : WX := fun _ _ _ _ => False
/-- the context of a block, whatever it starts at -/
abbrev Blk (X : Cx) (scope : Scope) (P : Cx → Prop) : Prop := ∀ (s : Shared) (H : Hp) (C : Addr) (cl : List (Str × Addr)) (fp : List Addr), P (X.blk s H scope (compEnvC scope cl C X.env) fp)
abbrev BEx (X : Cx) (scope : Scope) (elt : Expr) (fe : EM D) : Prop := ∀ (s : Shared) (H : Hp) (C : Addr) (cl : List (Str × Addr)) (fp : List Addr), Ex (X.blk s H scope (compEnvC scope cl C X.env) fp) W0 elt fe
abbrev BEt (X : Cx) (scope : Scope) (ifs : List Expr) (ft : EM Bool) : Prop := ∀ (s : Shared) (H : Hp) (C : Addr) (cl : List (Str × Addr)) (fp : List Addr), Ets (X.blk s H scope (compEnvC scope cl C X.env) fp) W0 ifs ft
abbrev BEg (X : Cx) (scope : Scope) (tg : Expr) (ix : List Nat) (set : D → Sl → Option Sl) : Prop := ∀ (s : Shared) (H : Hp) (C : Addr) (cl : List (Str × Addr)) (fp : List Addr), Eg (X.blk s H scope (compEnvC scope cl C X.env) fp) tg ix set
def gAll (X : Cx) (scope : Scope) (tg : Expr) : TG := fun v σ H Q => Blk X scope fun Y => wG Y tg v σ H Q
def tAll (X : Cx) (scope : Scope) (ifs : List Expr) : TT := fun σ H Q => Blk X scope fun Y => wTs Y ifs σ H Q
def eAll (X : Cx) (scope : Scope) (e : Expr) : TE := fun σ H Q => Blk X scope fun Y => wE Y e σ H Q
/-- one turn after another -/
theorem comp_read {tg elt : Expr} {ifs : List Expr} {scope : Scope} {ix own : List Nat} {set : D → Sl → Option Sl} {ft : EM Bool} {fe : EM D} (hown : ∀ i ∈ ix, i ∈ own) (hg : BEg X scope tg ix set) (ht : BEt X scope ifs ft) (he : BEx X scope elt fe)
    {m0 : List Addr} {τ : Sl} {σ : L2.St} {H0 H1 : Hp} {st0 : Store} {m1 : List Addr} {q : Sq} {J : It} {Q : VK} {E : XK} (e1 : Ext X.K m0 H0 m1 H1) (hL : SL X.K m1 H1 τ σ) (hS : SS X.kw m1 st0 H1) (hJ : JOk X.kw m1 H1 q J) (hz : q.items.length ≤ 16777216)
    (hP : Pe X.kw E (fun m' H' ds v => ∃ a vs, v = .ref a ∧ H' a = some (.lst vs) ∧ a ∉ m' ∧ H0 a = none ∧ RDs X.K m' H' ds vs) m1 H1 (compL q set ft fe (wipeD τ own) q.items [] st0) Q) (D' : Addr) (hD : H1 D' = none) :
    ∃ W : Nat → Nat → Hp → Prop, (∃ m, W 0 m (upd H1 D' (.lst []))) ∧ ∀ i m H, W i m H →
      (J.stop i H ∧ Q (.ref D') H) ∨ (J.go i H ∧ ∃ Nx : Hp → Prop, (∀ H', Nx H' → ∃ m', m' < m ∧ W (i + 1) m' H') ∧ ∀ x H', J.yld i H x H' → gAll X scope tg x (L2.wipe σ own) H' fun σ2 H2 => L2.wipe σ2 own = L2.wipe σ own ∧ tAll X scope ifs σ2 H2 fun b H3 =>
        if b = true then eAll X scope elt σ2 H3 fun y H4 => ∃ acc, H4 D' = some (.lst acc) ∧ acc.length < sizeLine ∧ Nx (upd H4 D' (.lst (acc ++ [y]))) else Nx H3) := by
  have hD0 : H0 D' = none := e1.back hS hD
  have hn : D' ∉ m1 := hS.notin hD
  obtain ⟨Z, hZ⟩ : ∃ Z : Nat → Hp → Prop, Z = fun i H => i ≤ q.items.length ∧ ∃ (m : List Addr) (st : Store) (acc : List D) (vs : List V), Ext X.K m1 H1 m H ∧ D' ∉ m ∧ SS X.kw m st H ∧ H D' = some (.lst vs) ∧ RDs X.K m H acc vs ∧ acc.length ≤ i ∧
    Pe X.kw E (fun m' H' ds v => ∃ a vs, v = .ref a ∧ H' a = some (.lst vs) ∧ a ∉ m' ∧ H0 a = none ∧ RDs X.K m' H' ds vs) m1 H1 (compL q set ft fe (wipeD τ own) (q.items.drop i) acc st) Q := ⟨_, rfl⟩
  refine ⟨fun i k H => k = q.items.length - i ∧ Z i H, ⟨_, rfl, ?_⟩, ?_⟩
  · rw [hZ]
    refine ⟨Nat.zero_le _, m1, st0, [], [], Ext.fresh hD, hn, hS.fresh hD, upd_same, .nil, Nat.le_refl _, ?_⟩
    rw [List.drop_zero]
    exact hP
  · rintro i k H ⟨rfl, hZi⟩
    rw [hZ] at hZi
    obtain ⟨hi, m, st, acc, vs, e, hm, s, hd, rs, hacc, hP⟩ := hZi
    by_cases hlt : i < q.items.length
    · rw [List.drop_eq_getElem_cons hlt] at hP
      unfold compL at hP
      split at hP
      · rename_i hc
        obtain ⟨hgo, _⟩ := hJ m H st e s hc
        obtain ⟨go, yl⟩ := hgo i q.items[i] (by simp [hlt])
        split at hP
        · rename_i τ1 hset
          refine .inr ⟨go, Z (i + 1), fun H' h => ⟨q.items.length - (i + 1), by omega, rfl, h⟩, fun x H' hy s0 H0' C cl fp => ?_⟩
          obtain ⟨e2, s2, r2⟩ := yl x H' hy
          refine (hg s0 H0' C cl fp).run m _ τ1 st _ H' _ x _ ((hL.mono (e.trans e2)).wipe own) s2 r2 hset fun σ2 l1 l2 hL2 => ?_
          have l3 : σ2.length = σ.length := by rw [l1, wipe_length]
          have l4 : ∀ j, j ∉ own → σ2[j]? = σ[j]? := fun j hj => by rw [l2 j fun z => hj (hown j z), wipe_out hj]
          refine ⟨wipe_same l3 l4, fun s0 H0' C cl fp => ?_⟩
          have keep : ∀ {m' : List Addr} {H' : Hp}, Ext X.K m H m' H' → H' D' = some (.lst vs) ∧ D' ∉ m' := fun {m' H'} e => by
            refine ⟨e.frm D' _ hm hd, fun z => ?_⟩
            have q := e.new D' z hm
            rw [hd] at q
            cases q
          refine (ht s0 H0' C cl fp).run m τ1 st σ2 H' _ hL2 s2 (Pe.from (m := m) (H := H') hP fun b s3 m3 H3 b' e3 hS3 r3 hP3 => ?_)
          subst r3
          cases b with
          | false =>
            refine iteF ?_
            rw [hZ]
            obtain ⟨k1, k2⟩ := keep (e2.trans e3)
            exact ⟨by omega, m3, s3, acc, vs, e.trans (e2.trans e3), k2, hS3, k1, rs.mono (e2.trans e3), by omega, hP3⟩
          | true =>
            refine iteT fun s0 H0' C cl fp => (he s0 H0' C cl fp).run m3 τ1 s3 σ2 H3 _ (hL2.mono e3) hS3 (Pe.from (m := m3) (H := H3) (k := fun x s2 => compL q set ft fe (wipeD τ own) (List.drop (i + 1) q.items) (acc ++ [x]) s2) hP3 fun y s4 m4 H4 y' e4 hS4 r4 hP4 => ?_)
            obtain ⟨k1, k2⟩ := keep ((e2.trans e3).trans e4)
            have rs4 := rs.mono ((e2.trans e3).trans e4)
            have hz' : vs.length < sizeLine := by
              rw [← rs.len, PySem.sizeLine_eq]
              omega
            have e5 : Ext X.K m1 H1 m4 H4 := e.trans ((e2.trans e3).trans e4)
            have e6 : Ext X.K m1 H1 m4 (upd H4 D' (.lst (vs ++ [y']))) := {
              pre := e5.pre
              tup := fun a us h => (Kp.write (K := X.K) (m := m4) k1).tup a us (e5.tup a us h)
              plt := fun a us h => (Kp.write (K := X.K) (m := m4) k1).plt a us (e5.plt a us h)
              fzl := fun a us h => (Kp.write (K := X.K) (m := m4) k1).fzl a us (e5.fzl a us h)
              frm := fun a o q h => by
                rw [upd_ne (ne_of_none h hD)]
                exact e5.frm a o q h
              new := e5.new }
            refine ⟨vs, k1, hz', ?_⟩
            rw [hZ]
            refine ⟨by omega, m4, s4, acc ++ [y], vs ++ [y'], e6, k2, hS4.other k1 k2, upd_same, (rs4.append (.cons r4 .nil)).kp (Kp.write k1), by rw [List.length_append, List.length_singleton]; omega, ?_⟩
            exact hP4
        · exact hP.elim
      · exact hP.elim
    · have e0 : i = q.items.length := by omega
      subst e0
      rw [List.drop_length] at hP
      unfold compL at hP
      split at hP
      · rename_i hc
        obtain ⟨_, stop⟩ := hJ m H st e s hc
        exact .inl ⟨stop, hP m H (.ref D') e s ⟨D', vs, rfl, hd, hm, hD0, rs⟩⟩
      · exact hP.elim
end
end HM

/-! HM, part 6: list comprehensions, statements. -/
namespace HM
open PySem PySem.Spec PyProof.Rows L2
section
variable {X : Cx} {W : WX} {e a b c : Expr} {es rest : List Expr} {pos p : Pos} {f fa fb fc : EM D} {fs : EM (List D)} {g ga gb : EM Bool}
theorem comp_post {tg elt iter : Expr} {ifs : List Expr} {scope : Scope} {own : List (Str × Nat)} {ix : List Nat} {set : D → Sl → Option Sl} {ft : EM Bool} {fe : EM D} {fi : EM Sq} (hi : Ei X W tg iter fi) (hown : ∀ i ∈ ix, i ∈ own.map (·.2))
    (hg : BEg X scope tg ix set) (ht : BEt X scope ifs ft) (he : BEx X scope elt fe) {m : List Addr} {τ : Sl} {st : Store} {σ : L2.St} {H : Hp} {Q : VK} (hL : SL X.K m H τ σ) (hS : SS X.kw m st H)
    (hP : Pe X.kw (fun c d H' => W c d σ H') (fun m' H' ds v => ∃ a vs, v = .ref a ∧ H' a = some (.lst vs) ∧ a ∉ m' ∧ H a = none ∧ RDs X.K m' H' ds vs) m H (lComp (own.map (·.2)) fi set ft fe τ st) Q) :
    tLc (wI X tg iter) (gAll X scope tg) (tAll X scope ifs) (eAll X scope elt) (own.map (·.2)) σ H Q := by
  unfold lComp at hP
  refine hi.run m τ st σ H _ hL hS ?_
  cases hq : fi τ st with
  | bad =>
    rw [hq] at hP
    exact hP.elim
  | exc x s1 =>
    rw [hq] at hP
    exact hP
  | ok q s1 =>
    rw [hq] at hP
    intro m1 H1 J e1 hS1 hJ D' hD
    have hP : Pe X.kw (fun c d H' => W c d σ H') (fun m' H' ds v => ∃ a vs, v = .ref a ∧ H' a = some (.lst vs) ∧ a ∉ m' ∧ H a = none ∧ RDs X.K m' H' ds vs) m H (if q.items.length ≤ 16777216 then compL q set ft fe (wipeD τ (own.map (·.2))) q.items [] s1 else .bad) Q := hP
    split at hP
    · rename_i hz
      exact comp_read (E := fun c d H' => W c d σ H') hown hg ht he e1 (hL.mono e1) hS1 hJ hz (hP.up e1) D' hD
    · exact hP.elim
theorem el_comp {tg elt iter : Expr} {ifs : List Expr} {scope : Scope} {own : List (Str × Nat)} {ix : List Nat} {set : D → Sl → Option Sl} {ft : EM Bool} {fe : EM D} {fi : EM Sq} (hc : X.calm = true) (hN : X.N.Nodup) (hi : Ei X W tg iter fi) (ok : BlkOk X.N X.env.scope scope own)
    (hg : BEg X scope tg ix set) (ht : BEt X scope ifs ft) (he : BEx X scope elt fe) (hown : ∀ i ∈ ix, i ∈ own.map (·.2) := by decide) (hs : ∀ x, foldedSetIterable iter X.env x = pure x := by intro _; rfl) :
    El X W (.ListComp elt [⟨tg, iter, ifs, 0⟩] scope pos) (lComp (own.map (·.2)) fi set ft fe) := by
  refine ⟨fun m τ st σ H Q hL hS hP pins s I => ?_⟩
  refine (pe_lc (g := gAll X scope tg) (tt := tAll X scope ifs) (te := eAll X scope elt) hc hN piW ok ?_ ?_ ?_ hs).run pins s σ H Q I (comp_post hi hown hg ht he hL hS hP)
  · exact fun s H C cl fp => ⟨fun pins s' σ H' v u Q I r h => h s H C cl fp pins s' u I r⟩
  · exact fun s H C cl fp => ⟨fun pins s' σ H' Q I h => h s H C cl fp pins s' I⟩
  · exact fun s H C cl fp => ⟨fun pins s' σ H' Q I h => h s H C cl fp pins s' I⟩
end

/-! ### statements -/
/-- behind a statement -/
def Ps (K : KW) (W : WX) (m : List Addr) (H : Hp) (r : SR) (D : Ends) : Prop := match r with
  | .nx τ st => ∀ m' H' σ, Ext K m H m' H' → SS K m' st H' → SL K m' H' τ σ → D.nx σ H'
  | .bk τ st => ∀ m' H' σ, Ext K m H m' H' → SS K m' st H' → SL K m' H' τ σ → D.bk σ H'
  | .ct τ st => ∀ m' H' σ, Ext K m H m' H' → SS K m' st H' → SL K m' H' τ σ → D.ct σ H'
  | .rt d st => ∀ m' H' v, Ext K m H m' H' → SS K m' st H' → RD K m' H' d v → D.rt v H'
  | .exc x τ st => ∀ m' H' σ c d, Ext K m H m' H' → SS K m' st H' → SL K m' H' τ σ → XR K m' H' x c d → W c d σ H'
  | .bad => False
theorem Ps.up {K : KW} {W : WX} {m m1 : List Addr} {H H1 : Hp} {r : SR} {D : Ends} (h : Ps K W m H r D) (e : Ext K m H m1 H1) : Ps K W m1 H1 r D := by
  cases r with
  | nx τ st => exact fun m' H' σ e' => h m' H' σ (e.trans e')
  | bk τ st => exact fun m' H' σ e' => h m' H' σ (e.trans e')
  | ct τ st => exact fun m' H' σ e' => h m' H' σ (e.trans e')
  | rt d st => exact fun m' H' σ e' => h m' H' σ (e.trans e')
  | exc x τ st => exact fun m' H' σ c d e' => h m' H' σ c d (e.trans e')
  | bad => exact h
def wS (X : Cx) (st : Stmt) : TS := fun D σ H => ∀ (pins : List (Addr × Obj)) (s : Shared), Inv X pins σ H s → wpAny (model X.prog X.w) X.A (exec st X.env) (SP X pins D) X.xe s
def wSs (X : Cx) (st : List Stmt) : TS := fun D σ H => ∀ (pins : List (Addr × Obj)) (s : Shared), Inv X pins σ H s → wpAny (model X.prog X.w) X.A (execs st X.env) (SP X pins D) X.xe s
theorem psW {X : Cx} {st : Stmt} : PS X st (wS X st) := ⟨fun pins s σ H D I h => h pins s I⟩
theorem pssW {X : Cx} {st : List Stmt} : PSs X st (wSs X st) := ⟨fun pins s σ H D I h => h pins s I⟩
structure Sx (X : Cx) (W : WX) (st : Stmt) (f : SM) : Prop where
  run : ∀ (m : List Addr) (τ : Sl) (s : Store) (σ : L2.St) (H : Hp) (D : Ends), SL X.K m H τ σ → SS X.kw m s H → Ps X.kw W m H (f τ s) D → wS X st D σ H
structure Sxs (X : Cx) (W : WX) (st : List Stmt) (f : SM) : Prop where
  run : ∀ (m : List Addr) (τ : Sl) (s : Store) (σ : L2.St) (H : Hp) (D : Ends), SL X.K m H τ σ → SS X.kw m s H → Ps X.kw W m H (f τ s) D → wSs X st D σ H
/-- an expression, then the rest of a statement -/
def bindE {α : Type} (r : ER α) (τ : Sl) (k : α → Store → SR) : SR := match r with
  | .ok a st => k a st
  | .exc x st => .exc x τ st
  | .bad => .bad
@[simp] theorem bindE_ok {α : Type} (a : α) (st : Store) (τ : Sl) (k : α → Store → SR) : bindE (.ok a st) τ k = k a st := rfl
@[simp] theorem bindE_exc {α : Type} (x : Xc) (st : Store) (τ : Sl) (k : α → Store → SR) : bindE (.exc x st : ER α) τ k = .exc x τ st := rfl
@[simp] theorem bindE_bad {α : Type} (τ : Sl) (k : α → Store → SR) : bindE (.bad : ER α) τ k = .bad := rfl
theorem Ps.bind {α β : Type} {K : KW} {W : WX} {R : List Addr → Hp → α → β → Prop} {m : List Addr} {H : Hp} {r : ER α} {τ : Sl} {σ : L2.St} {k : α → Store → SR} {D : Ends} {Q : β → Hp → Prop} (hL : SL K m H τ σ) (h : Ps K W m H (bindE r τ k) D)
    (hk : ∀ a st m' H' b, Ext K m H m' H' → SS K m' st H' → R m' H' a b → Ps K W m' H' (k a st) D → Q b H') : Pe K (fun c d H' => W c d σ H') R m H r Q := by
  cases r with
  | ok a st => exact fun m' H' b e s q => hk a st m' H' b e s q (Ps.up h e)
  | exc x st => exact fun m' H' c d e s q => h m' H' σ c d e s (hL.mono e) q
  | bad => exact h
def sSeq (f g : SM) : SM := fun τ st => match f τ st with
  | .nx τ1 s1 => g τ1 s1
  | r => r
def sNil : SM := fun τ st => .nx τ st
section
variable {X : Cx} {W : WX} {e a b c : Expr} {es rest : List Expr} {pos p : Pos} {fa fb fc fe : EM D} {fs : EM (List D)} {g ga gb : EM Bool} {s1 : Stmt} {ss body : List Stmt} {f h k : SM}
theorem sx_nil : Sxs X W [] sNil := ⟨fun m τ s σ H D hL hS hP pins sh I => pss_nil.run pins sh σ H D I (hP m H σ .refl hS hL)⟩
theorem sx_cons (h1 : Sx X W s1 f) (h2 : Sxs X W ss h) : Sxs X W (s1 :: ss) (sSeq f h) := by
  refine ⟨fun m τ s σ H D hL hS hP pins sh I => (pss_cons psW pssW).run pins sh σ H D I (h1.run m τ s σ H _ hL hS ?_)⟩
  unfold sSeq at hP
  cases hq : f τ s with
  | nx τ1 s1 =>
    rw [hq] at hP
    exact fun m1 H1 σ1 e1 hS1 hL1 => h2.run m1 τ1 s1 σ1 H1 D hL1 hS1 (hP.up e1)
  | bk τ1 s1 =>
    rw [hq] at hP
    exact hP
  | ct τ1 s1 =>
    rw [hq] at hP
    exact hP
  | rt d s1 =>
    rw [hq] at hP
    exact hP
  | exc x τ1 s1 =>
    rw [hq] at hP
    exact hP
  | bad =>
    rw [hq] at hP
    exact hP
theorem sx_one (h1 : Sx X W s1 f) : Sxs X W [s1] f := by
  refine ⟨fun m τ s σ H D hL hS hP pins sh I => (pss_one psW).run pins sh σ H D I (h1.run m τ s σ H _ hL hS hP)⟩
theorem sx_pass : Sx X W (.Pass pos) sNil := ⟨fun m τ s σ H D hL hS hP pins sh I => ps_pass.run pins sh σ H D I (hP m H σ .refl hS hL)⟩
def sBrk : SM := fun τ st => .bk τ st
def sCnt : SM := fun τ st => .ct τ st
theorem sx_break : Sx X W (.Break pos) sBrk := ⟨fun m τ s σ H D hL hS hP pins sh I => ps_break.run pins sh σ H D I (hP m H σ .refl hS hL)⟩
theorem sx_continue : Sx X W (.Continue pos) sCnt := ⟨fun m τ s σ H D hL hS hP pins sh I => ps_continue.run pins sh σ H D I (hP m H σ .refl hS hL)⟩
def sRet (fe : EM D) : SM := fun τ st => bindE (fe τ st) τ fun d s1 => .rt d s1
theorem sx_ret (he : Ex X W e fe) : Sx X W (.Return (some e) pos) (sRet fe) := by
  refine ⟨fun m τ s σ H D hL hS hP pins sh I => (ps_ret peW).run pins sh σ H D I ?_⟩
  exact he.run m τ s σ H _ hL hS (hP.bind hL fun d s1 m1 H1 v e1 hS1 r1 hP1 => hP1 m1 H1 v .refl hS1 r1)
def sRetN : SM := fun _ st => .rt .non st
theorem sx_retN : Sx X W (.Return none pos) sRetN := ⟨fun m τ s σ H D hL hS hP pins sh I => ps_retN.run pins sh σ H D I (hP m H .non .refl hS .non)⟩
def sExpr (fe : EM D) : SM := fun τ st => bindE (fe τ st) τ fun _ s1 => .nx τ s1
theorem sx_expr (he : Ex X W e fe) (hs : swapsWith e none pos.line X.env = pure false := by rfl) : Sx X W (.Expr e pos) (sExpr fe) := by
  refine ⟨fun m τ s σ H D hL hS hP pins sh I => (ps_expr peW hs).run pins sh σ H D I ?_⟩
  exact he.run m τ s σ H _ hL hS (hP.bind hL fun d s1 m1 H1 v e1 hS1 r1 hP1 => hP1 m1 H1 σ .refl hS1 (hL.mono e1))
def sIf (g : EM Bool) (f h : SM) : SM := fun τ st => bindE (g τ st) τ fun b s1 => if b then f τ s1 else h τ s1
theorem sx_if {sa sb : List Stmt} (hc : Et X W c g) (ha : Sxs X W sa f) (hb : Sxs X W sb h) : Sx X W (.If c sa sb pos) (sIf g f h) := by
  refine ⟨fun m τ s σ H D hL hS hP pins sh I => (ps_if ptW pssW pssW).run pins sh σ H D I ?_⟩
  refine hc.run m τ s σ H _ hL hS (hP.bind hL fun d s1 m1 H1 v e1 hS1 r1 hP1 => ?_)
  subst r1
  cases d with
  | true => exact iteT (ha.run m1 τ s1 σ H1 D (hL.mono e1) hS1 hP1)
  | false => exact iteF (hb.run m1 τ s1 σ H1 D (hL.mono e1) hS1 hP1)
/-- name = e -/
def sSet (i : Nat) (fe : EM D) : SM := fun τ st => bindE (fe τ st) τ fun d s1 => .nx (τ.set i (some d)) s1
theorem sx_set {i : Nat} {x : Str} {pos' : Pos} (hN : X.N.Nodup) (he : Ex X W e fe) (hi : X.N[i]? = some x := by rfl) (hx : Loc X.env.scope x := by first | exact Or.inl rfl | exact Or.inr rfl) (hs : swapsWith e (some (.Name x pos')) pos.line X.env = pure false := by rfl)
    (hf : X.fn x = true ∨ X.env.scope.names.lookup x = some .local := by first | exact .inl rfl | exact .inr rfl) : Sx X W (.Assign [.Name x pos'] e pos) (sSet i fe) := by
  refine ⟨fun m τ s σ H D hL hS hP pins sh I => (ps_set hN hi hx peW hs hf).run pins sh σ H D I ?_⟩
  exact he.run m τ s σ H _ hL hS (hP.bind hL fun d s1 m1 H1 v e1 hS1 r1 hP1 => hP1 m1 H1 _ .refl hS1 ((hL.mono e1).set i r1))
/-- target = e -/
def sAsg (set : D → Sl → Option Sl) (fe : EM D) : SM := fun τ st => bindE (fe τ st) τ fun d s1 => match set d τ with
  | some τ1 => .nx τ1 s1
  | none => .bad
theorem sx_asg {tg : Expr} {ix : List Nat} {set : D → Sl → Option Sl} (he : Ex X W e fe) (hg : Eg X tg ix set) (hs : swapsWithSole [tg] e pos.line X.env = pure false := by rfl) (hw : swappedStores [tg] e X.env = pure none := by rfl) (h1 : (assignEach [tg] X.env).map (·.2) = [assign tg X.env] := by rfl) : Sx X W (.Assign [tg] e pos) (sAsg set fe) := by
  refine ⟨fun m τ s σ H D hL hS hP pins sh I => (ps_asg peW pgW hs hw h1).run pins sh σ H D I ?_⟩
  refine he.run m τ s σ H _ hL hS (hP.bind hL fun d s1 m1 H1 v e1 hS1 r1 hP1 => ?_)
  split at hP1
  · rename_i τ1 hset
    exact hg.run m1 τ τ1 s1 σ H1 d v _ (hL.mono e1) hS1 r1 hset fun σ2 _ _ hL2 => hP1 m1 H1 σ2 .refl hS1 hL2
  · exact hP1.elim
/-- name op= e -/
def sAug (i : Nat) (o : O2) (fe : EM D) : SM := fun τ st => match τ[i]? with
  | some (some x) => bindE (fe τ st) τ fun y s1 => bindE (o x y s1) τ fun z s2 => .nx (τ.set i (some z)) s2
  | _ => .bad
theorem sx_aug {i : Nat} {x : Str} {pos' : Pos} {op : Operator} {o : O2} (hN : X.N.Nodup) (he : Ex X W e fe) (ho : OpM X W (inplaceOp op) o) (hi : X.N[i]? = some x := by rfl) (hx : Loc X.env.scope x := by first | exact Or.inl rfl | exact Or.inr rfl)
    (hf : X.fn x = true ∨ X.env.scope.names.lookup x = some .local := by first | exact .inl rfl | exact .inr rfl) : Sx X W (.AugAssign (.Name x pos') op e pos) (sAug i o fe) := by
  refine ⟨fun m τ s σ H D hL hS hP pins sh I => ?_⟩
  unfold sAug at hP
  split at hP
  · rename_i d0 hd0
    obtain ⟨v0, h1, h2⟩ := hL.get i d0 hd0
    obtain ⟨mm, hn, hl⟩ := I.loc
    have vis : Vis X.env.scope x := by
      rcases hx with k | k
      · exact .inl k
      · exact .inr (.inl k)
    obtain ⟨u0, r0, l⟩ := hl i x v0 hi h1 vis
    refine wpAny_AugAssign_Name ?_
    have go : wpAny (model X.prog X.w) X.A (eval e X.env) (fun w s₂ => wpAny (model X.prog X.w) X.A (inplaceOp op u0 w) (fun r s₃ => wpAny (model X.prog X.w) X.A (storeName X.env x r) (fun _ => SP X pins D .next) X.xe s₃) X.xe s₂) X.xe sh := by
      refine thn (he.run m τ s σ H (fun y H1 => wR2 X (inplaceOp op) σ v0 y H1 fun z H2 => D.nx (σ.set i (some z)) H2) hL hS (hP.bind hL fun dy s1 m1 H1 y e1 hS1 r1 hP1 pins s v u I rx ry => ?_) pins sh I) fun w s1 ⟨y, H1, I1, r1, q1⟩ => ?_
      · exact ho m1 s1 σ H1 d0 dy v0 y _ hS1 (h2.mono e1) r1 (hP1.bind (hL.mono e1) fun dz s2 m2 H2 z e2 hS2 r2 hP2 => hP2 m2 H2 _ .refl hS2 (((hL.mono e1).mono e2).set i r2)) pins s v u I rx ry
      · refine thn (q1 pins s1 u0 w I1 r0 r1) fun z s2 ⟨zv, H2, I2, r2, q2⟩ => ?_
        exact store_ok I2 hN hi hx r2 (fun s3 I3 => ⟨_, H2, I3, q2⟩) hf
    rcases l with ⟨hk, hm⟩ | ⟨hk, c, hc, hcell⟩
    · exact wpAny_loadName_local I.ok.kind hk hn hm go
    · rcases hk with hk | hk
      · exact wpAny_loadName_cell I.ok.kind hk hc hcell go
      · rcases hx with k | k
        · have : X.env.scope.names.lookup x = some .free := hk
          rw [k] at this
          cases this
        · have : X.env.scope.names.lookup x = some .free := hk
          rw [k] at this
          cases this
  · exact hP.elim
/-- o[i] = e (a list) -/
def oSetS : D → D → D → Store → Option Store := fun o i v st => match o, i with
  | .ref n, .int k => match lstAt st n with
    | some xs => match ixN xs.length k with
      | some j => some (st.set n (.lst (xs.set j v)))
      | none => none
    | none => none
  | _, _ => none
/-- the order: the value, then the object, then the index -/
def sSubS (fo fi fe : EM D) : SM := fun τ st => bindE (fe τ st) τ fun v s1 => bindE (fo τ s1) τ fun o s2 => bindE (fi τ s2) τ fun i s3 => match oSetS o i v s3 with
  | some s4 => .nx τ s4
  | none => .bad
theorem set_readS {K : KW} {m : List Addr} {st st' : Store} {H : Hp} {o i v : D} {vo vi vv : V} (hS : SS K m st H) (ro : RD K m H o vo) (ri : RD K m H i vi) (rv : RD K m H v vv) (h : oSetS o i v st = some st') :
    ∃ p xs k j, vo = .ref p ∧ vi = .int k ∧ H p = some (.lst xs) ∧ ixN xs.length k = some j ∧ Ext K m H m (upd H p (.lst (xs.set j vv))) ∧ SS K m st' (upd H p (.lst (xs.set j vv))) := by
  unfold oSetS at h
  split at h
  · split at h
    · rename_i xs hx
      split at h
      · rename_i j hj
        cases h
        cases ro with
        | ref q =>
          cases ri
          obtain ⟨vs, h1, h2⟩ := hS.list hx q
          exact ⟨_, vs, _, j, rfl, rfl, h1, by rw [← h2.len]; exact hj, Ext.write h1 q, hS.write h1 q (h2.set rv j)⟩
      · cases h
    · cases h
  · cases h
theorem sx_subS {o i : Expr} {p' : Pos} {fo fi : EM D} (he : Ex X W e fe) (ho : Ex X W o fo) (hi : Ex X W i fi)
    (ha : ∀ v, assign (.Subscript o i p') X.env v = (do
      let ov ← holding [v] (eval o X.env)
      let iv ← holding [v, ov] (eval i X.env)
      standAt p'
      holding [v, ov, iv] (setItem ov iv v)
      release [v, ov, iv] []) := by intro _; rfl)
    (hs : swapsWithSole [.Subscript o i p'] e pos.line X.env = pure false := by rfl) (hw : swappedStores [.Subscript o i p'] e X.env = pure none := by rfl) (h1 : (assignEach [.Subscript o i p'] X.env).map (·.2) = [assign (.Subscript o i p') X.env] := by rfl) : Sx X W (.Assign [.Subscript o i p'] e pos) (sSubS fo fi fe) := by
  refine ⟨fun m τ s σ H D hL hS hP pins sh I => (ps_asg peW (pg_sub peW peW set_list ha) hs hw h1).run pins sh σ H D I ?_⟩
  refine he.run m τ s σ H _ hL hS (hP.bind hL fun v s1 m1 H1 vv e1 hS1 r1 hP1 => ?_)
  refine ho.run m1 τ s1 σ H1 _ (hL.mono e1) hS1 (hP1.bind (hL.mono e1) fun o s2 m2 H2 vo e2 hS2 r2 hP2 => ?_)
  refine hi.run m2 τ s2 σ H2 _ ((hL.mono e1).mono e2) hS2 (hP2.bind ((hL.mono e1).mono e2) fun i s3 m3 H3 vi e3 hS3 r3 hP3 => ?_)
  split at hP3
  · rename_i s4 h4
    obtain ⟨p, xs, k, j, q1, q2, q3, q4, q5, q6⟩ := set_readS hS3 (r2.mono e3) r3 ((r1.mono e2).mono e3) h4
    exact ⟨p, xs, k, j, q1, q2, q3, q4, hP3 m3 _ σ q5 q6 ((((hL.mono e1).mono e2).mono e3).mono q5)⟩
  · exact hP3.elim
/-- o[i] op= e -/
def oGetLS : O2 := fun x i st => match x, i with
  | .ref n, .int k => match lstAt st n with
    | some xs => match atI xs k with
      | some d => .ok d st
      | none => .bad
    | none => .bad
  | _, _ => .bad
def sAugSS (o : O2) (fo fi fe : EM D) : SM := fun τ st => bindE (fo τ st) τ fun x s1 => bindE (fi τ s1) τ fun i s2 => bindE (oGetLS x i s2) τ fun y s3 => bindE (fe τ s3) τ fun z s4 => bindE (o y z s4) τ fun v s5 => match oSetS x i v s5 with
  | some s6 => .nx τ s6
  | none => .bad
theorem get_list : PGet X (rIxL X.K) := by
  intro pins s σ H x y v u Q I rx ry h
  obtain ⟨p, xs, i, z, rfl, rfl, hq, he, q⟩ := h
  cases rx
  obtain ⟨t, rfl⟩ := ry
  obtain ⟨its, r, pl, hz⟩ := I.list hq
  obtain ⟨j, h1, h2, h3, h4, h5⟩ := atI_get he
  obtain ⟨w, ew, rw'⟩ := r.get h2
  have hl := r.length
  have hn := line63
  have fin : EP X pins σ Q w s := ⟨z, H, I, rw', q⟩
  by_cases h0 : 0 ≤ i
  · have hj : i.toNat = j := by
      rw [seqIndex_of h0 h5] at h1
      exact Option.some.inj h1
    exact wpAny_getItem_list pl.isList h0 (by omega) (by rw [hj]; simpa using ew) fin
  · have hj : (i + (its.toArray.size : Int)).toNat = j := by
      rw [seqIndex_neg (by omega) h4] at h1
      rw [List.size_toArray, ← hl]
      exact Option.some.inj h1
    exact wpAny_getItem_list_neg pl.isList (by omega) (by rw [List.size_toArray] <;> omega) (by omega) (by rw [hj]; simpa using ew) fin
theorem getL_readS {K : KW} {E : XK} {m : List Addr} {st : Store} {H : Hp} {x i : D} {vx vi : V} {Q : VK} (hS : SS K m st H) (rx : RD K m H x vx) (ri : RD K m H i vi) (h : Pe K E (RD K) m H (oGetLS x i st) Q) : rIxL K vx vi H Q := by
  unfold oGetLS at h
  split at h
  · split at h
    · split at h
      · rename_i xs hx _ d hd
        cases rx with
        | ref q =>
          cases ri
          obtain ⟨vs, h1, h2⟩ := hS.list hx q
          obtain ⟨v, h3, h4⟩ := atI_rds h2 hd
          exact ⟨_, vs, _, v, rfl, rfl, SqL.of h1, h3, h.now hS h4⟩
      · exact h.elim
    · exact h.elim
  · exact h.elim
theorem sx_augSS {o i : Expr} {p' : Pos} {fo fi : EM D} {op : Operator} {op2 : O2} (ho : Ex X W o fo) (hi : Ex X W i fi) (he : Ex X W e fe) (hop : OpM X W (inplaceOp op) op2)
    (ha : ∀ ov iv new, augStore i ov iv new = (do holding [new, ov, iv] (setItem ov iv new); release [new, ov, iv] []; pure .next) := by intros; rfl) : Sx X W (.AugAssign (.Subscript o i p') op e pos) (sAugSS op2 fo fi fe) := by
  refine ⟨fun m τ s σ H D hL hS hP pins sh I => ?_⟩
  have read : wE X o σ H fun vo H1 => wE X i σ H1 fun vi H2 => rIxL X.K vo vi H2 fun vy H3 => wE X e σ H3 fun vz H4 => wR2 X (inplaceOp op) σ vy vz H4 fun vv H5 => rSetL vo vi vv H5 fun H6 => D.nx σ H6 := by
    refine ho.run m τ s σ H _ hL hS (hP.bind hL fun dx s1 m1 H1 vx e1 hS1 r1 hP1 => ?_)
    have hL1 := hL.mono e1
    refine hi.run m1 τ s1 σ H1 _ hL1 hS1 (hP1.bind hL1 fun di s2 m2 H2 vi e2 hS2 r2 hP2 => ?_)
    have hL2 := hL1.mono e2
    refine getL_readS hS2 (r1.mono e2) r2 (hP2.bind hL2 fun dy s3 m3 H3 vy e3 hS3 r3 hP3 => ?_)
    have hL3 := hL2.mono e3
    refine he.run m3 τ s3 σ H3 _ hL3 hS3 (hP3.bind hL3 fun dz s4 m4 H4 vz e4 hS4 r4 hP4 => ?_)
    have hL4 := hL3.mono e4
    intro pins s v u I rv ru
    refine hop m4 s4 σ H4 dy dz vy vz _ hS4 (r3.mono e4) r4 (hP4.bind hL4 fun dv s5 m5 H5 vv e5 hS5 r5 hP5 => ?_) pins s v u I rv ru
    have hL5 := hL4.mono e5
    split at hP5
    · rename_i s6 h6
      have e25 := ((e3.trans e4).trans e5)
      obtain ⟨p, xs, k, j, q1, q2, q3, q4, q5, q6⟩ := set_readS hS5 ((r1.mono e2).mono e25) (r2.mono e25) r5 h6
      exact ⟨p, xs, k, j, q1, q2, q3, q4, hP5 m5 _ σ q5 q6 (hL5.mono q5)⟩
    · exact hP5.elim
  refine wpAny_AugAssign_SubscriptAny (thn (read pins sh I) fun ov s1 ⟨x1, H1, I1, r1, q1⟩ => ?_) ha
  refine thn (q1 pins s1 I1) fun iv s2 ⟨x2, H2, I2, r2, q2⟩ => ?_
  refine thn (get_list pins s2 σ H2 x1 x2 ov iv _ I2 r1 r2 q2) fun old s3 ⟨x3, H3, I3, r3, q3⟩ => ?_
  refine thn (q3 pins s3 I3) fun v s4 ⟨x4, H4, I4, r4, q4⟩ => ?_
  refine thn (q4 pins s4 old v I4 r3 r4) fun new s5 ⟨x5, H5, I5, r5, q5⟩ => ?_
  exact thn (set_list pins s5 σ H5 x1 x2 x5 ov iv new _ I5 r1 r2 r5 q5) fun _ s6 ⟨H6, I6, q6⟩ => ⟨σ, H6, I6, q6⟩
/-! ### loops -/
def forL (q : Sq) (set : D → Sl → Option Sl) (body : SM) : List D → SM
  | [], τ, st => if q.chk st then .nx τ st else .bad
  | d :: ds, τ, st => if q.chk st then match set d τ with
    | some τ1 => match body τ1 st with
      | .nx τ2 s2 => forL q set body ds τ2 s2
      | .ct τ2 s2 => forL q set body ds τ2 s2
      | .bk τ2 s2 => .nx τ2 s2
      | r => r
    | none => .bad
  else .bad
def sFor (fi : EM Sq) (set : D → Sl → Option Sl) (body : SM) : SM := fun τ st => bindE (fi τ st) τ fun q s1 => forL q set body q.items τ s1
theorem sx_for {tg iter : Expr} {ix : List Nat} {set : D → Sl → Option Sl} {fi : EM Sq} (hp : PassesOwn (model X.prog X.w) X.A X.env X.xe) (hc : X.calm = true) (hi : Ei X W tg iter fi) (hg : Eg X tg ix set) (hb : Sxs X W body f) (hs : ∀ x, foldedSetIterable iter X.env x = pure x := by intro _; rfl) : Sx X W (.For tg iter body [] pos) (sFor fi set f) := by
  refine ⟨fun m τ s σ H D hL hS hP pins sh I => (ps_for hp hc piW pgW pssW hs).run pins sh σ H D I ?_⟩
  refine hi.run m τ s σ H _ hL hS (hP.bind hL fun q s1 m1 H1 J e1 hS1 hJ hP1 => ?_)
  refine ⟨fun i k σ H => k = q.items.length - i ∧ i ≤ q.items.length ∧ ∃ (m : List Addr) (τ : Sl) (st : Store), Ext X.K m1 H1 m H ∧ SS X.kw m st H ∧ SL X.K m H τ σ ∧ Ps X.kw W m H (forL q set f (q.items.drop i) τ st) D, ⟨_, rfl, Nat.zero_le _, m1, τ, s1, .refl, hS1, hL.mono e1, by rw [List.drop_zero]; exact hP1⟩, ?_⟩
  rintro i k σ H ⟨rfl, hi, m, τ, st, e, hS, hL, hP⟩
  by_cases hlt : i < q.items.length
  · rw [List.drop_eq_getElem_cons hlt] at hP
    unfold forL at hP
    split at hP
    · rename_i hc
      obtain ⟨hgo, _⟩ := hJ m H st e hS hc
      obtain ⟨go, yl⟩ := hgo i q.items[i] (by simp [hlt])
      split at hP
      · rename_i τ1 hset
        refine .inr ⟨go, fun σ' H' => i + 1 ≤ q.items.length ∧ ∃ (m : List Addr) (τ : Sl) (st : Store), Ext X.K m1 H1 m H' ∧ SS X.kw m st H' ∧ SL X.K m H' τ σ' ∧ Ps X.kw W m H' (forL q set f (q.items.drop (i + 1)) τ st) D, fun σ' H' h => ⟨q.items.length - (i + 1), by omega, rfl, h⟩, fun x H' hy => ?_⟩
        obtain ⟨e2, s2, r2⟩ := yl x H' hy
        refine hg.run m τ τ1 st σ H' _ x _ (hL.mono e2) s2 r2 hset fun σ2 _ _ hL2 => ?_
        refine hb.run m τ1 st σ2 H' _ hL2 s2 ?_
        have hP := hP.up e2
        cases hq : f τ1 st with
        | nx τ2 s3 =>
          rw [hq] at hP
          exact fun m3 H3 σ3 e3 hS3 hL3 => ⟨by omega, m3, τ2, s3, e.trans (e2.trans e3), hS3, hL3, hP.up e3⟩
        | ct τ2 s3 =>
          rw [hq] at hP
          exact fun m3 H3 σ3 e3 hS3 hL3 => ⟨by omega, m3, τ2, s3, e.trans (e2.trans e3), hS3, hL3, hP.up e3⟩
        | bk τ2 s3 =>
          rw [hq] at hP
          exact hP
        | rt d s3 =>
          rw [hq] at hP
          exact hP
        | exc x τ2 s3 =>
          rw [hq] at hP
          exact hP
        | bad =>
          rw [hq] at hP
          exact hP
      · exact hP.elim
    · exact hP.elim
  · have e0 : i = q.items.length := by omega
    subst e0
    rw [List.drop_length] at hP
    unfold forL at hP
    split at hP
    · rename_i hc
      obtain ⟨_, stop⟩ := hJ m H st e hS hc
      exact .inl ⟨stop, hP m H σ .refl hS hL⟩
    · exact hP.elim
/-- more turns than any loop here takes -/
@[irreducible] def big : Nat := 2 ^ 20000
theorem le_big {k n : Nat} (hk : k ≤ 20000) (h : n ≤ 2 ^ k) : n ≤ big := by
  unfold big
  exact Nat.le_trans h (Nat.pow_le_pow_right (by decide) hk)
/-- while, at most n turns -/
def whileN (g : EM Bool) (body : SM) : Nat → SM
  | 0, _, _ => .bad
  | n + 1, τ, st => bindE (g τ st) τ fun b s1 => if b then match body τ s1 with
      | .nx τ2 s2 => whileN g body n τ2 s2
      | .ct τ2 s2 => whileN g body n τ2 s2
      | .bk τ2 s2 => .nx τ2 s2
      | r => r
    else .nx τ s1
theorem sx_while {c : Expr} (n : Nat) (hp : PassesOwn (model X.prog X.w) X.A X.env X.xe) (hc : Et X W c g) (hb : Sxs X W body f) : Sx X W (.While c body [] pos) (whileN g f n) := by
  refine ⟨fun m τ s σ H D hL hS hP pins sh I => (ps_while hp ptW pssW).run pins sh σ H D I ?_⟩
  refine ⟨fun k σ H => ∃ (m : List Addr) (τ : Sl) (st : Store), SS X.kw m st H ∧ SL X.K m H τ σ ∧ Ps X.kw W m H (whileN g f k τ st) D, ⟨n, m, τ, s, hS, hL, hP⟩, ?_⟩
  rintro k σ H ⟨m, τ, st, hS, hL, hP⟩
  cases k with
  | zero => exact hP.elim
  | succ k =>
    refine hc.run m τ st σ H _ hL hS (hP.bind hL fun b s1 m1 H1 b' e1 hS1 r1 hP1 => ?_)
    subst r1
    cases b with
    | false => exact iteF (hP1 m1 H1 σ .refl hS1 (hL.mono e1))
    | true =>
      refine iteT ⟨fun σ' H' => ∃ (m : List Addr) (τ : Sl) (st : Store), SS X.kw m st H' ∧ SL X.K m H' τ σ' ∧ Ps X.kw W m H' (whileN g f k τ st) D, fun σ' H' h => ⟨k, Nat.lt_succ_self k, h⟩, ?_⟩
      refine hb.run m1 τ s1 σ H1 _ (hL.mono e1) hS1 ?_
      have hP1 : Ps X.kw W m1 H1 (match f τ s1 with
        | .nx τ2 s2 => whileN g f k τ2 s2
        | .ct τ2 s2 => whileN g f k τ2 s2
        | .bk τ2 s2 => .nx τ2 s2
        | r => r) D := hP1
      cases hq : f τ s1 with
      | nx τ2 s3 =>
        rw [hq] at hP1
        exact fun m3 H3 σ3 e3 hS3 hL3 => ⟨m3, τ2, s3, hS3, hL3, hP1.up e3⟩
      | ct τ2 s3 =>
        rw [hq] at hP1
        exact fun m3 H3 σ3 e3 hS3 hL3 => ⟨m3, τ2, s3, hS3, hL3, hP1.up e3⟩
      | bk τ2 s3 =>
        rw [hq] at hP1
        exact hP1
      | rt d s3 =>
        rw [hq] at hP1
        exact hP1
      | exc x τ2 s3 =>
        rw [hq] at hP1
        exact hP1
      | bad =>
        rw [hq] at hP1
        exact hP1
end
end HM

/-! HM, part 7: raise, try; defs; the law's end. -/
namespace HM
open PySem PySem.Spec PyProof.Rows L2
section
variable {X : Cx} {W : WX} {e a b c : Expr} {es rest : List Expr} {pos p : Pos} {fa fb fc fe : EM D} {fs : EM (List D)} {g ga gb : EM Bool} {s1 : Stmt} {ss body suite : List Stmt} {f h k : SM}
def sRaise (x : Xc) : SM := fun τ st => .exc x τ st
theorem sx_raiseB {T N I : String} {x : Str} {m : Str} {j : Nat} {p2 pos' : Pos} (hc : X.calm = true) (tk : Takes X W) (F : ExcB T N I) (hg : Gl X x) (hm : X.mg x = none) (hv : bootBuiltins x = some (.type T)) (hn : x ≠ "__name__" := by decide) (hdb : (x == ("__debug__" : Str)) = false := by decide) :
    Sx X W (.Raise (some (.Call (.Name x p) [.Constant (.str m) j p2] [] pos)) none pos') (sRaise ⟨.ty T, []⟩) :=
  ⟨fun m τ s σ H D hL hS hP pins sh I => (ps_raiseB hc tk F hg hm hv hn hdb).run pins sh σ H D I (hP m H σ _ _ .refl hS hL ⟨rfl, rfl⟩)⟩
def sTry (f : SM) (mt : D → Option Bool) (h : SM) : SM := fun τ st => match f τ st with
  | .exc x τ1 s1 => match mt x.cls with
    | some true => h τ1 s1
    | some false => .exc x τ1 s1
    | none => .bad
  | r => r
theorem sx_try {x : Str} {c : Value} {b₀ : Stmt} {np pos' : Pos} {mt : D → Option Bool} (hs : X.stack = X.env :: X.outer) (hf : X.env.frame = some X.env.locals) (hc : Names X x c) (tk : Takes X W) (hmt : ∀ (m : List Addr) (H : Hp) (y : Xc) (cls : Value) (d : Option Addr) (b : Bool), XR X.K m H y cls d → mt y.cls = some b → PySem.W.exmOne X.K cls c = some b)
    (hb : ∀ (W : WX) (pn : List (Addr × Obj)) (xe : Value → Shared → Prop), Takes (X.tr pn xe) W → PassesOwn (model X.prog X.w) X.A X.env xe → Sxs (X.tr pn xe) W body f)
    (hsu : ∀ (a : Addr) (oe : Obj) (pn : List (Addr × Obj)), Sxs (X.suite a ((a, oe) :: pn)) (fun _ _ _ _ => False) (b₀ :: suite) h)
    (hno : ∀ τ st x τ1 s1, h τ st ≠ .exc x τ1 s1) : Sx X W (.Try body [.ExceptHandler (some (.Name x np)) none (b₀ :: suite) pos'] [] [] pos) (sTry f mt h) := by
  refine ⟨fun m τ s σ H D hL hS hP pins sh I => ?_⟩
  refine (ps_try_only (tb := fun W => fun D σ H => ∀ (pn : List (Addr × Obj)) (xe : Value → Shared → Prop), Takes (X.tr pn xe) W → PassesOwn (model X.prog X.w) X.A X.env xe → wSs (X.tr pn xe) body D σ H)
    (ts := fun a cls d => fun D σ H => ∀ (oe : Obj) (pn : List (Addr × Obj)), wSs (X.suite a ((a, oe) :: pn)) (b₀ :: suite) D σ H) hs hf hc tk (fun W pn xe t1 t2 => ⟨fun pins s σ H D I h => h pn xe t1 t2 pins s I⟩) (fun a oe cls d pn _ _ => ⟨fun pins s σ H D I h => h oe pn pins s I⟩)).run pins sh σ H D I ?_
  intro pn xe t1 t2
  refine (hb _ pn xe t1 t2).run m τ s σ H D hL hS ?_
  unfold sTry at hP
  cases hq : f τ s with
  | exc y τ1 s1 =>
    rw [hq] at hP
    intro m1 H1 σ1 cls d e1 hS1 hL1 hX
    have hP : Ps X.kw W m H (match mt y.cls with
      | some true => h τ1 s1
      | some false => .exc y τ1 s1
      | none => .bad) D := hP
    cases hm : mt y.cls with
    | none =>
      rw [hm] at hP
      exact hP.elim
    | some b =>
      rw [hm] at hP
      refine ⟨b, hmt m1 H1 y cls d b hX hm, fun hb' a na oe pn => ?_, fun hb' => ?_⟩
      · subst hb'
        refine (hsu a oe pn).run m1 τ1 s1 σ1 H1 D hL1 hS1 ?_
        have hP := hP.up e1
        cases hh : h τ1 s1 with
        | exc x τ2 s2 => exact absurd hh (hno _ _ _ _ _)
        | nx _ _ =>
          have hP : Ps X.kw W m1 H1 (h τ1 s1) D := hP
          rw [hh] at hP
          exact hP
        | bk _ _ =>
          have hP : Ps X.kw W m1 H1 (h τ1 s1) D := hP
          rw [hh] at hP
          exact hP
        | ct _ _ =>
          have hP : Ps X.kw W m1 H1 (h τ1 s1) D := hP
          rw [hh] at hP
          exact hP
        | rt _ _ =>
          have hP : Ps X.kw W m1 H1 (h τ1 s1) D := hP
          rw [hh] at hP
          exact hP
        | bad =>
          have hP : Ps X.kw W m1 H1 (h τ1 s1) D := hP
          rw [hh] at hP
          exact hP
      · subst hb'
        exact hP m1 H1 σ1 cls d e1 hS1 hL1 hX
  | nx _ _ =>
    rw [hq] at hP
    exact hP
  | bk _ _ =>
    rw [hq] at hP
    exact hP
  | ct _ _ =>
    rw [hq] at hP
    exact hP
  | rt _ _ =>
    rw [hq] at hP
    exact hP
  | bad =>
    rw [hq] at hP
    exact hP
end

/-- does a built-in class catch -/
def mtB (T : String) : D → Option Bool
  | .ty n => if n = T then some true else none
  | _ => none
theorem mtB_of {K : PySem.W.Frag} {T : String} (h : PySem.W.exmOne K (.type T) (.type T) = some true) (m : List Addr) (H : Hp) (y : Xc) (cls : Value) (d : Option Addr) (b : Bool) (hx : XR K m H y cls d) (hm : mtB T y.cls = some b) : PySem.W.exmOne K cls (.type T) = some b := by
  unfold mtB at hm
  split at hm
  · rename_i n e
    split at hm
    · rename_i hn
      subst hn
      cases hm
      unfold XR at hx
      rw [e] at hx
      obtain ⟨rfl, _⟩ := hx
      exact h
    · cases hm
  · cases hm
theorem mtB_ZeroDivisionError {K : PySem.W.Frag} : ∀ (m : List Addr) (H : Hp) (y : Xc) (cls : Value) (d : Option Addr) (b : Bool), XR K m H y cls d → mtB "ZeroDivisionError" y.cls = some b → PySem.W.exmOne K cls (.type "ZeroDivisionError") = some b := mtB_of (by kernel_rfl)
/-! ### defs -/
/-- the slots at a def's entry -/
def ent (n : Nat) (ds : List D) : Sl := ds.map some ++ List.replicate (n - ds.length) none
def runB (n : Nat) (fb : SM) : FM := fun ds st => match fb (ent n ds) st with
  | .nx _ s => .ok .non s
  | .rt d s => .ok d s
  | .exc x _ s => .exc x s
  | _ => .bad
theorem SL.start {K : PySem.W.Frag} {m : List Addr} {H : Hp} {N : List Str} {ds : List D} {vs : List V} (r : RDs K m H ds vs) : SL K m H (ent N.length ds) (L2.start N vs) where
  len := by simp [ent, L2.start, r.len]
  get := fun i d h => by
    unfold ent at h
    by_cases hi : i < ds.length
    · rw [List.getElem?_append_left (by simpa using hi), List.getElem?_map] at h
      cases hd : ds[i]? with
      | none =>
        rw [hd] at h
        cases h
      | some d' =>
        rw [hd] at h
        simp only [Option.map_some, Option.some.injEq] at h
        subst h
        obtain ⟨v, h1, h2⟩ := r.get hd
        refine ⟨v, ?_, h2⟩
        unfold L2.start
        rw [List.getElem?_append_left (by simpa [← r.len] using hi), List.getElem?_map, h1]
        rfl
    · rw [List.getElem?_append_right (by simpa using hi)] at h
      have z := List.mem_of_getElem? h
      have z2 := List.eq_of_mem_replicate z
      cases z2
section
variable {P : Program} {w : World} {K : PySem.W.Frag} {mg : Str → Option Value} {base : Heap} {x qual : Str} {params : Arguments} {body : List Stmt} {scope : Scope} {dvs : List V} {kws : List (Str × V)} {f : Addr} {fd : FuncData} {N ps : List Str} {k : Nat} {fb : SM}
/-- the context of a def's body -/
abbrev Cd (P : Program) (w : World) (K : PySem.W.Frag) (mg : Str → Option Value) (base : Heap) (N : List Str) (qual : Str) (scope : Scope) (f : Addr) (k : Nat) (B : Cx → WX → Prop) : Prop :=
  ∀ (cdv : Value) (A : Around) (outer : List Env) (s : Shared) (H : Hp) (E : XK), Room k (A.deeper (envOfC qual scope s.heap.objs.size f cdv)) → B (cxOf (L2.CX P w) P w K mg base N qual scope f cdv A outer s H E) (fun c d _ H => E c d H)
theorem fn_def (F : FunD K x qual params body scope dvs kws f fd) (S : FnScope N ps scope)
    (hb : ∀ (cdv : Value) (A : Around) (outer : List Env) (s : Shared) (H : Hp) (E : XK), Room k (A.deeper (envOfC qual scope s.heap.objs.size f cdv)) → Takes (cxOf (L2.CX P w) P w K mg base N qual scope f cdv A outer s H E) (fun c d _ H => E c d H) →
      PassesOwn (model P w) (A.deeper (envOfC qual scope s.heap.objs.size f cdv)) (envOfC qual scope s.heap.objs.size f cdv) (cxOf (L2.CX P w) P w K mg base N qual scope f cdv A outer s H E).xe →
      Sxs (cxOf (L2.CX P w) P w K mg base N qual scope f cdv A outer s H E) (fun c d _ H => E c d H) body fb) : FnM P w K mg base (k + 1) f fd ps (runB N.length fb) := by
  refine F.ok S (fun vs H Q E ⟨m, st, ds, hl, hS, r, _⟩ => by rw [← r.len, hl]) (fun cdv A outer s H vs Q E hr ⟨m, st, ds, hl, hS, r, hP⟩ => ?_)
  refine ⟨_, pssW, (hb cdv A outer s H E hr (takes_of rfl rfl rfl rfl) (passes_of rfl)).run m (ent N.length ds) st (L2.start N vs) H _ (SL.start r) hS ?_⟩
  unfold runB at hP
  cases hq : fb (ent N.length ds) st with
  | nx τ s1 =>
    rw [hq] at hP
    exact fun m1 H1 σ e1 hS1 hL1 => hP m1 H1 .non e1 hS1 .non
  | rt d s1 =>
    rw [hq] at hP
    exact hP
  | exc x τ s1 =>
    rw [hq] at hP
    exact fun m1 H1 σ c d e1 hS1 hL1 hX => hP m1 H1 c d e1 hS1 hX
  | bk τ s1 =>
    rw [hq] at hP
    exact hP.elim
  | ct τ s1 =>
    rw [hq] at hP
    exact hP.elim
  | bad =>
    rw [hq] at hP
    exact hP.elim
end

/-! ### what a def leaves behind may be forgotten -/
mutual
def D.lo (k : Nat) : D → Bool
  | .ref n => decide (n < k)
  | .tup xs => D.loAll k xs
  | .rol xs => D.loAll k xs
  | _ => true
def D.loAll (k : Nat) : List D → Bool
  | [] => true
  | d :: ds => D.lo k d && D.loAll k ds
end
def Cell.lo (k : Nat) : Cell → Bool
  | .lst xs => D.loAll k xs
  | .dct kvs => kvs.all fun p => p.1.lo k && p.2.lo k
section
variable {K : PySem.W.Frag} {m : List Addr} {H : Hp}
mutual
theorem RD.take {k : Nat} : ∀ {d : D} {v : V}, RD K m H d v → d.lo k = true → RD K (m.take k) H d v
  | _, _, .non, _ => .non
  | _, _, .bl b, _ => .bl b
  | _, _, .int i, _ => .int i
  | _, _, .str x, _ => .str x
  | _, _, .ty n, _ => .ty n
  | _, _, .adr a, _ => .adr a
  | _, _, .tup h r, q => .tup h (RDs.takeA r (by simpa only [D.lo] using q))
  | _, _, .rol h r, q => .rol h (RDs.takeA r (by simpa only [D.lo] using q))
  | _, _, .ref (n := n) h, q => .ref (by
    have z : n < k := of_decide_eq_true (by simpa only [D.lo] using q)
    rw [List.getElem?_take_of_lt z]
    exact h)
theorem RDs.takeA {k : Nat} : ∀ {ds : List D} {vs : List V}, RDs K m H ds vs → D.loAll k ds = true → RDs K (m.take k) H ds vs
  | _, _, .nil, _ => .nil
  | _, _, .cons h r, q => by
    simp only [D.loAll, Bool.and_eq_true] at q
    exact .cons (RD.take h q.1) (RDs.takeA r q.2)
end
mutual
theorem RD.is_lo {k : Nat} (hk : m.length ≤ k) : ∀ {d : D} {v : V}, RD K m H d v → d.lo k = true
  | _, _, .non => rfl
  | _, _, .bl b => rfl
  | _, _, .int i => rfl
  | _, _, .str x => rfl
  | _, _, .ty n => rfl
  | _, _, .adr a => rfl
  | _, _, .tup h r => by simpa only [D.lo] using RDs.is_lo hk r
  | _, _, .rol h r => by simpa only [D.lo] using RDs.is_lo hk r
  | _, _, .ref h => by
    simp only [D.lo, decide_eq_true_eq]
    exact Nat.lt_of_lt_of_le (List.getElem?_eq_some_iff.mp h).1 hk
theorem RDs.is_lo {k : Nat} (hk : m.length ≤ k) : ∀ {ds : List D} {vs : List V}, RDs K m H ds vs → D.loAll k ds = true
  | _, _, .nil => rfl
  | _, _, .cons h r => by simp only [D.loAll, RD.is_lo hk h, RDs.is_lo hk r, Bool.and_self]
end
theorem RC.is_lo {K : KW} {k : Nat} {a : Addr} {c : Cell} (hk : m.length ≤ k) (r : RC K m H a c) : c.lo k = true := by
  cases c with
  | lst ds =>
    obtain ⟨vs, _, r⟩ := r
    exact r.is_lo hk
  | dct kvs =>
    have f1 : ∀ {kvs us}, DRel1 K m H kvs us → (kvs.all fun p => p.1.lo k && p.2.lo k) = true := fun {kvs us} r => by
      induction r with
      | nil => rfl
      | @cons p q ps qs h t ih =>
        obtain ⟨h1, h2⟩ := h
        have z : p.1.lo k = true := by rw [h1]; cases q.1 <;> rfl
        rw [List.all_cons, ih, z, h2.is_lo hk]
        rfl
    have f2 : ∀ {kvs us}, DRel2 K m H kvs us → (kvs.all fun p => p.1.lo k && p.2.lo k) = true := fun {kvs us} r => by
      induction r with
      | nil => rfl
      | @cons p q ps qs h t ih =>
        rw [List.all_cons, ih, h.2.2.1.is_lo hk, h.2.2.2.is_lo hk]
        rfl
    rcases r with ⟨us, _, r⟩ | ⟨xs, _, r⟩
    · exact f1 r
    · exact f2 r.2
theorem RC.take {K : KW} {k : Nat} {a : Addr} {c : Cell} (r : RC K m H a c) (h : c.lo k = true) : RC K (m.take k) H a c := by
  cases c with
  | lst ds =>
    obtain ⟨vs, q, r⟩ := r
    exact ⟨vs, q, r.takeA h⟩
  | dct kvs =>
    have f1 : ∀ {kvs us}, DRel1 K m H kvs us → (kvs.all fun p => p.1.lo k && p.2.lo k) = true → DRel1 K (m.take k) H kvs us := fun {kvs us} r => by
      induction r with
      | nil => exact fun _ => .nil
      | @cons p q ps qs h t ih =>
        intro z
        rw [List.all_cons, Bool.and_eq_true, Bool.and_eq_true] at z
        exact .cons ⟨h.1, h.2.take z.1.2⟩ (ih z.2)
    have f2 : ∀ {kvs us}, DRel2 K m H kvs us → (kvs.all fun p => p.1.lo k && p.2.lo k) = true → DRel2 K (m.take k) H kvs us := fun {kvs us} r => by
      induction r with
      | nil => exact fun _ => .nil
      | @cons p q ps qs h t ih =>
        intro z
        rw [List.all_cons, Bool.and_eq_true, Bool.and_eq_true] at z
        exact .cons ⟨h.1, h.2.1, h.2.2.1.take z.1.1, h.2.2.2.take z.1.2⟩ (ih z.2)
    rcases r with ⟨us, q, r⟩ | ⟨xs, q, r⟩
    · exact .inl ⟨us, q, f1 r h⟩
    · exact .inr ⟨xs, q, r.1, f2 r.2 h⟩
/-- r' says no more than r, or the same with a shorter store -/
inductive Le (st : Store) : ER D → ER D → Prop
  | bad (r : ER D) : Le st r .bad
  | refl (r : ER D) : Le st r r
  | gc {v : D} {s1 : Store} (k : Nat) (hk : st.length ≤ k) (hv : v.lo k = true) (hc : ∀ (i : Nat) (c : Cell), i < k → s1[i]? = some c → st[i]? = some c ∨ c.lo k = true) : Le st (.ok v s1) (.ok v (s1.take k))
theorem Le.pe {K : KW} {E : XK} {st : Store} {r r' : ER D} {Q : VK} (l : Le st r r') (s : SS K m st H) (h : Pe K E (RD K) m H r' Q) : Pe K E (RD K) m H r Q := by
  cases l with
  | bad r => exact h.elim
  | refl r => exact h
  | @gc v s1 k hk hv hc =>
    intro m1 H1 b e1 hS1 r1
    refine h (m1.take k) H1 b ⟨⟨fun n a q => ?_, e1.tup, e1.plt, e1.fzl⟩, e1.frm, fun a q n => e1.new a (List.mem_of_mem_take q) n⟩ ⟨?_, ?_, fun n c a q1 q2 => ?_⟩ (r1.take hv)
    · have hl : n < m.length := (List.getElem?_eq_some_iff.mp q).1
      rw [s.len] at hl
      rw [List.getElem?_take_of_lt (Nat.lt_of_lt_of_le hl hk)]
      exact e1.pre n a q
    · rw [List.length_take, List.length_take, hS1.len]
    · exact hS1.nd.sublist (List.take_sublist _ _)
    · have hn : n < k := by
        have z := (List.getElem?_eq_some_iff.mp q1).1
        rw [List.length_take] at z
        omega
      rw [List.getElem?_take_of_lt hn] at q1 q2
      refine (hS1.cel n c a q1 q2).take ?_
      rcases hc n c hn q1 with z | z
      · obtain ⟨a0, _, r0⟩ := s.at z
        exact r0.is_lo (by rw [s.len]; exact hk)
      · exact z
theorem FnM.le {P : Program} {w : World} {mg : Str → Option Value} {base : Heap} {k : Nat} {f : Addr} {fd : FuncData} {ps : List Str} {mf sf : FM} (F : FnM P w K mg base k f fd ps mf) (h : ∀ ds st, Le st (mf ds st) (sf ds st)) : FnM P w K mg base k f fd ps sf :=
  FnOk.imp F fun vs H Q E ⟨m, st, ds, hl, hS, r, hP⟩ => ⟨m, st, ds, hl, hS, r, (h ds st).pe hS hP⟩
/-- a value without the store, the store but for what was laid on it -/
theorem Le.app {st more : Store} {v : D} (hv : v.lo st.length = true) : Le st (.ok v (st ++ more)) (.ok v st) := by
  have z := Le.gc (st := st) (v := v) (s1 := st ++ more) st.length (Nat.le_refl _) hv fun i c hi h => by
    rw [List.getElem?_append_left hi] at h
    exact .inl h
  rw [List.take_left] at z
  exact z
end

/-! ### the law -/
theorem law_sp {K : KW} {mf : FM} {n : Nat} (h : ∀ ns : List Int, ns.length ≤ n → ∃ st, mf [.rol (ns.map D.int)] [] = .ok (.bl true) st) (H : Hp) (a : Addr) (ns : List Int) (hl : ns.length ≤ n) (ho : Only H) (hS : SqL K H a (ns.map V.int)) :
    spM K 1 mf [V.ref a] H (fun v _ => v = .bl true) (fun _ _ _ => False) := by
  obtain ⟨st, e⟩ := h ns hl
  refine ⟨[], [], [.rol (ns.map D.int)], rfl, ⟨rfl, .nil, fun n c a q => by simp at q⟩, .cons (.rol (FzL.of hS fun ys z => ?_) (RDs.ints ns)) .nil, ?_⟩
  · rcases ho a with q | ⟨o, xs, q⟩
    · rw [q] at z
      cases z
    · rw [q] at z
      cases z
  · rw [e]
    intro m' H' b _ _ r
    cases r
    rfl
end HM

/-! HM, part 8: defs as they are called; what a text is put together of. -/
namespace HM
open PySem PySem.Spec PyProof.Rows L2
section
variable {X : Cx} {W : WX} {e a b c : Expr} {es rest : List Expr} {pos p : Pos} {fa fb fc fe : EM D} {fs : EM (List D)} {g ga gb : EM Bool} {s1 : Stmt} {ss body suite : List Stmt} {f h k : SM}
/-- a name = [..] on one line -/
theorem sx_setLc {i : Nat} {y : Str} {py spos : Pos} {tg elt iter : Expr} {ifs : List Expr} {scope : Scope} {own : List (Str × Nat)} {ix : List Nat} {set : D → Sl → Option Sl} {ft : EM Bool} {fe : EM D} {fi : EM Sq} (hc : X.calm = true) (hN : X.N.Nodup) (hi : Ei X W tg iter fi) (ok : BlkOk X.N X.env.scope scope own)
    (hg : BEg X scope tg ix set) (ht : BEt X scope ifs ft) (he : BEx X scope elt fe) (hy : X.N[i]? = some y := by rfl) (hyl : X.env.scope.names.lookup y = some .local := by rfl)
    (hsw : swapsWith (.ListComp elt [⟨tg, iter, ifs, 0⟩] scope pos) (some (.Name y py)) spos.line X.env = pure true := by exact sw_true rfl rfl rfl (by decide +kernel)) (hown : ∀ i ∈ ix, i ∈ own.map (·.2) := by decide) (hs : ∀ x, foldedSetIterable iter X.env x = pure x := by intro _; rfl) :
    Sx X W (.Assign [.Name y py] (.ListComp elt [⟨tg, iter, ifs, 0⟩] scope pos) spos) (sSet i (eEl (lComp (own.map (·.2)) fi set ft fe))) := by
  refine ⟨fun m τ st σ H D hL hS hP pins s I => ?_⟩
  refine (ps_setLc (g := gAll X scope tg) (tt := tAll X scope ifs) (te := eAll X scope elt) hc hN hy hyl hsw piW ok ?_ ?_ ?_ hs).run pins s σ H D I (comp_post hi hown hg ht he hL hS ?_)
  · exact fun s H C cl fp => ⟨fun pins s' σ H' v u Q I r h => h s H C cl fp pins s' u I r⟩
  · exact fun s H C cl fp => ⟨fun pins s' σ H' Q I h => h s H C cl fp pins s' I⟩
  · exact fun s H C cl fp => ⟨fun pins s' σ H' Q I h => h s H C cl fp pins s' I⟩
  · unfold sSet eEl at hP
    cases hq : lComp (own.map (·.2)) fi set ft fe τ st with
    | ok ds s1 =>
      rw [hq] at hP
      intro m1 H1 v e1 hS1 ⟨a, vs, e, ha, na, hn, rs⟩
      subst e
      have e2 := e1.own hn
      have r2 : RD X.K (m1 ++ [a]) H1 (.ref s1.length) (.ref a) := .ref (by
        rw [← hS1.len]
        simp)
      exact hP (m1 ++ [a]) H1 _ e2 (hS1.grow na ⟨vs, ha, rs.kp Kp.grow⟩) ((hL.mono e2).set i r2)
    | exc x st' =>
      rw [hq] at hP
      exact fun m' H' c d e s q => hP m' H' σ c d e s (hL.mono e) q
    | bad =>
      rw [hq] at hP
      exact hP.elim

/-! ### defs by name -/
structure Cal (P : Program) (w : World) (K : PySem.W.Frag) (mg : Str → Option Value) (base : Heap) (x : Str) (k : Nat) (ps : List Str) (mf : FM) : Prop where
  ex : ∃ (f : Addr) (fd : FuncData), FnM P w K mg base k f fd ps mf ∧ mg x = some (.ref f) ∧ PySem.W.keepIn K (.ref f) = true ∧ Binds K fd ps [] ∧ ∃ oc od osl, K.lookup f = some ⟨oc, od, .func fd, osl⟩
theorem Cal.le {P : Program} {w : World} {K : PySem.W.Frag} {mg : Str → Option Value} {base : Heap} {x : Str} {k : Nat} {ps : List Str} {mf sf : FM} (c : Cal P w K mg base x k ps mf) (h : ∀ ds st, Le st (mf ds st) (sf ds st)) : Cal P w K mg base x k ps sf := by
  obtain ⟨f, fd, F, r⟩ := c.ex
  exact ⟨f, fd, F.le h, r⟩
theorem Cal.mono {P : Program} {w : World} {K : PySem.W.Frag} {mg : Str → Option Value} {base : Heap} {x : Str} {j k : Nat} {ps : List Str} {mf : FM} (c : Cal P w K mg base x j ps mf) (h : j ≤ k) : Cal P w K mg base x k ps mf := by
  obtain ⟨f, fd, F, r⟩ := c.ex
  exact ⟨f, fd, FnOk.mono F h, r⟩
theorem ex_c1 {P : Program} {w : World} {K : PySem.W.Frag} {mg : Str → Option Value} {base : Heap} {A : Around} {j k : Nat} {ps : List Str} {mf : FM} {x : Str} (c : Cal P w K mg base x j ps mf) (tk : Takes X W) (hr : Room k A) (hj : j ≤ k) (ha : Ea X W (e :: es) fs)
    (h1 : X.prog = P := by rfl) (h2 : X.w = w := by rfl) (h3 : X.K = K := by rfl) (h4 : X.mg = mg := by rfl) (h5 : X.base = base := by rfl) (h6 : X.A = A := by rfl) (hg : Gl X x := by rfl) (hdb : (x == ("__debug__" : Str)) = false := by decide) (he : starEach (e :: es) X.env = (false, eval e X.env) :: starEach es X.env := by rfl)
    (hpl : (backTo pos (starEach es X.env)).any (·.1) = false := by rfl) : Ex X W (.Call (.Name x p) (e :: es) [] pos) (eCall ps.length mf fs) := by
  subst h1 h2 h3 h4 h5 h6
  obtain ⟨f, fd, F, hm, hk, hb, _⟩ := c.ex
  exact ex_call tk F (hr.mono hj) hg hm hk hb ha hdb he hpl
theorem ex_c0 {P : Program} {w : World} {K : PySem.W.Frag} {mg : Str → Option Value} {base : Heap} {A : Around} {j k : Nat} {ps : List Str} {mf : FM} {x : Str} (c : Cal P w K mg base x j ps mf) (tk : Takes X W) (hr : Room k A) (hj : j ≤ k)
    (h1 : X.prog = P := by rfl) (h2 : X.w = w := by rfl) (h3 : X.K = K := by rfl) (h4 : X.mg = mg := by rfl) (h5 : X.base = base := by rfl) (h6 : X.A = A := by rfl) (hg : Gl X x := by rfl) (hdb : (x == ("__debug__" : Str)) = false := by decide) : Ex X W (.Call (.Name x p) [] [] pos) (eCall ps.length mf aNil) := by
  subst h1 h2 h3 h4 h5 h6
  obtain ⟨f, fd, F, hm, hk, hb, _⟩ := c.ex
  exact ex_call0 tk F (hr.mono hj) hg hm hk hb hdb
/-- in a comprehension nothing is let out -/
theorem tk0 : Takes X (fun _ _ _ _ => False) := takes0
end
/-- a def of the text -/
abbrev FnP (K : PySem.W.Frag) (x : Str) (st : Stmt) (f : Addr) (fd : FuncData) : Prop := FunD K x x (defArgs st) (defBody st) (defScope st) [] [] f fd
section
variable {P : Program} {w : World} {K : PySem.W.Frag} {mg : Str → Option Value} {base : Heap}
theorem cal_mk {x : Str} {st : Stmt} {f : Addr} {fd : FuncData} {N ps : List Str} {k : Nat} {fb : SM} (F : FnP K x st f fd) (S : FnScope N ps (defScope st)) (gx : mg x = some (.ref f))
    (bn : ∀ (kV doc pm : Value) (an : Option Addr) (cdv ct : Value) (us : List Value), us.length = ps.length → bindArgs (PySem.W.fnOf x x (defArgs st) (defBody st) (defScope st) .none kV doc pm an cdv ct) ⟨us, []⟩ = pure (ps.zip us))
    (hb : ∀ (cdv : Value) (A : Around) (outer : List Env) (s : Shared) (H : Hp) (E : XK), Room k (A.deeper (envOfC x (defScope st) s.heap.objs.size f cdv)) → Takes (cxOf (L2.CX P w) P w K mg base N x (defScope st) f cdv A outer s H E) (fun c d _ H => E c d H) →
      PassesOwn (model P w) (A.deeper (envOfC x (defScope st) s.heap.objs.size f cdv)) (envOfC x (defScope st) s.heap.objs.size f cdv) (cxOf (L2.CX P w) P w K mg base N x (defScope st) f cdv A outer s H E).xe →
      Sxs (cxOf (L2.CX P w) P w K mg base N x (defScope st) f cdv A outer s H E) (fun c d _ H => E c d H) (defBody st) fb) : Cal P w K mg base x (k + 1) ps (runB N.length fb) :=
  ⟨f, fd, fn_def F S hb, gx, F.kp, F.bindsN bn, let ⟨oc, od, _, _, _, _, _, _, _, osl, e, lk, _⟩ := F.ex; ⟨oc, od, osl, e ▸ lk⟩⟩
end
/-! ### what the built-in names hold -/
theorem bt_len : bootBuiltins "len" = some (.builtin "len") := by decide +kernel
theorem bt_abs : bootBuiltins "abs" = some (.builtin "abs") := by decide +kernel
theorem bt_isinstance : bootBuiltins "isinstance" = some (.builtin "isinstance") := by decide +kernel
theorem bt_min : bootBuiltins "min" = some (.builtin "min") := by decide +kernel
theorem bt_max : bootBuiltins "max" = some (.builtin "max") := by decide +kernel
theorem bt_sum : bootBuiltins "sum" = some (.builtin "sum") := by decide +kernel
theorem bt_all : bootBuiltins "all" = some (.builtin "all") := by decide +kernel
theorem bt_any : bootBuiltins "any" = some (.builtin "any") := by decide +kernel
theorem bt_sorted : bootBuiltins "sorted" = some (.builtin "sorted") := by decide +kernel
theorem bt_int : bootBuiltins "int" = some (.type "int") := by decide +kernel
theorem bt_bool : bootBuiltins "bool" = some (.type "bool") := by decide +kernel
theorem bt_str : bootBuiltins "str" = some (.type "str") := by decide +kernel
theorem bt_tuple : bootBuiltins "tuple" = some (.type "tuple") := by decide +kernel
theorem bt_list : bootBuiltins "list" = some (.type "list") := by decide +kernel
end HM

/-! HM, part 9: what the top leaves. -/
namespace HM
open PySem PySem.Spec PyProof.Rows L2
mutual
def conB (K : PySem.W.Frag) : D → Value → Bool
  | .non, .none => true
  | .bl a, .bool b => a == b
  | .int i, .int j _ => decide (i = j)
  | .str x, .str y _ => decide (y.cps.toList = x)
  | .tup ds, .ref a => match K.lookup a with
    | some ⟨.type c, od, .seq its _, _⟩ => decide (c = "tuple") && (od.isNone && (decide (its.size ≤ sizeLine) && conAll K ds its.toList))
    | _ => false
  | _, _ => false
def conAll (K : PySem.W.Frag) : List D → List Value → Bool
  | [], [] => true
  | d :: ds, u :: us => conB K d u && conAll K ds us
  | _, _ => false
end
mutual
theorem conB_ok {K : PySem.W.Frag} : ∀ (d : D) (u : Value), conB K d u = true → ∃ v, RelV v u ∧ ∀ m H, RD K m H d v
  | .non, u, h => by
    cases u <;> simp [conB] at h
    exact ⟨.non, rfl, fun _ _ => .non⟩
  | .bl a, u, h => by
    cases u <;> simp [conB] at h
    subst h
    exact ⟨.bl _, rfl, fun _ _ => .bl _⟩
  | .int i, u, h => by
    cases u <;> simp [conB] at h
    subst h
    exact ⟨.int _, ⟨_, rfl⟩, fun _ _ => .int _⟩
  | .str x, u, h => by
    cases u <;> simp [conB] at h
    rename_i y t
    subst h
    refine ⟨.str y, ⟨_, rfl⟩, fun _ _ => ?_⟩
    have e : (⟨y.cps.toList.toArray⟩ : PySem.Str) = y := by simp
    have z := RD.str (K := K) (m := ‹_›) (H := ‹_›) y.cps.toList
    rw [e] at z
    exact z
  | .tup ds, u, h => by
    cases u with
    | ref a =>
      have h1 : (match K.lookup a with
        | some ⟨.type c, od, .seq its _, _⟩ => decide (c = "tuple") && (od.isNone && (decide (its.size ≤ sizeLine) && conAll K ds its.toList))
        | _ => false) = true := by
        simpa only [conB] using h
      split at h1
      · rename_i c od its n osl e
        simp only [Bool.and_eq_true, decide_eq_true_eq] at h1
        obtain ⟨h2, h5, h3, h4⟩ := h1
        subst h2
        have hod : od = none := by simpa using h5
        obtain ⟨vs, r, q⟩ := conAll_ok ds its.toList h4
        exact ⟨.ref a, rfl, fun m H => .tup (.inr ⟨_, its, n, e, rfl, hod, rfl, h3, r⟩) (q m H)⟩
      · cases h1
    | _ => simp [conB] at h
  | .ref _, u, h => by simp [conB] at h
  | .ty _, u, h => by simp [conB] at h
  | .adr _, u, h => by simp [conB] at h
  | .rol _, u, h => by simp [conB] at h
theorem conAll_ok {K : PySem.W.Frag} : ∀ (ds : List D) (us : List Value), conAll K ds us = true → ∃ vs, Vals vs us ∧ ∀ m H, RDs K m H ds vs
  | [], [], _ => ⟨[], .nil, fun _ _ => .nil⟩
  | [], _ :: _, h => by simp [conAll] at h
  | _ :: _, [], h => by simp [conAll] at h
  | d :: ds, u :: us, h => by
    simp only [conAll, Bool.and_eq_true] at h
    obtain ⟨v, r1, q1⟩ := conB_ok d u h.1
    obtain ⟨vs, r2, q2⟩ := conAll_ok ds us h.2
    exact ⟨v :: vs, .cons r1 r2, fun m H => .cons (q1 m H) (q2 m H)⟩
end
/-- a module's name holds a constant -/
structure Con (K : PySem.W.Frag) (mg : Str → Option Value) (x : Str) (d : D) : Prop where
  ex : ∃ u v, mg x = some u ∧ RelV v u ∧ ∀ m H, RD K m H d v
theorem ex_con {X : Cx} {W : WX} {x : Str} {d : D} {pos : Pos} (c : Con X.K X.mg x d) (hg : Gl X x := by rfl) (hd : (x == ("__debug__" : Str)) = false := by decide) : Ex X W (.Name x pos) (eC d) := by
  obtain ⟨u, v, hm, r, rd⟩ := c.ex
  exact ex_glob hg hm r rd hd
/-- further facts of the top -/
inductive Fx where
  /-- a built-in function by a name of the module's -/
  | blt (x : Str) (id : String)
  /-- a constant -/
  | con (x : Str) (d : D)
def Fx.ok (K : PySem.W.Frag) : Fx → Bool
  | .blt x id => (match PySem.W.nsIn K mainGlobals x with
    | some (some (.builtin j)) => decide (j = id)
    | _ => false)
  | .con x d => (match PySem.W.nsIn K mainGlobals x with
    | some (some u) => conB K d u
    | _ => false)
section
variable {K : PySem.W.Frag} {h : Heap} {mg : Str → Option Value}
theorem blt_ok (X : K.In h) (G : h.Ns mainGlobals mg) {x : Str} {id : String} (c : (Fx.blt x id).ok K = true) : mg x = some (.builtin id) := by
  have c : (match PySem.W.nsIn K mainGlobals x with
    | some (some (.builtin j)) => decide (j = id)
    | _ => false) = true := c
  split at c
  · rename_i j e
    rw [PySem.W.mg_of X G e, of_decide_eq_true c]
  · cases c
theorem con_ok (X : K.In h) (G : h.Ns mainGlobals mg) {x : Str} {d : D} (c : (Fx.con x d).ok K = true) : Con K mg x d := by
  have c : (match PySem.W.nsIn K mainGlobals x with
    | some (some u) => conB K d u
    | _ => false) = true := c
  split at c
  · rename_i u e
    obtain ⟨v, r, q⟩ := conB_ok d u c
    exact ⟨u, v, PySem.W.mg_of X G e, r, q⟩
  · cases c
end
/-! ### the Hook -/
def obsM (fa : List He.Fa) (fx : List Fx) (fn : List He.DefD) (K : PySem.W.Frag) : He.AlD := (((fa.all fun f => f.ok K) && fx.all fun f => f.ok K) && fn.all fun d => d.ok K, fn.map fun d => He.fnW K d.at_)
def SaysM (fa : List He.Fa) (fx : List Fx) (fn : List He.DefD) (K : PySem.W.Frag) : Prop := obsM fa fx fn K = He.valD fn
def obsMG (n : Nat) (fa : List He.Fa) (fx : List Fx) (fn : List He.DefD) (g : Addr → Option Obj) : He.AlD := obsM fa fx fn (He.frG g (He.asD g n))
def hookM (n : Nat) (fa : List He.Fa) (fx : List Fx) (fn : List He.DefD) : PySem.W.Hook where
  α := He.AlD
  obs := fun s => obsMG n fa fx fn s.heap.get?
  val := fun _ => He.valD fn
  says := fun _ h => ∃ K : PySem.W.Frag, K.In h ∧ SaysM fa fx fn K
  of := fun _ _ e => ⟨_, He.frG_in, e⟩
  keeps := fun _ _ _ ⟨K, hK, c⟩ k => ⟨K, PySem.W.Frag.In.keeps hK k, c⟩
theorem obsMG_eq {n : Nat} {fa : List He.Fa} {fx : List Fx} {fn : List He.DefD} {g : Addr → Option Obj} {s : Shared} (h : ∀ a, g a = s.heap.get? a) : obsMG n fa fx fn g = (hookM n fa fx fn).obs s := by
  have e : g = s.heap.get? := funext h
  rw [e] <;> rfl
section
variable {fa : List He.Fa} {fx : List Fx} {fn : List He.DefD} {K : PySem.W.Frag}
theorem SaysM.fact (c : SaysM fa fx fn K) (i : Nat) {f : He.Fa} (h : fa[i]? = some f := by rfl) : f.ok K = true := by
  have c1 := (He.ba (He.ba (show (((fa.all fun f => f.ok K) && fx.all fun f => f.ok K) && fn.all fun d => d.ok K) = true from congrArg (fun z : He.AlD => z.1) c)).1).1
  exact List.all_eq_true.mp c1 f (List.mem_of_getElem? h)
theorem SaysM.more (c : SaysM fa fx fn K) (i : Nat) {f : Fx} (h : fx[i]? = some f := by rfl) : f.ok K = true := by
  have c1 := (He.ba (He.ba (show (((fa.all fun f => f.ok K) && fx.all fun f => f.ok K) && fn.all fun d => d.ok K) = true from congrArg (fun z : He.AlD => z.1) c)).1).2
  exact List.all_eq_true.mp c1 f (List.mem_of_getElem? h)
theorem SaysM.def_ (c : SaysM fa fx fn K) (i : Nat) {d : He.DefD} (h : fn[i]? = some d := by rfl) : ∃ fd, FunD K d.name d.qual d.params d.body d.scope (d.dvs K) (d.kws K) (He.fAd K d.at_) fd := by
  have c2 := (He.ba (show (((fa.all fun f => f.ok K) && fx.all fun f => f.ok K) && fn.all fun d => d.ok K) = true from congrArg (fun z : He.AlD => z.1) c)).2
  have e : fn.map (fun d => He.fnW K d.at_) = fn.map He.DefD.val := congrArg (fun z : He.AlD => z.2) c
  have e2 : (fn.map fun d => He.fnW K d.at_)[i]? = (fn.map He.DefD.val)[i]? := by rw [e]
  rw [List.getElem?_map, List.getElem?_map, h] at e2
  exact He.DefD.funD (Option.some.inj e2) (List.all_eq_true.mp c2 d (List.mem_of_getElem? h))
end
/-! ### the law's end -/
/-- where nothing may be let out -/
theorem FnM.shut {P : Program} {w : World} {K : PySem.W.Frag} {mg : Str → Option Value} {base : Heap} {k : Nat} {f : Addr} {fd : FuncData} {ps : List Str} {mf : FM} (F : FnM P w K mg base k f fd ps mf) :
    FnOk P w K mg base CX0 k f fd ps (fun vs H Q _ => spM ⟨K, w⟩ ps.length mf vs H Q fun _ _ _ => False) where
  len := fun vs H Q E h => F.len vs H Q _ h
  run := fun A outer s H args us vs Q E hr e0 hb hv h => by
    refine codeAny_mono (F.run A outer s H args us vs Q _ hr e0 hb hv h) fun r s' hq => ?_
    cases r with
    | error e =>
      obtain ⟨_, _, _, _, _, _, _, _, _, _, _, _, z⟩ := (hq : L2.CX P w outer H s (fun _ _ _ => False) e s')
      exact z.elim
    | ok fl => cases fl <;> exact hq
end HM

/-! HM, part 10: methods of lists and texts, in, slices, sums. -/
namespace HM
open PySem PySem.Spec PyProof.Rows L2
section
variable {X : Cx} {W : WX} {e o a b c : Expr} {es : List Expr} {pos p : Pos} {f fo fa fb : EM D} {fs : EM (List D)}
theorem _root_.L2.Room.units65 {k : Nat} {A : Around} (r : Room k A) : A.units + 65 < cLine := by have := r.un; omega
theorem below_line {n : Nat} (h : n < 16777216) : n < sizeLine := by
  rw [PySem.sizeLine_eq]
  exact h
/-! ### methods -/
abbrev MM := D → FM
def MethM (X : Cx) (id : String) (g : MM) : Prop :=
  ∃ r, MtR X id r ∧ ∀ (m : List Addr) (st : Store) (H : Hp) (d : D) (v : V) (ds : List D) (vs : List V) (E : XK) (Q : VK), SS X.kw m st H → RD X.K m H d v → RDs X.K m H ds vs → Pe X.kw E (RD X.K) m H (g d ds st) Q → r v vs H Q
def okT (T : String) (st : Store) (d : D) : Bool := match d with
  | .str _ => decide (T = "str")
  | .tup _ => decide (T = "tuple")
  | .rol _ => decide (T = "list")
  | .ref n => decide (T = "list") && (lstAt st n).isSome
  | _ => false
theorem okT_ty {K : KW} {m : List Addr} {st : Store} {H : Hp} {d : D} {v : V} {T : String} (s : SS K m st H) (h : okT T st d = true) (r : RD K m H d v) : tyP K T v H := by
  cases r with
  | str x =>
    have q : T = "str" := of_decide_eq_true h
    exact .inl q
  | tup q rs =>
    have q0 : T = "tuple" := of_decide_eq_true h
    rcases q with ⟨o, hd, q⟩ | ⟨o, its, n, q1, q2, q3, _⟩
    · exact .inr ⟨q0, _, o, _, rfl, q, hd⟩
    · exact .inl (.inr (.inl ⟨q0, o, q1, q2, q3⟩))
  | rol q rs => exact .inl (.inl ⟨of_decide_eq_true h, _, q.sq⟩)
  | ref q =>
    have h : (decide (T = "list") && (lstAt st _).isSome) = true := h
    rw [Bool.and_eq_true] at h
    obtain ⟨xs, e⟩ := Option.isSome_iff_exists.mp h.2
    obtain ⟨vs, h1, h2⟩ := s.list e q
    exact .inl (.inl ⟨of_decide_eq_true h.1, _, SqL.of h1⟩)
  | _ => cases h
def eM (T : String) (g : MM) (fo : EM D) (fs : EM (List D)) : EM D := fun τ st => (fo τ st).bind fun d s1 => if okT T s1 d then (fs τ s1).bind fun ds s2 => g d ds s2 else .bad
theorem ex_m {name : Str} {apos cpos : Pos} {T id : String} {g : MM} (pa : PlainAttrs T) (slot : Slot T name id) (hty : typeOf (.builtin id) = pure (.type "method_descriptor")) (hm : MethM X id g) (ho : Ex X W o fo) (ha : Ea X W (e :: es) fs)
    (hbase : attributeBase o name X.env (eval o X.env) = eval o X.env := by rfl)
    (hfew : ((backTo cpos (starEach (e :: es) X.env)).all (fun x => !x.1) && (backToKw cpos (keywordEach [] X.env)).all (fun x => x.1.isSome)
      && decide ((e :: es).length + ([] : List Keyword).length + (if ([] : List Keyword).isEmpty then 0 else 1) < 30)) = true := by rfl)
    (hline : (apos.endLine == cpos.line) = true := by rfl) (hs : starEach (e :: es) X.env = (false, eval e X.env) :: starEach es X.env := by rfl) (hplain : (backTo cpos (starEach es X.env)).any (·.1) = false := by rfl) :
    Ex X W (.Call (.Attribute o name apos) (e :: es) [] cpos) (eM T g fo fs) := by
  obtain ⟨r, hr, h⟩ := hm
  refine ⟨fun m τ st σ H Q hL hS hP pins s I => (pe_bmP pa slot hty hr peW paW hbase hfew hline hs hplain).run pins s σ H Q I ?_⟩
  refine ho.run m τ st σ H _ hL hS (hP.bind fun d s1 m1 H1 v e1 hS1 r1 hP1 => ?_)
  split at hP1
  · rename_i hk
    exact ⟨okT_ty hS1 hk r1, ha.run m1 τ s1 σ H1 _ (hL.mono e1) hS1 (hP1.bind fun ds s2 m2 H2 vs e2 hS2 r2 hP2 => h m2 s2 H2 d v ds vs _ Q hS2 (r1.mono e2) r2 hP2)⟩
  · exact hP1.elim
theorem ex_m0 {name : Str} {apos cpos : Pos} {T id : String} {g : MM} (pa : PlainAttrs T) (slot : Slot T name id) (hty : typeOf (.builtin id) = pure (.type "method_descriptor")) (hm : MethM X id g) (ho : Ex X W o fo)
    (hbase : attributeBase o name X.env (eval o X.env) = eval o X.env := by rfl) (hline : (apos.endLine == cpos.line) = true := by rfl) :
    Ex X W (.Call (.Attribute o name apos) [] [] cpos) (eM T g fo aNil) := by
  obtain ⟨r, hr, h⟩ := hm
  refine ⟨fun m τ st σ H Q hL hS hP pins s I => (pe_bm0P pa slot hty hr peW hbase hline).run pins s σ H Q I ?_⟩
  refine ho.run m τ st σ H _ hL hS (hP.bind fun d s1 m1 H1 v e1 hS1 r1 hP1 => ?_)
  split at hP1
  · rename_i hk
    exact ⟨okT_ty hS1 hk r1, h m1 s1 H1 d v [] [] _ Q hS1 r1 .nil hP1⟩
  · exact hP1.elim
def mAppend : MM := fun d ds st => match d, ds with
  | .ref n, [x] => match lstAt st n with
    | some xs => if xs.length < 16777216 then .ok .non (st.set n (.lst (xs ++ [x]))) else .bad
    | none => .bad
  | _, _ => .bad
theorem me_append : MethM X "list.append" mAppend := ⟨_, mt_append, fun m st H d v ds vs E Q hS r rs hP => by
  unfold mAppend at hP
  split at hP
  · split at hP
    · rename_i xs hx
      split at hP
      · rename_i hl
        cases r with
        | ref q =>
          obtain ⟨us, h1, h2⟩ := hS.list hx q
          obtain ⟨u, rfl, ru⟩ := rs.one
          exact ⟨_, us, u, rfl, rfl, h1, below_line (by rw [← h2.len]; exact hl), hP m _ _ (Ext.write h1 q) (hS.write h1 q (h2.append (.cons ru .nil))) .non⟩
      · exact hP.elim
    · exact hP.elim
  · exact hP.elim⟩
def mExtend : MM := fun d ds st => match d, ds with
  | .ref n, [.ref k] => match lstAt st n, lstAt st k with
    | some xs, some ys => if xs.length + ys.length ≤ 16777216 then .ok .non (st.set n (.lst (xs ++ ys))) else .bad
    | _, _ => .bad
  | _, _ => .bad
theorem me_extend : MethM X "list.extend" mExtend := ⟨_, mt_extend, fun m st H d v ds vs E Q hS r rs hP => by
  unfold mExtend at hP
  split at hP
  · split at hP
    · rename_i xs ys hx hy
      split at hP
      · rename_i hl
        obtain ⟨u, rfl, ru⟩ := rs.one
        cases r with
        | ref q =>
          cases ru with
          | ref q' =>
            obtain ⟨us, h1, h2⟩ := hS.list hx q
            obtain ⟨ws, h3, h4⟩ := hS.list hy q'
            exact ⟨_, _, us, ws, rfl, rfl, h1, h3, line_of (by rw [← h2.len, ← h4.len]; exact hl), hP m _ _ (Ext.write h1 q) (hS.write h1 q (h2.append h4)) .non⟩
      · exact hP.elim
    · exact hP.elim
  · exact hP.elim⟩
def mPop : MM := fun d ds st => match d, ds with
  | .ref n, [] => match lstAt st n with
    | some xs => match xs[xs.length - 1]? with
      | some y => .ok y (st.set n (.lst xs.dropLast))
      | none => .bad
    | none => .bad
  | _, _ => .bad
theorem me_pop : MethM X "list.pop" mPop := ⟨_, mt_pop, fun m st H d v ds vs E Q hS r rs hP => by
  unfold mPop at hP
  split at hP
  · split at hP
    · rename_i xs hx
      split at hP
      · rename_i y hy
        cases r with
        | ref q =>
          obtain ⟨us, h1, h2⟩ := hS.list hx q
          cases rs
          rw [h2.len] at hy
          obtain ⟨u, hu, ru⟩ := h2.get hy
          have e := Ext.write (K := X.K) (o := .lst us.dropLast) h1 q
          exact ⟨_, us, u, rfl, rfl, h1, hu, hP m _ _ e (hS.write h1 q h2.dropLast) (ru.mono e)⟩
      · exact hP.elim
    · exact hP.elim
  · exact hP.elim⟩
def okIx (i : Int) : Bool := decide (i.natAbs < 9223372036854775808)
theorem okIx_ok {i : Int} (h : okIx i = true) : -(2 ^ 63) ≤ i ∧ i < 2 ^ 63 := by
  have q : i.natAbs < 9223372036854775808 := of_decide_eq_true h
  have q' : -9223372036854775808 ≤ i ∧ i < 9223372036854775808 := by omega
  exact q'
def mPopAt : MM := fun d ds st => match d, ds with
  | .ref n, [.int i] => match lstAt st n with
    | some xs => match seqIndex? i xs.length with
      | some k => match xs[k]? with
        | some y => if okIx i then .ok y (st.set n (.lst (xs.eraseIdx k))) else .bad
        | none => .bad
      | none => .bad
    | none => .bad
  | _, _ => .bad
theorem me_popAt : MethM X "list.pop" mPopAt := ⟨_, mt_popAt, fun m st H d v ds vs E Q hS r rs hP => by
  unfold mPopAt at hP
  split at hP
  · split at hP
    · rename_i xs hx
      split at hP
      · rename_i k hk
        split at hP
        · rename_i y hy
          split at hP
          · rename_i hi
            obtain ⟨w, rfl, rw'⟩ := rs.one
            cases rw'
            cases r with
            | ref q =>
              obtain ⟨us, h1, h2⟩ := hS.list hx q
              obtain ⟨u, hu, ru⟩ := h2.get hy
              have e := Ext.write (K := X.K) (o := .lst (us.eraseIdx k)) h1 q
              exact ⟨_, us, _, k, u, rfl, rfl, h1, (okIx_ok hi).1, (okIx_ok hi).2, by rw [← h2.len]; exact hk, hu, hP m _ _ e (hS.write h1 q (h2.erase k)) (ru.mono e)⟩
          · exact hP.elim
        · exact hP.elim
      · exact hP.elim
    · exact hP.elim
  · exact hP.elim⟩
def mInsert : MM := fun d ds st => match d, ds with
  | .ref n, [.int i, y] => match lstAt st n with
    | some xs => if decide (0 ≤ i) && okIx i && decide (xs.length < 16777216) then .ok .non (st.set n (.lst (xs.take i.toNat ++ [y] ++ xs.drop i.toNat))) else .bad
    | none => .bad
  | _, _ => .bad
theorem me_insert : MethM X "list.insert" mInsert := ⟨_, mt_insert, fun m st H d v ds vs E Q hS r rs hP => by
  unfold mInsert at hP
  split at hP
  · split at hP
    · rename_i xs hx
      split at hP
      · rename_i hc
        simp only [Bool.and_eq_true, decide_eq_true_eq] at hc
        obtain ⟨w, u, rfl, rw', ru⟩ := rs.two
        cases rw'
        cases r with
        | ref q =>
          obtain ⟨us, h1, h2⟩ := hS.list hx q
          exact ⟨_, us, _, u, rfl, rfl, h1, below_line (by rw [← h2.len]; exact hc.2), hc.1.1, (okIx_ok hc.1.2).2, hP m _ _ (Ext.write h1 q) (hS.write h1 q (((h2.take _).append (.cons ru .nil)).append (h2.drop _))) .non⟩
      · exact hP.elim
    · exact hP.elim
  · exact hP.elim⟩
/-! ### in -/
def D.flat : D → Bool
  | .non => true
  | .bl _ => true
  | .int _ => true
  | .str _ => true
  | _ => false
def eqF : D → D → Bool
  | .non, .non => true
  | .bl a, .bl b => a == b
  | .bl a, .int b => (if a then 1 else 0) == b
  | .int a, .bl b => a == (if b then 1 else 0)
  | .int a, .int b => decide (a = b)
  | .str a, .str b => decide (a = b)
  | _, _ => false
theorem flat_V {K : PySem.W.Frag} {m : List Addr} {H : Hp} {d : D} {v : V} (r : RD K m H d v) (h : d.flat = true) : flatV v = true := by
  cases r <;> first | rfl | cases h
theorem flats_V {K : PySem.W.Frag} {m : List Addr} {H : Hp} : ∀ {ds : List D} {vs : List V}, RDs K m H ds vs → ds.all D.flat = true → vs.all flatV = true
  | [], _, .nil, _ => rfl
  | d :: ds, _, .cons r rs, h => by
    rw [List.all_cons, Bool.and_eq_true] at h ⊢
    exact ⟨flat_V r h.1, flats_V rs h.2⟩
theorem eqF_V {K : PySem.W.Frag} {m : List Addr} {H : Hp} {d e : D} {v u : V} (r : RD K m H d v) (r' : RD K m H e u) (h : d.flat = true) (h' : e.flat = true) : eqV v u = eqF d e := by
  cases r with
  | non => cases r' <;> first | rfl | cases h'
  | bl b => cases r' <;> first | rfl | cases h'
  | int i =>
    cases r' with
    | int j =>
      show (i == j) = decide (i = j)
      rw [Bool.eq_iff_iff]
      simp
    | _ => first | rfl | cases h'
  | str x =>
    cases r' with
    | str y =>
      show ((⟨x.toArray⟩ : Str) == (⟨y.toArray⟩ : Str)) = decide (x = y)
      rw [Bool.eq_iff_iff]
      simp
    | _ => first | rfl | cases h'
  | _ => cases h
theorem inV_D {K : PySem.W.Frag} {m : List Addr} {H : Hp} {d : D} {v : V} (r : RD K m H d v) (h : d.flat = true) : ∀ {ds : List D} {vs : List V}, RDs K m H ds vs → ds.all D.flat = true → inV v vs = ds.any fun y => eqF y d
  | [], _, .nil, _ => rfl
  | e :: ds, _, .cons r' rs, h' => by
    rw [List.all_cons, Bool.and_eq_true] at h'
    have := inV_D r h rs h'.2
    unfold inV at this ⊢
    rw [List.any_cons, List.any_cons, this, eqF_V r' r h'.1 h]
def rInT (K : PySem.W.Frag) (neg : Bool) : R2 := fun x y H Q => ∃ d ds, Dp K H x d ∧ Dp K H y (.tuple ds) ∧ SeqAt.shaped d = true ∧ SeqAt.shaped (.tuple ds) = true ∧ Q (.bl (if neg then !(ds.any fun z => PyData.eqv z d) else ds.any fun z => PyData.eqv z d)) H
theorem op_inT (hu : X.A.units + 65 < cLine) : OpR X (compareOp .In) (rInT X.K false) := by
  intro pins s σ H x y v u Q I rx ry h
  obtain ⟨d, ds, hd, he, sd, se, q⟩ := h
  obtain ⟨as, r1⟩ := Dp.reads I d x v hd rx
  obtain ⟨bs, r2⟩ := Dp.reads I (.tuple ds) y u he ry
  exact SeqAt.in_tuple_reads r2 r1 (SeqAt.canLay_of_shaped se) (SeqAt.canLay_of_shaped sd) (room_in_shaped sd hu) ⟨.bl _, H, I, rfl, q⟩
theorem op_notInT (hu : X.A.units + 65 < cLine) : OpR X (compareOp .NotIn) (rInT X.K true) := by
  intro pins s σ H x y v u Q I rx ry h
  obtain ⟨d, ds, hd, he, sd, se, q⟩ := h
  obtain ⟨as, r1⟩ := Dp.reads I d x v hd rx
  obtain ⟨bs, r2⟩ := Dp.reads I (.tuple ds) y u he ry
  exact SeqAt.notIn_tuple_reads r2 r1 (SeqAt.canLay_of_shaped se) (SeqAt.canLay_of_shaped sd) (room_in_shaped sd hu) ⟨.bl _, H, I, rfl, q⟩
/-- is it among flat ones, one sign in a text, among data of any depth -/
def dInS (x y : D) (st : Store) : Option Bool := match x, y with
  | .str [c], .str z => some (decide (c ∈ z))
  | x, y => match dSeq st y with
    | some ys => if x.flat && ys.all D.flat then some (ys.any fun y => eqF y x) else if x.plain 59 && ys.all (D.plain 59) then some (decide (x ∈ ys)) else none
    | none => none
def oInS : O2 := fun x y st => match dInS x y st with
  | some b => .ok (.bl b) st
  | none => .bad
def oNotInS : O2 := fun x y st => match dInS x y st with
  | some b => .ok (.bl !b) st
  | none => .bad
theorem any_plain {n : Nat} {x : D} (hx : x.plain n = true) : ∀ {ys : List D}, ys.all (D.plain n) = true → ((ys.map (D.toP n)).any fun z => PyData.eqv z (x.toP n)) = decide (x ∈ ys)
  | [], _ => by simp
  | y :: ys, h => by
    rw [List.all_cons, Bool.and_eq_true] at h
    rw [List.map_cons, List.any_cons, any_plain hx h.2, eqv_plain n y x h.1 hx]
    simp [List.mem_cons, eq_comm]
theorem m_inB {op : CmpOp} {neg : Bool} {r1 r2 r3 r4 : R2} (h1 : OpR X (compareOp op) r1) (h2 : OpR X (compareOp op) r2) (h3 : OpR X (compareOp op) r3) (h4 : OpR X (compareOp op) r4)
    (s1 : ∀ (c : Nat) (z : Str) H Q, Q (.bl (if neg then !decide (c ∈ z.cps.toList) else decide (c ∈ z.cps.toList))) H → r1 (.str ⟨#[c]⟩) (.str z) H Q)
    (s2 : ∀ x y H Q, rIn X.K neg x y H Q → r2 x y H Q)
    (s3 : ∀ x y H Q d ds, Dp X.K H x d → Dp X.K H y (.list ds) → SeqAt.shaped d = true → SeqAt.shaped (.list ds) = true → Q (.bl (if neg then !(ds.any fun z => PyData.eqv z d) else ds.any fun z => PyData.eqv z d)) H → r3 x y H Q)
    (s4 : ∀ x y H Q d ds, Dp X.K H x d → Dp X.K H y (.tuple ds) → SeqAt.shaped d = true → SeqAt.shaped (.tuple ds) = true → Q (.bl (if neg then !(ds.any fun z => PyData.eqv z d) else ds.any fun z => PyData.eqv z d)) H → r4 x y H Q) :
    OpM X W (compareOp op) (fun x y st => match dInS x y st with
    | some b => .ok (.bl (if neg then !b else b)) st
    | none => .bad) := opm_of ((h1.or h2).or (h3.or h4)) fun m st H dx dy x y E Q hS ra rb hP => by
  have fin : ∀ {q : PyData}, q.canLay0 = true → q.depth ≤ 60 → SeqAt.shaped q = true := fun {q} h1 h2 => by
    unfold SeqAt.shaped
    rw [h1, Bool.true_and, decide_eq_true_eq]
    omega
  split at hP
  · rename_i b hb
    unfold dInS at hb
    split at hb
    · cases hb
      cases ra
      cases rb
      exact .inl (.inl (s1 _ _ _ _ (hP.now hS (.bl _))))
    · split at hb
      · rename_i ys hy
        split at hb
        · rename_i hf
          cases hb
          rw [Bool.and_eq_true] at hf
          obtain ⟨p, vs, rfl, q, rs⟩ := dSeq_read hS hy rb
          refine .inl (.inr (s2 _ _ _ _ ⟨p, vs, rfl, q.imp id PlT.sq, flat_V ra hf.1, flats_V rs hf.2, ?_⟩))
          rw [inV_D ra hf.1 rs hf.2]
          exact hP.now hS (.bl _)
        · split at hb
          · rename_i hf
            cases hb
            rw [Bool.and_eq_true] at hf
            obtain ⟨p, vs, rfl, q, rs⟩ := dSeq_read hS hy rb
            obtain ⟨a1, a2, a3⟩ := plain_dp 59 dx x hf.1 ra
            obtain ⟨b1, b2, b3⟩ := plain_all (plain_dp 59) ys vs hf.2 rs
            have e := any_plain hf.1 hf.2
            rcases q with q | q
            · refine .inr (.inl (s3 _ _ _ _ _ _ a1 (.lst q b1) (fin a2 (by omega)) (fin (by simpa only [PyData.canLay0] using b2) (by simp only [PyData.depth]; omega)) ?_))
              rw [e]
              exact hP.now hS (.bl _)
            · refine .inr (.inr (s4 _ _ _ _ _ _ a1 (.tup q.sq b1) (fin a2 (by omega)) (fin (by simpa only [PyData.canLay0] using b2) (by simp only [PyData.depth]; omega)) ?_))
              rw [e]
              exact hP.now hS (.bl _)
          · cases hb
      · cases hb
  · exact hP.elim
theorem m_inS (hu : X.A.units + 65 < cLine) : OpM X W (compareOp .In) oInS := m_inB (neg := false) op_in_sign op_in_seq (op_inD hu) (op_inT hu)
  (fun c z H Q h => ⟨c, z, rfl, rfl, h⟩) (fun x y H Q h => h) (fun x y H Q d ds h1 h2 h3 h4 q => ⟨d, ds, h1, h2, h3, h4, q⟩) (fun x y H Q d ds h1 h2 h3 h4 q => ⟨d, ds, h1, h2, h3, h4, q⟩)
theorem m_notinS (hu : X.A.units + 65 < cLine) : OpM X W (compareOp .NotIn) oNotInS := m_inB (neg := true) op_notIn_sign op_notIn_seq (op_notInD hu) (op_notInT hu)
  (fun c z H Q h => ⟨c, z, rfl, rfl, h⟩) (fun x y H Q h => h) (fun x y H Q d ds h1 h2 h3 h4 q => ⟨d, ds, h1, h2, h3, h4, q⟩) (fun x y H Q d ds h1 h2 h3 h4 q => ⟨d, ds, h1, h2, h3, h4, q⟩)
end
end HM

/-! HM, part 11: slices, sums, all and any, join, texts repeated, lcm. -/
namespace HM
open PySem PySem.Spec PyProof.Rows L2
section
variable {prog : Program} {w : World} {A : Around} {E : Value → Shared → Prop} {s : Shared}
theorem get_whole {t sl : Addr} {items : Array Value} {vl vu : Value} {lo hi : Option Int} {Q : Value → Shared → Prop} (ht : IsTup s.heap t items) (hs : s.heap.IsSliceOf sl vl vu .none) (pl : IsPart vl lo) (pu : IsPart vu hi)
    (h1 : HT.sIx items.size 0 lo = 0) (h2 : HT.sIx items.size items.size hi = items.size) (q : Q (.ref t) s) : wpAny (model prog w) A (getItem (.ref t) (.ref sl)) Q E s := by
  obtain ⟨ob, o1, o2, o3⟩ := id hs
  unfold getItem
  try with_reducible refine wpAny_holding ?_
  try refine wpAny_bind (wpAny_pure ?_)
  refine wpAny_bind (wpAny_sequenceKey ht.typeIs (by decide) ?_)
  refine wpAny_bind (wpAny_callSpecial?_slot (name := Str.ofString "__getitem__") ht.typeIs PyProof.Rows.slot_tuple_getitem (wpAny_call_entry PyProof.Rows.slot_tuple_getitem ht.typeIs entry_tuple_getitem ?_ (args_tuple_getitem _ _)))
  show wpAny _ _ (Builtin.Tuple.tupleItemsOf (.ref t) >>= _) _ _ s
  refine wpAny_bind (tupleItemsOf_ ht (wpAny_bind (wpAny_typeOf (T := "slice") ⟨ob, o1, o2⟩ ?_)))
  rw [if_pos (by decide)]
  refine wpAny_bind (HT.sliceApplied_gen hs pl pu ?_)
  have yes : (((HT.sIx items.size 0 lo : Nat) : Int) == 0 && (1 : Int) == 1 && (HT.sIx items.size items.size hi - HT.sIx items.size 0 lo) == items.size) = true := by
    rw [h1, h2]
    simp
  show wpAny _ _ (if (((HT.sIx items.size 0 lo : Nat) : Int) == 0 && (1 : Int) == 1 && (HT.sIx items.size items.size hi - HT.sIx items.size 0 lo) == items.size) = true then _ else _) _ _ s
  rw [if_pos yes]
  unfold Builtin.Tuple.tupleIsExact
  refine wpAny_bind (wpAny_bind (wpAny_typeOf ht.typeIs ?_))
  refine wpAny_pure ?_
  rw [if_pos (by decide)]
  first
    | exact wpAny_pure ⟨_, rfl, wpAny_pure q⟩
    | exact wpAny_bind (wpAny_rule (wpAny_pure ⟨_, rfl, wpAny_pure q⟩))
end
section
variable {X : Cx}
/-- the whole of a tuple is the tuple -/
def rSlW (K : PySem.W.Frag) : V → Option Int → Option Int → Hp → VK → Prop := fun x lo hi H Q => ∃ a xs, x = .ref a ∧ SqT K H a xs ∧ HT.sIx xs.length 0 lo = 0 ∧ HT.sIx xs.length xs.length hi = xs.length ∧ Q (.ref a) H
theorem sl_whole : SlR X (rSlW X.K) := by
  intro pins s σ H x v vl vu lo hi sl Q I rx hs pl pu h
  obtain ⟨a, xs, rfl, hx, h1, h2, q⟩ := h
  cases rx
  obtain ⟨its, r, ht, hz⟩ := I.tuple hx
  have e : its.toArray.size = xs.length := by rw [List.size_toArray, ← r.length]
  exact ⟨"tuple", _, PyProof.Rows.slot_tuple_getitem.lookup, ht.typeIs, get_whole ht hs pl pu (by rw [e]; exact h1) (by rw [e]; exact h2) ⟨.ref a, H, I, rfl, q⟩⟩
end
section
variable {X : Cx} {W : WX} {e o a b c : Expr} {es : List Expr} {pos p p2 : Pos} {f fo fa fb : EM D} {fs : EM (List D)}
/-! ### slices -/
def cutD {α : Type} (xs : List α) (lo hi : Option Int) : List α := (xs.drop (HT.sIx xs.length 0 lo)).take (HT.sIx xs.length xs.length hi - HT.sIx xs.length 0 lo)
theorem RDs.cut {K : PySem.W.Frag} {m : List Addr} {H : Hp} {ds : List D} {vs : List V} (r : RDs K m H ds vs) (lo hi : Option Int) : RDs K m H (cutD ds lo hi) (cutV vs lo hi) := by
  unfold cutD cutV
  rw [r.len]
  exact (r.drop _).take _
/-- a part of a slice -/
structure Eo (X : Cx) (W : WX) (e : Option Expr) (f : EM (Option Int)) : Prop where
  run : ∃ t : TO, PO X e t ∧ ∀ (m : List Addr) (τ : Sl) (st : Store) (σ : L2.St) (H : Hp) (Q : Option Int → Hp → Prop), SL X.K m H τ σ → SS X.kw m st H → Pe X.kw (fun c d H' => W c d σ H') (fun _ _ a b => a = b) m H (f τ st) Q → t σ H Q
def oNone : EM (Option Int) := fun _ st => .ok none st
def oSome (f : EM D) : EM (Option Int) := fun τ st => (f τ st).bind fun d s1 => match d with
  | .int i => .ok (some i) s1
  | _ => .bad
theorem eo_none : Eo X W none oNone := ⟨_, po_none, fun m τ st σ H Q hL hS hP => hP.now hS rfl⟩
theorem eo_some (h : Ex X W e f) : Eo X W (some e) (oSome f) := ⟨_, po_some peW, fun m τ st σ H Q hL hS hP => h.run m τ st σ H _ hL hS (hP.bind fun d s1 m1 H1 v e1 hS1 r1 hP1 => by
  split at hP1
  · cases r1
    exact ⟨_, rfl, hP1.now hS1 rfl⟩
  · exact hP1.elim)⟩
def dCut (d : D) (lo hi : Option Int) (st : Store) : ER D := match d with
  | .str z => if z.length ≤ 16777216 then .ok (.str (cutD z lo hi)) st else .bad
  | .tup xs => .ok (.tup (cutD xs lo hi)) st
  | .rol xs => .ok (.ref st.length) (st ++ [.lst (cutD xs lo hi)])
  | .ref n => match lstAt st n with
    | some xs => .ok (.ref st.length) (st ++ [.lst (cutD xs lo hi)])
    | none => .bad
  | _ => .bad
def eSl (f : EM D) (fl fh : EM (Option Int)) : EM D := fun τ st => (f τ st).bind fun d s1 => (fl τ s1).bind fun l s2 => (fh τ s2).bind fun h s3 => dCut d l h s3
theorem sl_all : SlR X (fun x lo hi H Q => rSlL X.K x lo hi H Q ∨ (rSlF X.K x lo hi H Q ∨ rSlW X.K x lo hi H Q) ∨ rSlS x lo hi H Q) := sl_list.or ((sl_tupF.or sl_whole).or sl_str)
theorem cutS_D (z : List Nat) (lo hi : Option Int) : cutS ⟨z.toArray⟩ lo hi = ⟨(cutD z lo hi).toArray⟩ := by
  unfold cutS cutD
  simp [PySem.Str.length]
theorem ex_sl {lo hi : Option Expr} {fl fh : EM (Option Int)} (he : Ex X W e f) (hl : Eo X W lo fl) (hh : Eo X W hi fh) : Ex X W (.Subscript e (.Slice lo hi none p2) pos) (eSl f fl fh) := by
  obtain ⟨tl, pl, hl⟩ := hl
  obtain ⟨th, ph, hh⟩ := hh
  refine ⟨fun m τ st σ H Q hL hS hP pins s I => (pe_slice sl_all peW pl ph).run pins s σ H Q I ?_⟩
  refine he.run m τ st σ H _ hL hS (hP.bind fun d s1 m1 H1 v e1 hS1 r1 hP1 => ?_)
  refine hl m1 τ s1 σ H1 _ (hL.mono e1) hS1 (hP1.bind fun l s2 m2 H2 l' e2 hS2 r2 hP2 => ?_)
  subst r2
  refine hh m2 τ s2 σ H2 _ ((hL.mono e1).mono e2) hS2 (hP2.bind fun h s3 m3 H3 h' e3 hS3 r3 hP3 => ?_)
  subst r3
  have r1 := (r1.mono e2).mono e3
  unfold dCut at hP3
  split at hP3
  · split at hP3
    · rename_i hz
      cases r1
      refine .inr (.inr ⟨_, rfl, line_of (by simpa [PySem.Str.length] using hz), ?_⟩)
      rw [cutS_D]
      exact hP3.now hS3 (.str _)
    · exact hP3.elim
  · rename_i ds _
    cases r1 with
    | @tup a vs _ q rs =>
      by_cases hw : HT.sIx vs.length 0 l = 0 ∧ HT.sIx vs.length vs.length h = vs.length
      · refine .inr (.inl (.inr ⟨_, _, rfl, q.sq, hw.1, hw.2, hP3.now hS3 ?_⟩))
        have e : cutD ds l h = ds := by
          unfold cutD
          rw [rs.len, hw.1, hw.2, List.drop_zero, Nat.sub_zero, ← rs.len]
          exact List.take_length
        rw [e]
        exact .tup q rs
      · exact .inr (.inl (.inl ⟨_, _, rfl, q.sq, hw, hP3.tup hS3 (rs.cut _ _)⟩))
  · cases r1 with
    | rol q rs => exact .inl ⟨_, _, rfl, q.sq, hP3.lst hS3 (rs.cut _ _)⟩
  · split at hP3
    · rename_i xs hx
      cases r1 with
      | ref q =>
        obtain ⟨vs, h1, h2⟩ := hS3.list hx q
        exact .inl ⟨_, vs, rfl, SqL.of h1, hP3.lst hS3 (h2.cut _ _)⟩
    · exact hP3.elim
  · exact hP3.elim
/-! ### sums -/
def intsD : List D → Option (List Int)
  | [] => some []
  | .int i :: ds => (intsD ds).map (i :: ·)
  | _ => none
theorem intsD_V {K : PySem.W.Frag} {m : List Addr} {H : Hp} : ∀ {ds : List D} {vs : List V} {ns : List Int}, RDs K m H ds vs → intsD ds = some ns → vs = ns.map V.int
  | [], _, _, .nil, h => by
    cases h
    rfl
  | d :: ds, _, ns, .cons r rs, h => by
    unfold intsD at h
    split at h
    · rename_i e
      cases e
    · rename_i i ds' e
      cases e
      cases r
      cases hz : intsD ds with
      | none =>
        rw [hz] at h
        cases h
      | some ks =>
        rw [hz] at h
        cases h
        rw [intsD_V rs hz]
        rfl
    · cases h
theorem intsD_map : ∀ ns : List Int, intsD (ns.map D.int) = some ns
  | [] => rfl
  | n :: ns => by
    rw [List.map_cons, intsD, intsD_map ns]
    rfl
def rSumT (K : PySem.W.Frag) : List V → Hp → VK → Prop := fun vs H Q => ∃ (a : Addr) (ns : List Int), vs = [V.ref a] ∧ SqT K H a (ns.map V.int) ∧ Q (.int ns.sum) H
theorem cr_sumT (hc : X.calm = true) : CallR X (.builtin "sum") (rSumT X.K) := by
  intro pins s σ H vs us Q I r h
  obtain ⟨a, ns, rfl, hs, q⟩ := h
  obtain ⟨its, rv, hl, _⟩ := I.tuple hs
  rw [Vals.ref1 r]
  have hi := rv.ints
  obtain ⟨xs, e⟩ := hi.allInts.items
  have hn : numsOf (intItems xs).toList = ns := by rw [← e]; exact hi.numsOf
  rw [nums_intItems] at hn
  obtain ⟨ob, ho, hcl, n, hd⟩ := hl
  have ht : s.heap.IsTuple a (intItems xs) := by
    rw [← e]
    exact ⟨ob, ho, hcl, n, hd⟩
  refine PySem.W.ktm_sumG (I.ok.hd hc) ht fun h' tk t' hk => ⟨.int _, H, I.kept hk, ⟨_, rfl⟩, ?_⟩
  rw [preSum_eq, List.take_of_length_le (by simp), hn]
  exact q
def gSum : SM1 := fun xs st => match intsD xs with
  | some ns => .ok (.int ns.sum) st
  | none => .bad
theorem s_sum (hc : X.calm = true) : CallS X (.builtin "sum") gSum := ⟨_, (cr_sum hc).or (cr_sumT hc), fun m st H ds v E Q hS r hP => by
  obtain ⟨a, vs, rfl, q, rs⟩ := r
  unfold gSum at hP
  split at hP
  · rename_i ns hn
    have e := intsD_V rs hn
    subst e
    rcases q with q | q
    · exact .inl ⟨a, ns, rfl, q, hP.now hS (.int _)⟩
    · exact .inr ⟨a, ns, rfl, q.sq, hP.now hS (.int _)⟩
  · exact hP.elim⟩
/-! ### of lists alone -/
def SqVL (K : PySem.W.Frag) (m : List Addr) (H : Hp) (ds : List D) (v : V) : Prop := ∃ a vs, v = .ref a ∧ SqL K H a vs ∧ RDs K m H ds vs
structure Esl (X : Cx) (W : WX) (e : Expr) (f : EM (List D)) : Prop where
  run : ∀ (m : List Addr) (τ : Sl) (st : Store) (σ : L2.St) (H : Hp) (Q : VK), SL X.K m H τ σ → SS X.kw m st H → Pe X.kw (fun c d H' => W c d σ H') (SqVL X.K) m H (f τ st) Q → wE X e σ H Q
theorem esl_el {fl : EM (List D)} (h : El X W e fl) : Esl X W e fl := by
  refine ⟨fun m τ st σ H Q hL hS hP => h.run m τ st σ H Q hL hS ?_⟩
  cases hq : fl τ st with
  | ok ds s1 =>
    rw [hq] at hP
    intro m1 H1 v e1 hS1 ⟨a, vs, e, ha, na, hn, rs⟩
    exact hP m1 H1 v e1 hS1 ⟨a, vs, e, SqL.of ha, rs⟩
  | exc x st' =>
    rw [hq] at hP
    exact hP
  | bad =>
    rw [hq] at hP
    exact hP.elim
def dSeqL (st : Store) : D → Option (List D)
  | .rol xs => some xs
  | .ref n => lstAt st n
  | _ => none
def sExL (f : EM D) : EM (List D) := fun τ st => (f τ st).bind fun d s1 => match dSeqL s1 d with
  | some xs => .ok xs s1
  | none => .bad
theorem esl_ex (h : Ex X W e f) : Esl X W e (sExL f) := by
  refine ⟨fun m τ st σ H Q hL hS hP => h.run m τ st σ H Q hL hS (hP.bind fun d s1 m1 H1 v e1 hS1 r1 hP1 => ?_)⟩
  split at hP1
  · rename_i xs hx
    cases r1 with
    | rol q rs =>
      cases hx
      exact hP1.now hS1 ⟨_, _, rfl, q.sq, rs⟩
    | ref q =>
      obtain ⟨vs, h1, h2⟩ := hS1.list hx q
      exact hP1.now hS1 ⟨_, vs, rfl, SqL.of h1, h2⟩
    | _ => cases hx
  · exact hP1.elim
def CallL (X : Cx) (fv : Value) (g : SM1) : Prop :=
  ∃ r, CallR X fv r ∧ ∀ (m : List Addr) (st : Store) (H : Hp) (ds : List D) (v : V) (E : XK) (Q : VK), SS X.kw m st H → SqVL X.K m H ds v → Pe X.kw E (RD X.K) m H (g ds st) Q → r [v] H Q
theorem ex_callBl {x : Str} {id : String} {g : SM1} {fl : EM (List D)} (hc : CallL X (.builtin id) g) (hg : Gl X x) (hm : X.mg x = none) (hv : bootBuiltins x = some (.builtin id)) (ha : Esl X W e fl) (hn : x ≠ "__name__" := by decide) (hdb : (x == ("__debug__" : Str)) = false := by decide)
    (he : starEach [e] X.env = (false, eval e X.env) :: starEach [] X.env := by rfl) (hpl : (backTo pos (starEach [] X.env)).any (·.1) = false := by rfl) : Ex X W (.Call (.Name x p) [e] [] pos) (eCS g fl) := by
  obtain ⟨r, hr, h⟩ := hc
  refine ⟨fun m τ st σ H Q hL hS hP pins s I => (pe_callB hr hg hm hv (pa_cons peW pa_nil he) hn hdb he hpl).run pins s σ H Q I ?_⟩
  exact ha.run m τ st σ H _ hL hS (hP.bind fun ds s1 m1 H1 v e1 hS1 r1 hP1 => h m1 s1 H1 ds v _ Q hS1 r1 hP1)
def blsD : List D → Option (List Bool)
  | [] => some []
  | .bl i :: ds => (blsD ds).map (i :: ·)
  | _ => none
theorem blsD_V {K : PySem.W.Frag} {m : List Addr} {H : Hp} : ∀ {ds : List D} {vs : List V} {ns : List Bool}, RDs K m H ds vs → blsD ds = some ns → vs = ns.map V.bl
  | [], _, _, .nil, h => by
    cases h
    rfl
  | d :: ds, _, ns, .cons r rs, h => by
    unfold blsD at h
    split at h
    · rename_i e
      cases e
    · rename_i i ds' e
      cases e
      cases r
      cases hz : blsD ds with
      | none =>
        rw [hz] at h
        cases h
      | some ks =>
        rw [hz] at h
        cases h
        rw [blsD_V rs hz]
        rfl
    · cases h
theorem blsD_map : ∀ ns : List Bool, blsD (ns.map D.bl) = some ns
  | [] => rfl
  | n :: ns => by
    rw [List.map_cons, blsD, blsD_map ns]
    rfl
def gAllB : SM1 := fun xs st => match blsD xs with
  | some bs => .ok (.bl (bs.all id)) st
  | none => .bad
def gAnyB : SM1 := fun xs st => match blsD xs with
  | some bs => .ok (.bl (bs.any id)) st
  | none => .bad
theorem s_all (hc : X.calm = true) : CallL X (.builtin "all") gAllB := ⟨_, cr_all hc, fun m st H ds v E Q hS r hP => by
  obtain ⟨a, vs, rfl, q, rs⟩ := r
  unfold gAllB at hP
  split at hP
  · rename_i ns hn
    have e := blsD_V rs hn
    subst e
    exact ⟨a, ns, rfl, q, hP.now hS (.bl _)⟩
  · exact hP.elim⟩
theorem s_any (hc : X.calm = true) : CallL X (.builtin "any") gAnyB := ⟨_, cr_any hc, fun m st H ds v E Q hS r hP => by
  obtain ⟨a, vs, rfl, q, rs⟩ := r
  unfold gAnyB at hP
  split at hP
  · rename_i ns hn
    have e := blsD_V rs hn
    subst e
    exact ⟨a, ns, rfl, q, hP.now hS (.bl _)⟩
  · exact hP.elim⟩
def maxI : List Int → Option Int
  | [] => none
  | n :: ns => some (ns.foldl max n)
def minI : List Int → Option Int
  | [] => none
  | n :: ns => some (ns.foldl min n)
theorem foldl_max_ge : ∀ (ns : List Int) (n : Int), n ≤ ns.foldl max n ∧ (∀ y ∈ ns, y ≤ ns.foldl max n) ∧ (ns.foldl max n = n ∨ ns.foldl max n ∈ ns)
  | [], n => ⟨Int.le_refl _, by simp, .inl rfl⟩
  | k :: ns, n => by
    obtain ⟨h1, h2, h3⟩ := foldl_max_ge ns (max n k)
    rw [List.foldl_cons]
    refine ⟨Int.le_trans (Int.le_max_left n k) h1, fun y hy => ?_, ?_⟩
    · rcases List.mem_cons.mp hy with rfl | hy
      · exact Int.le_trans (Int.le_max_right n y) h1
      · exact h2 y hy
    · rcases h3 with h3 | h3
      · rw [h3]
        rcases Int.le_total n k with h | h
        · rw [Int.max_eq_right h]
          exact .inr (List.mem_cons_self ..)
        · rw [Int.max_eq_left h]
          exact .inl rfl
      · exact .inr (List.mem_cons_of_mem _ h3)
theorem foldl_min_le : ∀ (ns : List Int) (n : Int), ns.foldl min n ≤ n ∧ (∀ y ∈ ns, ns.foldl min n ≤ y) ∧ (ns.foldl min n = n ∨ ns.foldl min n ∈ ns)
  | [], n => ⟨Int.le_refl _, by simp, .inl rfl⟩
  | k :: ns, n => by
    obtain ⟨h1, h2, h3⟩ := foldl_min_le ns (min n k)
    rw [List.foldl_cons]
    refine ⟨Int.le_trans h1 (Int.min_le_left n k), fun y hy => ?_, ?_⟩
    · rcases List.mem_cons.mp hy with rfl | hy
      · exact Int.le_trans h1 (Int.min_le_right n y)
      · exact h2 y hy
    · rcases h3 with h3 | h3
      · rw [h3]
        rcases Int.le_total n k with h | h
        · rw [Int.min_eq_left h]
          exact .inl rfl
        · rw [Int.min_eq_right h]
          exact .inr (List.mem_cons_self ..)
      · exact .inr (List.mem_cons_of_mem _ h3)
def gMax : SM1 := fun xs st => match (intsD xs).bind maxI with
  | some n => .ok (.int n) st
  | none => .bad
def gMin : SM1 := fun xs st => match (intsD xs).bind minI with
  | some n => .ok (.int n) st
  | none => .bad
theorem s_max (hc : X.calm = true) : CallL X (.builtin "max") gMax := ⟨_, cr_max hc, fun m st H ds v E Q hS r hP => by
  obtain ⟨a, vs, rfl, q, rs⟩ := r
  unfold gMax at hP
  split at hP
  · rename_i k hk
    cases hn : intsD ds with
    | none =>
      rw [hn] at hk
      cases hk
    | some ns =>
      rw [hn] at hk
      have e := intsD_V rs hn
      subst e
      cases ns with
      | nil => cases hk
      | cons n ns =>
        have hk : some (ns.foldl max n) = some k := hk
        cases hk
        obtain ⟨h1, h2, h3⟩ := foldl_max_ge ns n
        refine ⟨a, n :: ns, rfl, q, by simp, fun mm hm hy => ?_⟩
        have e : mm = ns.foldl max n := by
          refine Int.le_antisymm ?_ ?_
          · rcases List.mem_cons.mp hm with rfl | hm
            · exact h1
            · exact h2 mm hm
          · rcases h3 with h3 | h3
            · rw [h3]
              exact hy n (List.mem_cons_self ..)
            · exact hy _ (List.mem_cons_of_mem _ h3)
        subst e
        exact hP.now hS (.int _)
  · exact hP.elim⟩
theorem s_min (hc : X.calm = true) : CallL X (.builtin "min") gMin := ⟨_, cr_min hc, fun m st H ds v E Q hS r hP => by
  obtain ⟨a, vs, rfl, q, rs⟩ := r
  unfold gMin at hP
  split at hP
  · rename_i k hk
    cases hn : intsD ds with
    | none =>
      rw [hn] at hk
      cases hk
    | some ns =>
      rw [hn] at hk
      have e := intsD_V rs hn
      subst e
      cases ns with
      | nil => cases hk
      | cons n ns =>
        have hk : some (ns.foldl min n) = some k := hk
        cases hk
        obtain ⟨h1, h2, h3⟩ := foldl_min_le ns n
        refine ⟨a, n :: ns, rfl, q, by simp, fun mm hm hy => ?_⟩
        have e : mm = ns.foldl min n := by
          refine Int.le_antisymm ?_ ?_
          · rcases h3 with h3 | h3
            · rw [h3]
              exact hy n (List.mem_cons_self ..)
            · exact hy _ (List.mem_cons_of_mem _ h3)
          · rcases List.mem_cons.mp hm with rfl | hm
            · exact h1
            · exact h2 mm hm
        subst e
        exact hP.now hS (.int _)
  · exact hP.elim⟩
/-! ### lcm -/
def rLcm : List V → Hp → VK → Prop := fun vs H Q => ∃ a b : Int, vs = [.int a, .int b] ∧ a.natAbs < 2 ^ 9000 ∧ b.natAbs < 2 ^ 9000 ∧ Q (.int ((Nat.lcm a.natAbs b.natAbs : Nat) : Int)) H
theorem log_of {n k : Nat} (h : n < 2 ^ k) (hk : 0 < k) : n.log2 < k := by
  by_cases z : n = 0
  · subst z
    rw [Nat.log2_zero]
    exact hk
  · exact (Nat.log2_lt z).mpr h
theorem cr_lcm : CallR X (.builtin "math.lcm") rLcm := by
  intro pins s σ H vs us Q I r h
  obtain ⟨a, b, rfl, h1, h2, q⟩ := h
  obtain ⟨t, u, rfl⟩ := Vals.int2 r
  have h0 : (1 : Nat) < 2 ^ 9000 := Nat.one_lt_two_pow (by decide)
  have l1 : (max 1 a.natAbs).log2 < 9000 := log_of (Nat.max_lt.mpr ⟨h0, h1⟩) (by decide)
  have l2 : (max a.natAbs b.natAbs).log2 < 9000 := log_of (Nat.max_lt.mpr ⟨h1, h2⟩) (by decide)
  have l3 : ((((Nat.lcm 1 a.natAbs).lcm b.natAbs : Nat) : Int)).natAbs.log2 < bitsLine := by
    rw [Int.natAbs_natCast, PySem.W.mc_lcm_one]
    have := PySem.W.mc_lcm_le a.natAbs b.natAbs
    have h3 : a.natAbs * b.natAbs < 2 ^ 18000 := by
      rw [show (18000 : Nat) = 9000 + 9000 from rfl, Nat.pow_add]
      exact Nat.mul_lt_mul'' h1 h2
    exact Nat.lt_trans (log_of (Nat.lt_of_le_of_lt this h3) (by decide)) (by decide)
  have g := (PySem.W.mg_run_lcm a t b u (by omega) (by omega) l3).meets
  refine PySem.call_function_meets PySem.W.MGF.kind_lcm PySem.W.MGF.plain_lcm PySem.W.MGF.entry_lcm (PySem.W.MGF.args_lcm _ _) g ?_
  rw [PySem.W.mc_lcm_one]
  exact ⟨.int _, H, I.tok _, ⟨_, rfl⟩, q⟩
def fLcm : FM := fun ds st => match ds with
  | [.int i, .int j] => if decide (i.natAbs < 2 ^ 9000) && decide (j.natAbs < 2 ^ 9000) then .ok (.int (Nat.lcm i.natAbs j.natAbs : Nat)) st else .bad
  | _ => .bad
theorem c_lcm : CallM X (.builtin "math.lcm") fLcm := ⟨_, cr_lcm, fun m st H ds vs E Q hS r hP => by
  unfold fLcm at hP
  split at hP
  · split at hP
    · rename_i hc
      rw [Bool.and_eq_true, decide_eq_true_eq, decide_eq_true_eq] at hc
      obtain ⟨v, u, rfl, r1, r2⟩ := r.two
      cases r1
      cases r2
      exact ⟨_, _, rfl, hc.1, hc.2, hP.now hS (.int _)⟩
    · exact hP.elim
  · exact hP.elim⟩
/-! ### texts: join, repeated -/
def strsD : List D → Option (List (List Nat))
  | [] => some []
  | .str x :: ds => (strsD ds).map (x :: ·)
  | _ => none
theorem strsD_V {K : PySem.W.Frag} {m : List Addr} {H : Hp} : ∀ {ds : List D} {vs : List V} {ns : List (List Nat)}, RDs K m H ds vs → strsD ds = some ns → vs = (ns.map fun x => (⟨x.toArray⟩ : Str)).map V.str
  | [], _, _, .nil, h => by
    cases h
    rfl
  | d :: ds, _, ns, .cons r rs, h => by
    unfold strsD at h
    split at h
    · rename_i e
      cases e
    · rename_i i ds' e
      cases e
      cases r
      cases hz : strsD ds with
      | none =>
        rw [hz] at h
        cases h
      | some ks =>
        rw [hz] at h
        cases h
        rw [strsD_V rs hz]
        rfl
    · cases h
theorem strsD_map : ∀ ns : List (List Nat), strsD (ns.map D.str) = some ns
  | [] => rfl
  | n :: ns => by
    rw [List.map_cons, strsD, strsD_map ns]
    rfl
end
end HM

/-! HM, part 12: texts joined, things repeated. -/
namespace HM
open PySem PySem.Spec PyProof.Rows L2 SX
section
variable {X : Cx} {W : WX} {e o a b c : Expr} {es : List Expr} {pos p p2 : Pos} {f fo fa fb : EM D} {fs : EM (List D)}
def joinD (a : List Nat) : List (List Nat) → List Nat
  | [] => []
  | [p] => p
  | p :: q :: r => p ++ (a ++ joinD a (q :: r))
theorem joinD_eq (a : List Nat) : ∀ ys : List (List Nat), TL.joinL a ys = joinD a ys
  | [] => rfl
  | [_] => rfl
  | p :: q :: r => by
    show p ++ (a ++ TL.joinL a (q :: r)) = p ++ (a ++ joinD a (q :: r))
    rw [joinD_eq a (q :: r)]
def mJoin : MM := fun d ds st => match d, ds with
  | .str a, [y] => match (dSeq st y).bind strsD with
    | some ys => if (ys.map List.length).sum + ys.length * a.length ≤ 16777216 then .ok (.str (joinD a ys)) st else .bad
    | none => .bad
  | _, _ => .bad
theorem me_join : MethM X "str.join" mJoin := ⟨_, mt_join, fun m st H d v ds vs E Q hS r rs hP => by
  unfold mJoin at hP
  split at hP
  · rename_i a y
    split at hP
    · rename_i ys hy
      split at hP
      · rename_i hl
        cases hq : dSeq st y with
        | none =>
          rw [hq] at hy
          cases hy
        | some zs =>
          rw [hq] at hy
          obtain ⟨u, rfl, ru⟩ := rs.one
          cases r
          obtain ⟨p, us, rfl, q, rs'⟩ := dSeq_read hS hq ru
          have e := strsD_V rs' hy
          subst e
          refine ⟨⟨a.toArray⟩, p, ys.map S, rfl, rfl, q.imp id PlT.sq, ?_, ?_⟩
          · rw [List.map_map, List.length_map]
            have e : (ys.map ((fun x : Str => x.length) ∘ S)) = ys.map List.length := List.map_congr_left fun x _ => S_len x
            rw [e]
            have e2 : (⟨a.toArray⟩ : Str).length = a.length := S_len a
            rw [e2]
            exact hl
          · have e := join_S a ys
            rw [joinD_eq] at e
            rw [e]
            exact hP.now hS (.str _)
      · exact hP.elim
    · exact hP.elim
  · exact hP.elim⟩
/-! ### * -/
def repD {α : Type} (k : Nat) (xs : List α) : List α := (List.replicate k xs).flatten
theorem foldl_app (x : Array Nat) : ∀ (k : Nat) (acc : Array Nat), (List.replicate k x).foldl (· ++ ·) acc = acc ++ ((List.replicate k x.toList).flatten).toArray
  | 0, acc => by simp
  | k + 1, acc => by
    rw [List.replicate_succ, List.foldl_cons, foldl_app x k, List.replicate_succ, List.flatten_cons]
    apply Array.ext'
    simp
theorem repD_len {α : Type} (k : Nat) (xs : List α) : (repD k xs).length = xs.length * k := by
  unfold repD
  induction k with
  | zero => simp
  | succ k ih =>
    rw [List.replicate_succ, List.flatten_cons, List.length_append, ih, Nat.mul_succ, Nat.add_comm]
theorem op_repS : OpR X (binaryOp .Mult) (fun x y H Q => ∃ (z : List Nat) (k : Int), x = .str (S z) ∧ y = .int k ∧ 2 ≤ k ∧ k ≤ 16777216 ∧ z.length * k.toNat ≤ 16777216 ∧ Q (.str (S (repD k.toNat z))) H) := by
  intro pins s σ H x y v u Q I rx ry h
  obtain ⟨z, k, rfl, rfl, h2, hz, hl, q⟩ := h
  obtain ⟨t, rfl⟩ := rx
  obtain ⟨t', rfl⟩ := ry
  have e1 : (S z).length = z.length := S_len z
  refine PySem.P.mul_str ?_ (fun _ h0 => ?_) (fun _ _ => ?_) ?_
  · have a1 : ¬ k < -(2 ^ 63 : Int) := by omega
    have a2 : ¬ k ≥ 2 ^ 63 := by
      have : (16777216 : Int) < 2 ^ 63 := by decide
      omega
    rw [decide_eq_false a1, decide_eq_false a2]
    rfl
  · rw [e1]
    have h3 : z.length ≤ 16777216 := by
      have : z.length * 1 ≤ z.length * k.toNat := Nat.mul_le_mul_left _ (by omega)
      omega
    have h4 : (16777216 : Int) ≤ (2 ^ 63 - 1) / k := by
      refine (Int.le_ediv_iff_mul_le (by omega)).mpr ?_
      have : (16777216 : Int) * k ≤ 16777216 * 16777216 := Int.mul_le_mul_of_nonneg_left (by omega) (by decide)
      have : (16777216 : Int) * 16777216 ≤ 2 ^ 63 - 1 := by decide
      omega
    omega
  · rw [e1]
    show decide (z.length * k.toNat > 2 ^ 24) = false
    exact decide_eq_false (by
      have : (2 : Nat) ^ 24 = 16777216 := rfl
      omega)
  · have n1 : ¬ k < 1 := by omega
    rw [if_neg n1]
    have a1 : (k == 1) = false := beq_false_of_ne (by omega)
    rw [a1, e1, Bool.false_or]
    by_cases h0 : z = []
    · subst h0
      have e : (S (repD k.toNat ([] : List Nat))) = S [] := by
        have := repD_len k.toNat ([] : List Nat)
        rw [List.length_nil, Nat.zero_mul] at this
        rw [List.length_eq_zero_iff.mp this]
      rw [e] at q
      rw [if_pos (show (([] : List Nat).length == 0) = true from rfl)]
      exact ⟨.str _, H, I, ⟨_, rfl⟩, q⟩
    · have zl : 0 < z.length := List.length_pos_iff.mpr h0
      have a2 : (z.length == 0) = false := beq_false_of_ne (by omega)
      rw [a2, if_neg Bool.false_ne_true]
      have e : (⟨(List.replicate k.toNat (S z).cps).foldl (· ++ ·) #[]⟩ : Str) = S (repD k.toNat z) := by
        rw [foldl_app]
        simp [repD]
      rw [e]
      refine ⟨?_, .str _, H, I.tok _, ⟨_, rfl⟩, q⟩
      rw [S_len, repD_len, PySem.sizeLine_eq]
      exact hl
def oMul : O2 := fun x y st => match x, y with
  | .int i, .int j => if okMul i j then .ok (.int (i * j)) st else .bad
  | .str z, .int k => if decide (2 ≤ k) && decide (k ≤ 16777216) && decide (z.length * k.toNat ≤ 16777216) then .ok (.str (repD k.toNat z)) st else .bad
  | .ref n, .int k => match lstAt st n with
    | some xs => if okIx k && decide (xs.length * k.toNat ≤ 16777216) then .ok (.ref st.length) (st ++ [.lst (repD k.toNat xs)]) else .bad
    | none => .bad
  | .tup xs, .int k => if decide (2 ≤ k) && decide (k ≤ 1000) && !xs.isEmpty && decide (xs.length ≤ 1000) then .ok (.tup (repD k.toNat xs)) st else .bad
  | _, _ => .bad
theorem RDs.rep {K : PySem.W.Frag} {m : List Addr} {H : Hp} {ds : List D} {vs : List V} (r : RDs K m H ds vs) : ∀ k : Nat, RDs K m H (repD k ds) (repD k vs)
  | 0 => .nil
  | k + 1 => by
    have := RDs.rep r k
    unfold repD at this ⊢
    rw [List.replicate_succ, List.replicate_succ, List.flatten_cons, List.flatten_cons]
    exact r.append this
theorem op_mulAll : OpR X (binaryOp .Mult) (fun x y H Q => ((rI IntMulOk fun i j => .int (i * j)) x y H Q ∨ (∃ (z : List Nat) (k : Int), x = .str (S z) ∧ y = .int k ∧ 2 ≤ k ∧ k ≤ 16777216 ∧ z.length * k.toNat ≤ 16777216 ∧ Q (.str (S (repD k.toNat z))) H)) ∨ (rRep x y H Q ∨ rRepF X.K x y H Q)) :=
  (op_mulAny.or op_repS).or (op_rep.or op_repF)
theorem m_mul : OpM X W (binaryOp .Mult) oMul := opm_of op_mulAll fun m st H dx dy x y E Q hS r1 r2 hP => by
  unfold oMul at hP
  split at hP
  · rename_i i j
    split at hP
    · rename_i hc
      cases r1
      cases r2
      have q : (i.natAbs < 18446744073709551616 ∨ j.natAbs < 18446744073709551616) ∨ i.natAbs.log2 + j.natAbs.log2 < 1000000 := of_decide_eq_true hc
      refine .inl (.inl ⟨_, _, rfl, rfl, ?_, hP.now hS (.int _)⟩)
      rcases q with (q | q) | q
      · exact CMul.ok (.inl (by omega))
      · exact CMul.ok (.inr (by omega))
      · exact CMulW.ok q
    · exact hP.elim
  · split at hP
    · rename_i hc
      simp only [Bool.and_eq_true, decide_eq_true_eq] at hc
      cases r1
      cases r2
      exact .inl (.inr ⟨_, _, rfl, rfl, hc.1.1, hc.1.2, hc.2, hP.now hS (.str _)⟩)
    · exact hP.elim
  · split at hP
    · rename_i xs hx
      split at hP
      · rename_i hc
        rw [Bool.and_eq_true, decide_eq_true_eq] at hc
        cases r1 with
        | ref q =>
          cases r2
          obtain ⟨vs, h1, h2⟩ := hS.list hx q
          exact .inr (.inl ⟨_, _, vs, rfl, rfl, h1, (okIx_ok hc.1).1, (okIx_ok hc.1).2, line_of (by rw [← h2.len]; exact hc.2), hP.lst hS (h2.rep _)⟩)
      · exact hP.elim
    · exact hP.elim
  · split at hP
    · rename_i hc
      simp only [Bool.and_eq_true, decide_eq_true_eq, Bool.not_eq_true', List.isEmpty_eq_false_iff] at hc
      cases r1 with
      | tup q rs =>
        cases r2
        refine .inr (.inr ⟨_, _, _, rfl, rfl, q.sq, fun e => hc.1.2 ?_, hc.1.1.1, hc.1.1.2, by rw [← rs.len]; exact hc.2, hP.tup hS (rs.rep _)⟩)
        subst e
        cases rs
        rfl
    · exact hP.elim
  · exact hP.elim
end
end HM

/-! HM: calls of defs with keywords. -/
namespace HM
open PySem PySem.Spec PyProof.Rows L2
section
variable {X : Cx} {W : WX} {e a b c : Expr} {es rest : List Expr} {pos p : Pos} {f fa fb fc : EM D} {fs fk : EM (List D)} {kws : List Keyword}
def wK (X : Cx) (kws : List Keyword) : TA := fun σ H Q => ∀ (pos : Pos) (pins : List (Addr × Obj)) (s : Shared), Inv X pins σ H s → wpAny (model X.prog X.w) X.A (evalAll ((backToKw pos (keywordEach kws X.env)).map (·.2))) (AP X pins σ Q) X.xe s
theorem pkW {X : Cx} {kws : List Keyword} : PK X kws (wK X kws) := ⟨fun pos pins s σ H Q I h => h pos pins s I⟩
/-- the values of keywords -/
structure Ek (X : Cx) (W : WX) (kws : List Keyword) (f : EM (List D)) : Prop where
  run : ∀ (m : List Addr) (τ : Sl) (st : Store) (σ : L2.St) (H : Hp) (Q : List V → Hp → Prop), SL X.K m H τ σ → SS X.kw m st H → Pe X.kw (fun c d H' => W c d σ H') (RDs X.K) m H (f τ st) Q → wK X kws σ H Q
theorem ek_nil : Ek X W [] aNil := ⟨fun m τ st σ H Q hL hS hP pos pins s I => pk_nil.run pos pins s σ H Q I (hP.now hS .nil)⟩
theorem ek_cons {nm : Option Str} {kpos : Pos} (ha : Ex X W e f) (hr : Ek X W kws fs) : Ek X W (⟨nm, e, kpos⟩ :: kws) (aCons f fs) := by
  refine ⟨fun m τ st σ H Q hL hS hP pos pins s I => (pk_cons peW pkW).run pos pins s σ H Q I ?_⟩
  refine ha.run m τ st σ H _ hL hS (hP.bind fun dx s1 m1 H1 x e1 hS1 r1 hP1 => ?_)
  exact hr.run m1 τ s1 σ H1 _ (hL.mono e1) hS1 (hP1.bind fun ds s2 m2 H2 xs e2 hS2 r2 hP2 => hP2.now hS2 (.cons (r1.mono e2) r2))
/-- those at the places -/
def arr {α : Type} (is : List Nat) (l : List α) : List α := is.filterMap (fun i => l[i]?)
theorem Vals.arr {xs : List V} {us : List Value} (r : Vals xs us) : ∀ is : List Nat, Vals (arr is xs) (arr is us)
  | [] => .nil
  | i :: is => by
    have ih := Vals.arr r is
    unfold HM.arr at ih ⊢
    rw [List.filterMap_cons, List.filterMap_cons]
    cases h : xs[i]? with
    | none => rw [r.none_of h]; exact ih
    | some x =>
      obtain ⟨u, h1, h2⟩ := r.get h
      rw [h1]
      exact .cons h2 ih
theorem RDs.arr {K : PySem.W.Frag} {m : List Addr} {H : Hp} {ds : List D} {vs : List V} (r : RDs K m H ds vs) : ∀ is : List Nat, RDs K m H (arr is ds) (arr is vs)
  | [] => .nil
  | i :: is => by
    have ih := RDs.arr r is
    unfold HM.arr at ih ⊢
    rw [List.filterMap_cons, List.filterMap_cons]
    cases h : ds[i]? with
    | none =>
      have : vs[i]? = none := by
        rw [List.getElem?_eq_none_iff] at h ⊢
        rw [← r.len]; exact h
      rw [this]; exact ih
    | some x =>
      obtain ⟨u, h1, h2⟩ := r.get h
      rw [h1]
      exact .cons h2 ih
def eCallK (n k np : Nat) (is : List Nat) (mf : FM) (fs fk : EM (List D)) : EM D := fun τ st => (fs τ st).bind fun ds s1 => (fk τ s1).bind fun es s2 => if ds.length = n ∧ es.length = k ∧ (arr is (ds ++ es)).length = np then mf (arr is (ds ++ es)) s2 else .bad
theorem ex_ck {P : Program} {w : World} {K : PySem.W.Frag} {mg : Str → Option Value} {base : Heap} {A : Around} {j k n : Nat} {ps ks : List Str} {is : List Nat} {mf : FM} {x : Str} {st : Stmt} {fa : Addr} {fd : FuncData} (c : Cal P w K mg base x j ps mf) (F : FnP K x st fa fd) (gx : mg x = some (.ref fa))
    (bn : ∀ (kV doc pm : Value) (an : Option Addr) (cdv ct : Value) (us ws : List Value), us.length = n → ws.length = ks.length → bindArgs (PySem.W.fnOf x x (defArgs st) (defBody st) (defScope st) .none kV doc pm an cdv ct) ⟨us, ks.zip ws⟩ = pure (ps.zip (arr is (us ++ ws))))
    (tk : Takes X W) (hr : Room k A) (hj : j ≤ k) (ha : Ea X W (e :: es) fs) (hkw : Ek X W kws fk)
    (hall : (backToKw pos (keywordEach kws X.env)).all (·.1.isSome) = true := by rfl) (hks : (backToKw pos (keywordEach kws X.env)).filterMap (·.1) = ks := by rfl)
    (hpl : ((backTo pos (starEach (e :: es) X.env)).any (·.1) || (backToKw pos (keywordEach kws X.env)).any (·.1.isNone)) = false := by rfl)
    (h1 : X.prog = P := by rfl) (h2 : X.w = w := by rfl) (h3 : X.K = K := by rfl) (h4 : X.mg = mg := by rfl) (h5 : X.base = base := by rfl) (h6 : X.A = A := by rfl) (hg : Gl X x := by rfl) (hdb : (x == ("__debug__" : Str)) = false := by decide) (he : starEach (e :: es) X.env = (false, eval e X.env) :: starEach es X.env := by rfl) :
    Ex X W (.Call (.Name x p) (e :: es) kws pos) (eCallK n ks.length ps.length is mf fs fk) := by
  subst h1 h2 h3 h4 h5 h6
  obtain ⟨f, fd', G, hm, hk, hb, oc, od, osl, lk⟩ := c.ex
  have e1 : f = fa := by
    rw [hm] at gx
    exact Value.ref.inj (Option.some.inj gx)
  subst e1
  obtain ⟨oc2, od2, dV, kV, doc, pm, an, cdv, ct, osl2, e2, lk2, hcd, hD, hK⟩ := F.ex
  rw [lk] at lk2
  have e3 : fd' = fd := by
    have := Option.some.inj lk2
    injection this with _ _ q _
    injection q
  subst e3
  have hdV : dV = .none := by
    rcases hD with ⟨_, q⟩ | ⟨q, _⟩
    · exact q
    · exact absurd rfl q
  have kb : KBn X.K fd' ps n ks (fun us ws => HM.arr is (us ++ ws)) (fun vs zs => HM.arr is (vs ++ zs)) :=
    ⟨fun s us ws _ l1 l2 => .of_eq (by rw [e2, hdV]; exact bn kV doc pm an cdv ct us ws l1 l2), fun r1 r2 => HM.Vals.arr (r1.append r2) is⟩
  refine ⟨fun m τ st σ H Q hL hS hP pins s I => ?_⟩
  refine wpAny_Call_Name_kw (ld_glob I hg hm ?_ hdb)
  have q : wA X (e :: es) σ H fun vs H1 => wK X kws σ H1 fun zs H2 => vs.length = n ∧ zs.length = ks.length ∧ spM X.kw ps.length mf (HM.arr is (vs ++ zs)) H2 Q (WE W σ) :=
    ha.run m τ st σ H _ hL hS (hP.bind fun ds s1 m1 H1 vs e1 hS1 r1 hP1 => hkw.run m1 τ s1 σ H1 _ (hL.mono e1) hS1 (hP1.bind fun es s2 m2 H2 xs e2 hS2 r2 hP2 => by
      split at hP2
      · rename_i hl
        exact ⟨by rw [← r1.len]; exact hl.1, by rw [← r2.len]; exact hl.2.1, m2, s2, _, hl.2.2, hS2, RDs.arr ((r1.mono e2).append r2) is, hP2⟩
      · exact hP2.elim))
  refine PySem.W.callWith_KW (h₀ := X.base) I.ok.mod.kin hk hall (thn (q pos pins s I) fun us s1 ⟨vs, H1, I1, r, q1⟩ => ?_) hpl he
  refine thn (q1 pos pins s1 I1) fun ws s2 ⟨zs, H2, I2, rz, l1, l2, q2⟩ => ⟨I2.kIn, ?_⟩
  rw [hks]
  have r2 := kb.rel r rz
  refine wpAny_call (codeAny_mono (G.run X.A X.stack s2 H2 ⟨us, ks.zip ws⟩ _ _ Q (WE W σ) (hr.mono hj) I2.env0 (kb.to s2 us ws I2.kIn (r.length.symm.trans l1) (rz.length.symm.trans l2)) r2 q2) fun r s' hq => ?_)
  cases r with
  | error e => exact passAt tk σ pins H2 s2 e s' I2 hq
  | ok fl =>
    cases fl with
    | ret u => exact I2.after hq
    | next => exact False.elim hq
    | brk => exact False.elim hq
    | cont => exact False.elim hq
theorem ex_ck0 {P : Program} {w : World} {K : PySem.W.Frag} {mg : Str → Option Value} {base : Heap} {A : Around} {j k : Nat} {ps ks : List Str} {is : List Nat} {mf : FM} {x : Str} {st : Stmt} {fa : Addr} {fd : FuncData} (c : Cal P w K mg base x j ps mf) (F : FnP K x st fa fd) (gx : mg x = some (.ref fa))
    (bn : ∀ (kV doc pm : Value) (an : Option Addr) (cdv ct : Value) (us ws : List Value), us.length = 0 → ws.length = ks.length → bindArgs (PySem.W.fnOf x x (defArgs st) (defBody st) (defScope st) .none kV doc pm an cdv ct) ⟨us, ks.zip ws⟩ = pure (ps.zip (arr is (us ++ ws))))
    (tk : Takes X W) (hr : Room k A) (hj : j ≤ k) (hkw : Ek X W kws fk)
    (hall : (backToKw pos (keywordEach kws X.env)).all (·.1.isSome) = true := by rfl) (hks : (backToKw pos (keywordEach kws X.env)).filterMap (·.1) = ks := by rfl)
    (hpl : ((backTo pos (starEach [] X.env)).any (·.1) || (backToKw pos (keywordEach kws X.env)).any (·.1.isNone)) = false := by rfl)
    (h1 : X.prog = P := by rfl) (h2 : X.w = w := by rfl) (h3 : X.K = K := by rfl) (h4 : X.mg = mg := by rfl) (h5 : X.base = base := by rfl) (h6 : X.A = A := by rfl) (hg : Gl X x := by rfl) (hdb : (x == ("__debug__" : Str)) = false := by decide) :
    Ex X W (.Call (.Name x p) [] kws pos) (eCallK 0 ks.length ps.length is mf aNil fk) := by
  subst h1 h2 h3 h4 h5 h6
  obtain ⟨f, fd', G, hm, hk, hb, oc, od, osl, lk⟩ := c.ex
  have e1 : f = fa := by
    rw [hm] at gx
    exact Value.ref.inj (Option.some.inj gx)
  subst e1
  obtain ⟨oc2, od2, dV, kV, doc, pm, an, cdv, ct, osl2, e2, lk2, hcd, hD, hK⟩ := F.ex
  rw [lk] at lk2
  have e3 : fd' = fd := by
    have := Option.some.inj lk2
    injection this with _ _ q _
    injection q
  subst e3
  have hdV : dV = .none := by
    rcases hD with ⟨_, q⟩ | ⟨q, _⟩
    · exact q
    · exact absurd rfl q
  have kb : KBn X.K fd' ps 0 ks (fun us ws => HM.arr is (us ++ ws)) (fun vs zs => HM.arr is (vs ++ zs)) :=
    ⟨fun s us ws _ l1 l2 => .of_eq (by rw [e2, hdV]; exact bn kV doc pm an cdv ct us ws l1 l2), fun r1 r2 => HM.Vals.arr (r1.append r2) is⟩
  refine ⟨fun m τ st σ H Q hL hS hP pins s I => ?_⟩
  refine wpAny_Call_Name_kw (ld_glob I hg hm ?_ hdb)
  have q : wK X kws σ H fun zs H2 => zs.length = ks.length ∧ spM X.kw ps.length mf (HM.arr is zs) H2 Q (WE W σ) := by
    have hP : Pe X.kw (fun c d H' => W c d σ H') (RD X.K) m H ((fk τ st).bind fun es s2 => if ([] : List D).length = 0 ∧ es.length = ks.length ∧ (HM.arr is ([] ++ es)).length = ps.length then mf (HM.arr is ([] ++ es)) s2 else .bad) Q := hP
    exact hkw.run m τ st σ H _ hL hS (hP.bind fun es s2 m2 H2 xs e2 hS2 r2 hP2 => by
      split at hP2
      · rename_i hl
        exact ⟨by rw [← r2.len]; exact hl.2.1, m2, s2, _, hl.2.2, hS2, RDs.arr r2 is, hP2⟩
      · exact hP2.elim)
  refine PySem.W.callWith_KW0 (h₀ := X.base) I.ok.mod.kin hk hall (thn (q pos pins s I) fun ws s2 ⟨zs, H2, I2, rz, l2, q2⟩ => ⟨I2.kIn, ?_⟩) hpl
  rw [hks]
  have r2 : Vals (HM.arr is zs) (HM.arr is ([] ++ ws)) := HM.Vals.arr rz is
  refine wpAny_call (codeAny_mono (G.run X.A X.stack s2 H2 ⟨[], ks.zip ws⟩ _ _ Q (WE W σ) (hr.mono hj) I2.env0 (kb.to s2 [] ws I2.kIn rfl (rz.length.symm.trans l2)) r2 q2) fun r s' hq => ?_)
  cases r with
  | error e => exact passAt tk σ pins H2 s2 e s' I2 hq
  | ok fl =>
    cases fl with
    | ret u => exact I2.after hq
    | next => exact False.elim hq
    | brk => exact False.elim hq
    | cont => exact False.elim hq
end
end HM

/-! HM, part Z: zip of a list and a tuple, either way round. -/
namespace HM
open PySem PySem.Spec PyProof.Rows L2
/-- true: a list, false: a tuple -/
def kCls : Bool → String
  | true => "list_iterator"
  | false => "tuple_iterator"
def kIter (k : Bool) (h : Heap) (it l : Addr) (i : Nat) : Prop := ∃ o, h.get? it = some o ∧ o.cls = .type (kCls k) ∧ o.data = .fields #[.ref l, .int i 0]
def kSeq : Bool → Heap → Addr → Array Value → Prop
  | true => fun h l xs => h.IsList l xs
  | false => fun h l xs => h.IsTuple l xs
def kSq : Bool → PySem.W.Frag → Hp → Addr → List V → Prop
  | true => SqL
  | false => SqT
section
variable {prog : Program} {w : World} {A : Around} {E : Value → Shared → Prop} {s : Shared}
theorem draws_k {k : Bool} (hh : A.handled = none) {it l : Addr} (ne : l ≠ it) (items : Array Value) :
    Draws prog w A it [it, l] items.size (fun i v => items[i]? = some v) (fun i h => kIter k h it l i ∧ kSeq k h l items) := by
  cases k with
  | true => exact Draws.list hh it l ne items
  | false => exact Draws.tuple hh it l ne items
abbrev zk1 (c1 : String) (h : Heap) (l1 : Addr) : Heap := h.push { cls := .type c1, data := .fields #[.ref l1, .int 0 0] }
abbrev zk2 (c1 c2 : String) (h : Heap) (l1 l2 : Addr) : Heap := (zk1 c1 h l1).push { cls := .type c2, data := .fields #[.ref l2, .int 0 0] }
abbrev zk3 (c1 c2 : String) (h : Heap) (l1 l2 : Addr) : Heap := (zk2 c1 c2 h l1 l2).push { cls := .type "tuple", data := .seq #[.ref h.objs.size, .ref (zk1 c1 h l1).objs.size] }
abbrev zk4 (c1 c2 : String) (h : Heap) (l1 l2 : Addr) : Heap := (zk3 c1 c2 h l1 l2).push { cls := .type "tuple", data := .seq #[.none, .none] }
abbrev zk5 (c1 c2 : String) (h : Heap) (l1 l2 : Addr) : Heap := (zk4 c1 c2 h l1 l2).push { cls := .type "zip", data := .fields #[.none, .bool false, .bool false, .ref (zk2 c1 c2 h l1 l2).objs.size, .ref (zk3 c1 c2 h l1 l2).objs.size] }
/-- what zip.__new__ makes -/
def NewK (c1 c2 : String) (G : Heap → Prop) (l1 l2 : Addr) : Prop :=
  Meets (Builtin.«zip.__new__» ⟨[.type "zip", .ref l1, .ref l2], []⟩) fun _ R s => G s.heap ∧ R (.ok (.ret (.ref (zk4 c1 c2 s.heap l1 l2).objs.size))) { s with heap := zk5 c1 c2 s.heap l1 l2 }
theorem new_lt (l1 l2 : Addr) (xs ys : Array Value) : NewK "list_iterator" "tuple_iterator" (fun h => h.IsList l1 xs ∧ h.IsTuple l2 ys) l1 l2 :=
  .of_wp fun prog w A R s h => by
    obtain ⟨hp, g, d, tk, os⟩ := s
    obtain ⟨⟨q1, q2⟩, h⟩ := h
    have hsub := sub_zip
    have a1 : Heap.IsList (Shared.heap ⟨hp, g, d, tk, os⟩) l1 xs := q1
    have a2 : Heap.IsTuple (Shared.heap ⟨zk1 "list_iterator" hp l1, g, d, tk, os⟩) l2 ys := Heap.IsTuple.push q2 _
    wp_walk using wpAny_pyIter_list a1, wpAny_pyIter_tuple a2
    exact ⟨_, rfl, h⟩
theorem new_tl (l1 l2 : Addr) (xs ys : Array Value) : NewK "tuple_iterator" "list_iterator" (fun h => h.IsTuple l1 xs ∧ h.IsList l2 ys) l1 l2 :=
  .of_wp fun prog w A R s h => by
    obtain ⟨hp, g, d, tk, os⟩ := s
    obtain ⟨⟨q1, q2⟩, h⟩ := h
    have hsub := sub_zip
    have a1 : Heap.IsTuple (Shared.heap ⟨hp, g, d, tk, os⟩) l1 xs := q1
    have a2 : Heap.IsList (Shared.heap ⟨zk1 "tuple_iterator" hp l1, g, d, tk, os⟩) l2 ys := Heap.IsList.push q2 _
    wp_walk using wpAny_pyIter_tuple a1, wpAny_pyIter_list a2
    exact ⟨_, rfl, h⟩
end
section
variable {prog : Program} {w : World} {A : Around} {E : Value → Shared → Prop} {s : Shared}
/-- what stands behind a call of zip -/
structure ZipMade (k1 k2 : Bool) (h h' : Heap) (l1 l2 : Addr) : Prop where
  z : IsZip h' (h.objs.size + 4) (h.objs.size + 2) (h.objs.size + 3) .none
  i : IsTupOf2 h' (h.objs.size + 2) (.ref h.objs.size) (.ref (h.objs.size + 1))
  o : IsTupOf2 h' (h.objs.size + 3) .none .none
  i1 : kIter k1 h' h.objs.size l1 0
  i2 : kIter k2 h' (h.objs.size + 1) l2 0
  keep : ∀ c o, h.get? c = some o → h'.get? c = some o
theorem call_zk {k1 k2 : Bool} {G : Heap → Prop} {l1 l2 : Addr} {Q : Value → Shared → Prop} (M : NewK (kCls k1) (kCls k2) G l1 l2) (g : G s.heap)
    (h : ∀ h', ZipMade k1 k2 s.heap h' l1 l2 → Q (.ref (s.heap.objs.size + 4)) { s with heap := h' }) : wpAny (model prog w) A (call (.type "zip") [.ref l1, .ref l2]) Q E s := by
  have no : (some "zip.__new__" != some "object.__new__") = true := by decide
  have oi := fun obj => F.args_object_init_3 obj (.ref l1) (.ref l2)
  refine callType_new F.called_zip no (F.typeCall_zip_2 _ _) (F.newCall_zip_2 _ _) oi F.entry_zip_new M ⟨g, ?_⟩
  obtain ⟨n, en⟩ : ∃ n, n = s.heap.objs.size := ⟨_, rfl⟩
  have s1 : (zk1 (kCls k1) s.heap l1).objs.size = n + 1 := by rw [Heap.size_push, en]
  have s2 : (zk2 (kCls k1) (kCls k2) s.heap l1 l2).objs.size = n + 2 := by rw [Heap.size_push, s1]
  have s3 : (zk3 (kCls k1) (kCls k2) s.heap l1 l2).objs.size = n + 3 := by rw [Heap.size_push, s2]
  have s4 : (zk4 (kCls k1) (kCls k2) s.heap l1 l2).objs.size = n + 4 := by rw [Heap.size_push, s3]
  have up : ∀ {h0 : Heap} {o0 : Obj} {c : Addr} {o : Obj}, h0.get? c = some o → (h0.push o0).get? c = some o := fun e => Heap.get?_push_of_some _ e
  have b5 : (zk5 (kCls k1) (kCls k2) s.heap l1 l2).get? (zk4 (kCls k1) (kCls k2) s.heap l1 l2).objs.size = some _ := Heap.get?_push_size _ rfl
  have b4 : (zk5 (kCls k1) (kCls k2) s.heap l1 l2).get? (zk3 (kCls k1) (kCls k2) s.heap l1 l2).objs.size = some _ := up (Heap.get?_push_size _ rfl)
  have b3 : (zk5 (kCls k1) (kCls k2) s.heap l1 l2).get? (zk2 (kCls k1) (kCls k2) s.heap l1 l2).objs.size = some _ := up (up (Heap.get?_push_size _ rfl))
  have b2 : (zk5 (kCls k1) (kCls k2) s.heap l1 l2).get? (zk1 (kCls k1) s.heap l1).objs.size = some _ := up (up (up (Heap.get?_push_size _ rfl)))
  have b1 : (zk5 (kCls k1) (kCls k2) s.heap l1 l2).get? s.heap.objs.size = some _ := up (up (up (up (Heap.get?_push_size _ rfl))))
  show _ ∧ _
  rw [s2, s3, s4] at b5
  rw [s1, s2] at b3
  rw [s3] at b4
  rw [s1] at b2
  rw [s4]
  refine ⟨⟨_, b5, rfl⟩, ?_⟩
  rw [en] at b2 b3 b4 b5 ⊢
  exact h _ ⟨b5, b3, b4, ⟨_, b1, rfl, rfl⟩, ⟨_, b2, rfl, rfl⟩, fun c o e => up (up (up (up (up e))))⟩
end
/-- pairs of the items at a and at b -/
def ItK (k1 k2 : Bool) (K : PySem.W.Frag) (a b : Addr) : It where
  go := fun i H => ∃ (xs ys : List V) (x y : V), (kSq k1 K H a xs ∧ kSq k2 K H b ys) ∧ xs[i]? = some x ∧ ys[i]? = some y
  yld := fun i H v H' => ∃ (T : Addr) (x y : V), (v = .ref T ∧ H T = none ∧ ∃ o : Obj, o.dict = none ∧ H' = upd H T (.frz o (.tup [x, y]))) ∧ (∀ xs, kSq k1 K H a xs → xs[i]? = some x) ∧ (∀ ys, kSq k2 K H b ys → ys[i]? = some y)
  stop := fun i H => ∃ xs ys : List V, (kSq k1 K H a xs ∧ kSq k2 K H b ys) ∧ (i = xs.length ∧ i ≤ ys.length ∨ i = ys.length ∧ i ≤ xs.length)
section
variable {P : Program} {w : World} {K : PySem.W.Frag}
theorem inv_k {X : Cx} {pins : List (Addr × Obj)} {σ : L2.St} {H : Hp} {s : Shared} {k : Bool} {a : Addr} {xs : List V} (I : Inv X pins σ H s) (h : kSq k X.K H a xs) : ∃ its : List Value, Vals xs its ∧ kSeq k s.heap a its.toArray ∧ a < s.heap.objs.size := by
  cases k with
  | true =>
    obtain ⟨its, r, p, _⟩ := I.list h
    exact ⟨its, r, p.isList, p.lt⟩
  | false =>
    obtain ⟨its, r, p, _⟩ := I.tuple h
    obtain ⟨o, e, _⟩ := id p
    exact ⟨its, r, p, Heap.lt_size e⟩
theorem inj_k {X : Cx} {pins : List (Addr × Obj)} {σ : L2.St} {H : Hp} {s : Shared} {k : Bool} {a : Addr} {xs ys : List V} (I : Inv X pins σ H s) (h : kSq k X.K H a xs) (h2 : kSq k X.K H a ys) : xs = ys := by
  cases k with
  | true => exact I.list_inj h h2
  | false => exact I.tuple_inj h h2
theorem sep_k {z TI TO i1 i2 a b : Addr} (D : ZipApart z TI TO i1 i2 a b) : ZipSep2 z TI TO i1 i2 [i1, a] [i2, b] where
  TIz := D.TIz
  TOz := D.TOz
  TITO := D.TITO
  TIi1 := D.TIi1
  mem1 := by simp
  zf1 := by simp [D.i1z.symm, D.l1z.symm]
  Tf1 := by simp [D.TOi1, D.l1TO.symm]
  TIi2 := D.TIi2
  mem2 := by simp
  zf2 := by simp [D.i2z.symm, D.l2z.symm]
  Tf2 := by simp [D.TOi2, D.l2TO.symm]
  sep1_2 := by simp [D.i12, D.l2i1.symm]
  sep2_1 := by simp [D.i12.symm, D.l1i2.symm]
theorem turn_k {k1 k2 : Bool} {elts : List Expr} {kk : Nat} {tpos : Pos} {a b z TI TO i1 i2 : Addr} (D : ZipApart z TI TO i1 i2 a b) :
    Turn P w K (.Tuple elts kk tpos) (ItK k1 k2 K a b) [z, TI, TO, i1, i2] z fun i h => (IsZip h z TI TO .none ∧ IsTupOf2 h TI (.ref i1) (.ref i2) ∧ ∃ x y, IsTupOf2 h TO x y) ∧ kIter k1 h i1 a i ∧ kIter k2 h i2 b i := by
  have keepI : ∀ {k : Bool} {h h' : Heap} {it l : Addr} {i : Nat}, kIter k h it l i → (∀ o, h.get? it = some o → h'.get? it = some o) → kIter k h' it l i := fun st q => by
    obtain ⟨o, e, c⟩ := st
    exact ⟨o, q o e, c⟩
  refine ⟨by simp, ?_, ?_, ?_, ?_, fun A i s Q E st h => wpAny_pyIter_zip st.1.1 h⟩
  · rintro i h ⟨⟨hz, ht, x, y, ho⟩, ⟨o1, g1, _, d1⟩, o2, g2, _, d2⟩ c hc
    simp only [List.mem_cons, List.not_mem_nil, or_false] at hc
    rcases hc with rfl | rfl | rfl | rfl | rfl
    · exact ⟨_, hz, fun v q => nomatch q⟩
    · exact ⟨_, ht, fun v q => nomatch q⟩
    · exact ⟨_, ho, fun v q => nomatch q⟩
    · exact ⟨o1, g1, fun v q => by rw [d1] at q; exact nomatch q⟩
    · exact ⟨o2, g2, fun v q => by rw [d2] at q; exact nomatch q⟩
  · rintro i h h' ⟨⟨hz, ht, x, y, ho⟩, j1, j2⟩ q
    exact ⟨⟨q z (by simp) _ hz, q TI (by simp) _ ht, x, y, q TO (by simp) _ ho⟩, keepI j1 (q i1 (by simp)), keepI j2 (q i2 (by simp))⟩
  · intro X hP hw hK hc i pins s σ H E I hf st hg
    subst hP hw hK
    obtain ⟨⟨hz, ht, x0, y0, ho⟩, j1, j2⟩ := st
    obtain ⟨xs, ys, x, y, ⟨hx, hy⟩, ex, ey⟩ := hg
    obtain ⟨its, rv, p1, _⟩ := inv_k I hx
    obtain ⟨its2, rv2, p2, _⟩ := inv_k I hy
    obtain ⟨u, hu, ru⟩ := rv.get ex
    obtain ⟨u2, hu2, ru2⟩ := rv2.get ey
    have hh : X.A.in1.handled = none := I.ok.hd hc
    have d1 := draws_k (prog := X.prog) (w := X.w) (k := k1) hh D.l1i1 its.toArray
    have d2 := draws_k (prog := X.prog) (w := X.w) (k := k2) hh D.l2i2 its2.toArray
    have n1 : i < its.toArray.size := by have := (List.getElem?_eq_some_iff.mp hu).1; simpa using this
    have n2 : i < its2.toArray.size := by have := (List.getElem?_eq_some_iff.mp hu2).1; simpa using this
    have zl : z < s.heap.objs.size := Heap.lt_size hz
    refine wpAny_pyNext_zipD2_item (sep_k D) d1 d2 hz ht ho ⟨j1, p1⟩ ⟨j2, p2⟩ n1 n2 ?_
    intro v1 v2 h' tk e1 e2 z' o' q1 q2 hT hsz hk
    have e1 : u = v1 := by simpa [hu] using e1
    have e2 : u2 = v2 := by simpa [hu2] using e2
    subst e1 e2
    refine ⟨_, rfl, wpAny_letOwnedTupleGo_zip (s := { s with heap := h', toks := tk }) z' ?_⟩
    intro h'' z'' sb
    have T2 := (sb.2 _ (Nat.ne_of_gt zl)).trans hT
    have nw : ObjOk X.prog X.w (upd H s.heap.objs.size (.frz { cls := .type "tuple", data := .seq #[u, u2] } (.tup [x, y]))) h'' s.heap.objs.size (.frz { cls := .type "tuple", data := .seq #[u, u2] } (.tup [x, y])) := by
      refine ⟨T2, ?_, [u, u2], .cons ru (.cons ru2 .nil), _, T2, rfl, _, rfl⟩
      show 2 ≤ sizeLine
      decide
    have other : ∀ (c : Addr) (o : Obj), c ∉ [z, TI, TO, i1, i2] → s.heap.get? c = some o → h''.get? c = some o := fun c o hb q => by
      simp only [List.mem_cons, List.not_mem_nil, or_false, not_or] at hb
      exact (sb.2 c hb.1).trans (hk c o hb.1 hb.2.2.1 hb.2.2.2.1 hb.2.2.2.2 q)
    have I1 : Inv X pins σ (upd H s.heap.objs.size (.frz { cls := .type "tuple", data := .seq #[u, u2] } (.tup [x, y]))) { s with heap := h'', toks := tk } := I.turnedNew (t' := tk) (ch := [z, TI, TO, i1, i2]) other hf (Nat.le_refl _) nw
    refine ⟨.ref s.heap.objs.size, _, I1, rfl, ⟨_, x, y, ⟨rfl, I.hok.fresh (Nat.le_refl _), _, rfl, rfl⟩, fun l hl => by rw [inj_k I hl hx]; exact ex, fun l hl => by rw [inj_k I hl hy]; exact ey⟩, ⟨⟨z'', ?_, u, u2, ?_⟩, ?_, ?_⟩, ?_⟩
    · exact (sb.2 _ D.TIz).trans (hk _ _ D.TIz D.TITO D.TIi1 D.TIi2 ht)
    · exact (sb.2 _ D.TOz).trans o'
    · exact keepI q1.1 fun o e => (sb.2 _ D.i1z).trans e
    · exact keepI q2.1 fun o e => (sb.2 _ D.i2z).trans e
    · intro c hm
      have lt : c < s.heap.objs.size := by
        obtain ⟨o1, g1, _⟩ := j1
        obtain ⟨o2, g2, _⟩ := j2
        have hm := hm
        simp only [List.mem_cons, List.not_mem_nil, or_false] at hm
        rcases hm with rfl | rfl | rfl | rfl | rfl
        · exact zl
        · exact Heap.lt_size ht
        · exact Heap.lt_size ho
        · exact Heap.lt_size g1
        · exact Heap.lt_size g2
      rw [upd_ne (Nat.ne_of_lt lt)]
      exact (hf c hm).1
  · intro X hP hw hK hc i pins s σ H E I hf st hg
    subst hP hw hK
    obtain ⟨⟨hz, ht, x0, y0, ho⟩, j1, j2⟩ := st
    obtain ⟨xs, ys, ⟨hx, hy⟩, he⟩ := hg
    obtain ⟨its, rv, p1, _⟩ := inv_k I hx
    obtain ⟨its2, rv2, p2, _⟩ := inv_k I hy
    have m1 := rv.length
    have m2 := rv2.length
    have hh : X.A.in1.handled = none := I.ok.hd hc
    have d1 := draws_k (prog := X.prog) (w := X.w) (k := k1) hh D.l1i1 its.toArray
    have d2 := draws_k (prog := X.prog) (w := X.w) (k := k2) hh D.l2i2 its2.toArray
    refine wpAny_pyNext_zipD2_end (sep_k D) d1 d2 hz ht ho ⟨j1, p1⟩ ⟨j2, p2⟩ (by simp; omega) (by simp; omega) (by simp; omega) ?_
    intro h' tk hk
    refine ⟨rfl, I.turnedL (t' := tk) (ch := [z, TI, TO, i1, i2]) ?_ hf⟩
    intro c o hb q
    simp only [List.mem_cons, List.not_mem_nil, or_false, not_or] at hb
    exact hk c o hb.1 hb.2.2.1 hb.2.2.2.1 hb.2.2.2.2 q
end
section
variable {prog : Program} {w : World} {A : Around} {E : Value → Shared → Prop} {s : Shared}
theorem new_ll (l1 l2 : Addr) (xs ys : Array Value) : NewK "list_iterator" "list_iterator" (fun h => h.IsList l1 xs ∧ h.IsList l2 ys) l1 l2 :=
  .of_wp fun prog w A R s h => by
    obtain ⟨hp, g, d, tk, os⟩ := s
    obtain ⟨⟨q1, q2⟩, h⟩ := h
    have hsub := sub_zip
    have a1 : Heap.IsList (Shared.heap ⟨hp, g, d, tk, os⟩) l1 xs := q1
    have a2 : Heap.IsList (Shared.heap ⟨zk1 "list_iterator" hp l1, g, d, tk, os⟩) l2 ys := Heap.IsList.push q2 _
    wp_walk using wpAny_pyIter_list a1, wpAny_pyIter_list a2
    exact ⟨_, rfl, h⟩
theorem new_tt (l1 l2 : Addr) (xs ys : Array Value) : NewK "tuple_iterator" "tuple_iterator" (fun h => h.IsTuple l1 xs ∧ h.IsTuple l2 ys) l1 l2 :=
  .of_wp fun prog w A R s h => by
    obtain ⟨hp, g, d, tk, os⟩ := s
    obtain ⟨⟨q1, q2⟩, h⟩ := h
    have hsub := sub_zip
    have a1 : Heap.IsTuple (Shared.heap ⟨hp, g, d, tk, os⟩) l1 xs := q1
    have a2 : Heap.IsTuple (Shared.heap ⟨zk1 "tuple_iterator" hp l1, g, d, tk, os⟩) l2 ys := Heap.IsTuple.push q2 _
    wp_walk using wpAny_pyIter_tuple a1, wpAny_pyIter_tuple a2
    exact ⟨_, rfl, h⟩
theorem new_k (k1 k2 : Bool) (l1 l2 : Addr) (xs ys : Array Value) : NewK (kCls k1) (kCls k2) (fun h => kSeq k1 h l1 xs ∧ kSeq k2 h l2 ys) l1 l2 := by
  cases k1 <;> cases k2
  · exact new_tt l1 l2 xs ys
  · exact new_tl l1 l2 xs ys
  · exact new_lt l1 l2 xs ys
  · exact new_ll l1 l2 xs ys
end
def iZk (K : PySem.W.Frag) (ta : TA) : TI := fun σ H R => ta σ H fun vs H1 => ∃ (a b : Addr) (k1 k2 : Bool) (xs ys : List V), vs = [.ref a, .ref b] ∧ (kSq k1 K H1 a xs ∧ kSq k2 K H1 b ys) ∧ R (ItK k1 k2 K a b) H1
theorem pi_zk {X : Cx} {e e2 : Expr} {ta : TA} {p pos tpos : Pos} {elts : List Expr} {kk : Nat} (hg : Gl X "zip") (hm : X.mg "zip" = none) (ha : PA X [e, e2] ta)
    (hs : starEach [e, e2] X.env = (false, eval e X.env) :: starEach [e2] X.env := by rfl)
    (hpl : (backTo pos (starEach [e2] X.env)).any (·.1) = false := by rfl) : PI X (.Tuple elts kk tpos) (.Call (.Name "zip" p) [e, e2] [] pos) (iZk X.K ta) := by
  refine ⟨?_⟩
  intro pins s σ H R I h
  refine Call_ (ld_blt I hg hm PyProof.Rows.boot_zip ?_)
  refine PyProof.Rows.callWith_type1 (thn (ha.run pos pins s σ H _ I h) ?_) hs hpl
  rintro us s1 ⟨vs, H1, I1, r1, a, b, k1, k2, xs, ys, rfl, ⟨hx, hy⟩, q⟩
  cases r1 with
  | cons r rr =>
  cases rr with
  | cons r' rr =>
  cases rr
  cases r
  cases r'
  obtain ⟨its, rv, p1, la⟩ := inv_k I1 hx
  obtain ⟨its2, rv2, p2, lb⟩ := inv_k I1 hy
  refine call_zk (new_k k1 k2 a b its.toArray its2.toArray) ⟨p1, p2⟩ ?_
  intro h' Z
  refine wpAny_pyIter_zip Z.z ?_
  have I2 : Inv X pins σ H1 { s1 with heap := h' } := I1.kept (t' := s1.toks) Z.keep
  obtain ⟨n, en⟩ : ∃ n, n = s1.heap.objs.size := ⟨_, rfl⟩
  have T := turn_k (P := X.prog) (w := X.w) (K := X.K) (k1 := k1) (k2 := k2) (elts := elts) (kk := kk) (tpos := tpos) (PySem.W.ktu_apart s1.heap.objs.size a b la lb)
  refine ⟨s1.heap.objs.size + 4, _, _, _, H1, rfl, I2, T, ⟨⟨Z.z, Z.i, _, _, Z.o⟩, Z.i1, Z.i2⟩, ?_, q⟩
  intro c hm
  simp only [List.mem_cons, List.not_mem_nil, or_false] at hm
  have le : s1.heap.objs.size ≤ c := by
    rcases hm with rfl | rfl | rfl | rfl | rfl
    · exact Nat.le_add_right _ _
    · exact Nat.le_add_right _ _
    · exact Nat.le_add_right _ _
    · exact Nat.le_refl _
    · exact Nat.le_add_right _ _
  exact I1.fpOk le (I1.hok.fresh le)
theorem zipD_at {xs ys : List D} {i : Nat} {d : D} (h : (zipD xs ys)[i]? = some d) : ∃ x y, xs[i]? = some x ∧ ys[i]? = some y ∧ d = .tup [x, y] := by
  unfold zipD at h
  rw [List.getElem?_map] at h
  cases hz : (List.zip xs ys)[i]? with
  | none =>
    rw [hz] at h
    cases h
  | some q =>
    rw [hz] at h
    cases h
    obtain ⟨h1, h2⟩ := List.getElem?_zip_eq_some.mp hz
    exact ⟨_, _, h1, h2, rfl⟩
theorem zipD_len (xs ys : List D) : (zipD xs ys).length = min xs.length ys.length := by
  unfold zipD
  rw [List.length_map, List.length_zip]
theorem j_zk {K : KW} {m0 : List Addr} {H0 : Hp} {k1 k2 : Bool} {a b : Addr} {q : Sq} {xs ys : List D} (hi : q.items = zipD xs ys)
    (h : ∀ (m : List Addr) (H : Hp) (st : Store), Ext K m0 H0 m H → SS K m st H → q.chk st = true → ∃ vs us, (kSq k1 K H a vs ∧ kSq k2 K H b us) ∧ RDs K m H xs vs ∧ RDs K m H ys us) : JOk K m0 H0 q (ItK k1 k2 K a b) := by
  intro m H st e s hc
  obtain ⟨vs, us, ⟨q1, q2⟩, r1, r2⟩ := h m H st e s hc
  refine ⟨?_, vs, us, ⟨q1, q2⟩, ?_⟩
  · intro i d hd
    rw [hi] at hd
    obtain ⟨x, y, hx, hy, rfl⟩ := zipD_at hd
    obtain ⟨v, hv, rv⟩ := r1.get hx
    obtain ⟨u, hu, ru⟩ := r2.get hy
    refine ⟨⟨vs, us, v, u, ⟨q1, q2⟩, hv, hu⟩, ?_⟩
    rintro z H' ⟨T, v', u', ⟨rfl, hT, ob, hob, rfl⟩, g1, g2⟩
    have z1 := g1 vs q1
    have z2 := g2 us q2
    rw [hv] at z1
    rw [hu] at z2
    cases z1
    cases z2
    have f := Ext.fresh (K := K) (m := m) (H := H) (o := .frz ob (.tup [v, u])) hT
    exact ⟨f, s.fresh hT, .tup (PlT.of hob) (.cons (rv.mono f) (.cons (ru.mono f) .nil))⟩
  · rw [hi, zipD_len, r1.len, r2.len]
    omega
end HM

/-! HM, part 13: max and min of tuples, index. -/
namespace HM
open PySem PySem.Spec PyProof.Rows L2
section
variable {prog : Program} {w : World} {A : Around} {E : Value → Shared → Prop} {s : Shared}
/-- the greatest of a tuple's ints -/
theorem tup_max {t : Addr} {xs : Array (Int × Tok)} {Q : Value → Shared → Prop} (hh : A.handled = none) (ht : s.heap.IsTuple t (intItems xs)) (hne : 0 < xs.size)
    (h : ∀ v h' tk, (intItems xs)[argBest (fun i j => decide (numAt xs i > numAt xs j)) (xs.size - 1)]? = some v → (∀ b o, s.heap.get? b = some o → h'.get? b = some o) → Q v { s with heap := h', toks := tk }) :
    wpAny (model prog w) A (call (.builtin "max") [.ref t]) Q E s := by
  obtain ⟨ob, o1, _, _, _⟩ := id ht
  have sz : (intItems xs).size = xs.size := by simp [intItems]
  refine call_max_walk (wpAny_pyIter_tuple ht ?_)
  refine ⟨_, [_, t], [_], _, _, _, _, rfl, Walks.tuple (A := A.in1) hh s.heap.objs.size t (Nat.ne_of_lt (Heap.lt_size o1)) (intItems xs), ⟨⟨_, Heap.get?_push_size _ rfl, rfl, rfl⟩, ht.push _⟩, fun b hb => ?_, by omega, CmpOf.ints_gt (numAt xs) (fun _ _ => intItems_at), fun v h' tk hP hk => ?_⟩
  · rcases List.mem_cons.mp hb with rfl | hb
    · exact Heap.lt_size (Heap.get?_push_size _ rfl)
    · rw [List.mem_singleton.mp hb]
      exact Heap.lt_size (Heap.get?_push_of_some _ o1)
  · rw [sz] at hP
    exact h v h' tk hP fun b o e => hk b o (fun hm => absurd (Heap.lt_size e) (by rw [List.mem_singleton.mp hm]; exact Nat.lt_irrefl _)) (Heap.get?_push_of_some _ e)
theorem tup_min {t : Addr} {xs : Array (Int × Tok)} {Q : Value → Shared → Prop} (hh : A.handled = none) (ht : s.heap.IsTuple t (intItems xs)) (hne : 0 < xs.size)
    (h : ∀ v h' tk, (intItems xs)[argBest (fun i j => decide (numAt xs i < numAt xs j)) (xs.size - 1)]? = some v → (∀ b o, s.heap.get? b = some o → h'.get? b = some o) → Q v { s with heap := h', toks := tk }) :
    wpAny (model prog w) A (call (.builtin "min") [.ref t]) Q E s := by
  obtain ⟨ob, o1, _, _, _⟩ := id ht
  have sz : (intItems xs).size = xs.size := by simp [intItems]
  refine call_min_walk (wpAny_pyIter_tuple ht ?_)
  refine ⟨_, [_, t], [_], _, _, _, _, rfl, Walks.tuple (A := A.in1) hh s.heap.objs.size t (Nat.ne_of_lt (Heap.lt_size o1)) (intItems xs), ⟨⟨_, Heap.get?_push_size _ rfl, rfl, rfl⟩, ht.push _⟩, fun b hb => ?_, by omega, CmpOf.ints_lt (numAt xs) (fun _ _ => intItems_at), fun v h' tk hP hk => ?_⟩
  · rcases List.mem_cons.mp hb with rfl | hb
    · exact Heap.lt_size (Heap.get?_push_size _ rfl)
    · rw [List.mem_singleton.mp hb]
      exact Heap.lt_size (Heap.get?_push_of_some _ o1)
  · rw [sz] at hP
    exact h v h' tk hP fun b o e => hk b o (fun hm => absurd (Heap.lt_size e) (by rw [List.mem_singleton.mp hm]; exact Nat.lt_irrefl _)) (Heap.get?_push_of_some _ e)
end
section
variable {X : Cx} {W : WX} {e : Expr} {pos p : Pos}
def rMaxT (K : PySem.W.Frag) : List V → Hp → VK → Prop := fun vs H Q => ∃ (a : Addr) (ns : List Int), vs = [V.ref a] ∧ SqT K H a (ns.map V.int) ∧ 0 < ns.length ∧ ∀ m, m ∈ ns → (∀ y, y ∈ ns → y ≤ m) → Q (.int m) H
def rMinT (K : PySem.W.Frag) : List V → Hp → VK → Prop := fun vs H Q => ∃ (a : Addr) (ns : List Int), vs = [V.ref a] ∧ SqT K H a (ns.map V.int) ∧ 0 < ns.length ∧ ∀ m, m ∈ ns → (∀ y, y ∈ ns → m ≤ y) → Q (.int m) H
theorem cr_maxT (hc : X.calm = true) : CallR X (.builtin "max") (rMaxT X.K) := by
  intro pins s σ H vs us Q I r h
  obtain ⟨a, ns, rfl, hs, hne, q⟩ := h
  obtain ⟨its, rv, hl, _⟩ := I.tuple hs
  rw [Vals.ref1 r]
  have hi := rv.ints
  obtain ⟨xs, e⟩ := hi.allInts.items
  have hn : numsOf (intItems xs).toList = ns := by rw [← e]; exact hi.numsOf
  rw [nums_intItems] at hn
  subst hn
  obtain ⟨ob, ho, hcl, n, hd⟩ := hl
  have ht : s.heap.IsTuple a (intItems xs) := by
    rw [← e]
    exact ⟨ob, ho, hcl, n, hd⟩
  have hsz : 0 < xs.size := by simpa using hne
  refine tup_max (I.ok.hd hc) ht hsz fun v h' tk hv hk => ?_
  obtain ⟨t, rfl⟩ := intItems_at hv
  obtain ⟨h1, h2⟩ := argBest_gt (numAt xs) (xs.size - 1)
  refine ⟨.int _, H, I.kept hk, ⟨_, rfl⟩, q _ ?_ fun y hy => ?_⟩
  · rw [numAt_eq]
    exact PySem.getD_mem (by rw [List.length_map, Array.length_toList]; omega)
  · obtain ⟨j, hj, rfl⟩ := mem_getD hy
    rw [List.length_map, Array.length_toList] at hj
    rw [← numAt_eq]
    exact h2 j (by omega)
theorem cr_minT (hc : X.calm = true) : CallR X (.builtin "min") (rMinT X.K) := by
  intro pins s σ H vs us Q I r h
  obtain ⟨a, ns, rfl, hs, hne, q⟩ := h
  obtain ⟨its, rv, hl, _⟩ := I.tuple hs
  rw [Vals.ref1 r]
  have hi := rv.ints
  obtain ⟨xs, e⟩ := hi.allInts.items
  have hn : numsOf (intItems xs).toList = ns := by rw [← e]; exact hi.numsOf
  rw [nums_intItems] at hn
  subst hn
  obtain ⟨ob, ho, hcl, n, hd⟩ := hl
  have ht : s.heap.IsTuple a (intItems xs) := by
    rw [← e]
    exact ⟨ob, ho, hcl, n, hd⟩
  have hsz : 0 < xs.size := by simpa using hne
  refine tup_min (I.ok.hd hc) ht hsz fun v h' tk hv hk => ?_
  obtain ⟨t, rfl⟩ := intItems_at hv
  obtain ⟨h1, h2⟩ := argBest_lt (numAt xs) (xs.size - 1)
  refine ⟨.int _, H, I.kept hk, ⟨_, rfl⟩, q _ ?_ fun y hy => ?_⟩
  · rw [numAt_eq]
    exact PySem.getD_mem (by rw [List.length_map, Array.length_toList]; omega)
  · obtain ⟨j, hj, rfl⟩ := mem_getD hy
    rw [List.length_map, Array.length_toList] at hj
    rw [← numAt_eq]
    exact h2 j (by omega)
theorem max_uniq {ns : List Int} {k m : Int} (hk : maxI ns = some k) (hm : m ∈ ns) (hy : ∀ y ∈ ns, y ≤ m) : m = k := by
  cases ns with
  | nil => cases hk
  | cons n ns =>
    have hk : some (ns.foldl max n) = some k := hk
    cases hk
    obtain ⟨h1, h2, h3⟩ := foldl_max_ge ns n
    refine Int.le_antisymm ?_ ?_
    · rcases List.mem_cons.mp hm with rfl | hm
      · exact h1
      · exact h2 m hm
    · rcases h3 with h3 | h3
      · rw [h3]
        exact hy n (List.mem_cons_self ..)
      · exact hy _ (List.mem_cons_of_mem _ h3)
theorem min_uniq {ns : List Int} {k m : Int} (hk : minI ns = some k) (hm : m ∈ ns) (hy : ∀ y ∈ ns, m ≤ y) : m = k := by
  cases ns with
  | nil => cases hk
  | cons n ns =>
    have hk : some (ns.foldl min n) = some k := hk
    cases hk
    obtain ⟨h1, h2, h3⟩ := foldl_min_le ns n
    refine Int.le_antisymm ?_ ?_
    · rcases h3 with h3 | h3
      · rw [h3]
        exact hy n (List.mem_cons_self ..)
      · exact hy _ (List.mem_cons_of_mem _ h3)
    · rcases List.mem_cons.mp hm with rfl | hm
      · exact h1
      · exact h2 m hm
theorem maxI_pos {ns : List Int} {k : Int} (hk : maxI ns = some k) : 0 < ns.length := by
  cases ns with
  | nil => cases hk
  | cons n ns => simp
theorem minI_pos {ns : List Int} {k : Int} (hk : minI ns = some k) : 0 < ns.length := by
  cases ns with
  | nil => cases hk
  | cons n ns => simp
theorem sv_max (hc : X.calm = true) : CallS X (.builtin "max") gMax := ⟨_, (cr_max hc).or (cr_maxT hc), fun m st H ds v E Q hS r hP => by
  obtain ⟨a, vs, rfl, q, rs⟩ := r
  unfold gMax at hP
  split at hP
  · rename_i k hk
    cases hn : intsD ds with
    | none =>
      rw [hn] at hk
      cases hk
    | some ns =>
      rw [hn] at hk
      have hk : maxI ns = some k := hk
      have e := intsD_V rs hn
      subst e
      have fin : ∀ mm, mm ∈ ns → (∀ y, y ∈ ns → y ≤ mm) → Q (.int mm) H := fun mm hm hy => by
        rw [max_uniq hk hm hy]
        exact hP.now hS (.int _)
      rcases q with q | q
      · exact .inl ⟨a, ns, rfl, q, maxI_pos hk, fin⟩
      · exact .inr ⟨a, ns, rfl, q.sq, maxI_pos hk, fin⟩
  · exact hP.elim⟩
theorem sv_min (hc : X.calm = true) : CallS X (.builtin "min") gMin := ⟨_, (cr_min hc).or (cr_minT hc), fun m st H ds v E Q hS r hP => by
  obtain ⟨a, vs, rfl, q, rs⟩ := r
  unfold gMin at hP
  split at hP
  · rename_i k hk
    cases hn : intsD ds with
    | none =>
      rw [hn] at hk
      cases hk
    | some ns =>
      rw [hn] at hk
      have hk : minI ns = some k := hk
      have e := intsD_V rs hn
      subst e
      have fin : ∀ mm, mm ∈ ns → (∀ y, y ∈ ns → mm ≤ y) → Q (.int mm) H := fun mm hm hy => by
        rw [min_uniq hk hm hy]
        exact hP.now hS (.int _)
      rcases q with q | q
      · exact .inl ⟨a, ns, rfl, q, minI_pos hk, fin⟩
      · exact .inr ⟨a, ns, rfl, q.sq, minI_pos hk, fin⟩
  · exact hP.elim⟩
end
/-! ### tuple(range(..)), list(range(..)) -/
section
variable {X : Cx} {W : WX} {e a b : Expr} {pos p p2 : Pos} {fa fb : EM D}
def okLen (j : Int) : Bool := decide (j.toNat ≤ 16777216) && decide (0 ≤ j)
theorem rng_rds {K : PySem.W.Frag} {m : List Addr} {H : Hp} {i j : Int} : RDs K m H (rng i j) (rgV i j) := by
  have e1 : rng i j = ((List.range (j - i).toNat).map fun k : Nat => i + (k : Int)).map D.int := by
    unfold rng
    rw [List.map_map]
    rfl
  have e2 : rgV i j = ((List.range (j - i).toNat).map fun k : Nat => i + (k : Int)).map V.int := by
    unfold rgV
    rw [List.map_map]
    rfl
  rw [e1, e2]
  exact RDs.ints _
theorem rg_ok {i j : Int} (hi : okLen i = true) (hj : okLen j = true) : RgOk i j := by
  unfold okLen at hi hj
  rw [Bool.and_eq_true, decide_eq_true_eq, decide_eq_true_eq] at hi hj
  exact RgOk.of_le hi.2 (by omega) (by omega) hj.2
def kTup (i j : Int) (st : Store) : ER D := if okLen i && okLen j then .ok (.tup (rng i j)) st else .bad
def kLst (i j : Int) (st : Store) : ER D := if okLen i && okLen j then .ok (.ref st.length) (st ++ [.lst (rng i j)]) else .bad
def eRg1 (k : Int → Int → Store → ER D) (fa : EM D) : EM D := fun τ st => (fa τ st).bind fun d s1 => match d with
  | .int j => k 0 j s1
  | _ => .bad
def eRg2 (k : Int → Int → Store → ER D) (fa fb : EM D) : EM D := fun τ st => (fa τ st).bind fun d s1 => (fb τ s1).bind fun e s2 => match d, e with
  | .int i, .int j => k i j s2
  | _, _ => .bad
theorem kTup_ok {K : KW} {E : XK} {m : List Addr} {st : Store} {H : Hp} {Q : VK} {i j : Int} (hS : SS K m st H) (hP : Pe K E (RD K) m H (kTup i j st) Q) : RgOk i j ∧ TNew Q H (rgV i j) := by
  unfold kTup at hP
  split at hP
  · rename_i hc
    rw [Bool.and_eq_true] at hc
    exact ⟨rg_ok hc.1 hc.2, hP.tup hS rng_rds⟩
  · exact hP.elim
theorem kLst_ok {K : KW} {E : XK} {m : List Addr} {st : Store} {H : Hp} {Q : VK} {i j : Int} (hS : SS K m st H) (hP : Pe K E (RD K) m H (kLst i j st) Q) : RgOk i j ∧ ∀ q, H q = none → Q (.ref q) (upd H q (.lst (rgV i j))) := by
  unfold kLst at hP
  split at hP
  · rename_i hc
    rw [Bool.and_eq_true] at hc
    exact ⟨rg_ok hc.1 hc.2, hP.lst hS rng_rds⟩
  · exact hP.elim
theorem ex_tupRg1 (hc : X.calm = true) (hg : Gl X "tuple") (hm : X.mg "tuple" = none) (hg2 : Gl X "range") (hm2 : X.mg "range" = none) (ha : Ex X W a fa) (na : starEach [.Call (.Name "range" p2) [a] [] pos] X.env = (false, eval (.Call (.Name "range" p2) [a] [] pos) X.env) :: starEach [] X.env := by rfl) (nb : starEach [a] X.env = (false, eval a X.env) :: starEach [] X.env := by rfl) {pos2 : Pos} :
    Ex X W (.Call (.Name "tuple" p) [.Call (.Name "range" p2) [a] [] pos] [] pos2) (eRg1 kTup fa) := by
  refine ⟨fun m τ st σ H Q hL hS hP pins s I => (pe_tupRgF hc hg hm (prg_1 hg2 hm2 peW nb) na).run pins s σ H Q I ?_⟩
  refine ha.run m τ st σ H _ hL hS (hP.bind fun d s1 m1 H1 v e1 hS1 r1 hP1 => ?_)
  split at hP1
  · cases r1
    exact ⟨_, rfl, kTup_ok hS1 hP1⟩
  · exact hP1.elim
theorem ex_lstRg1 (hc : X.calm = true) (hg : Gl X "list") (hm : X.mg "list" = none) (hg2 : Gl X "range") (hm2 : X.mg "range" = none) (ha : Ex X W a fa) (na : starEach [.Call (.Name "range" p2) [a] [] pos] X.env = (false, eval (.Call (.Name "range" p2) [a] [] pos) X.env) :: starEach [] X.env := by rfl) (nb : starEach [a] X.env = (false, eval a X.env) :: starEach [] X.env := by rfl) {pos2 : Pos} :
    Ex X W (.Call (.Name "list" p) [.Call (.Name "range" p2) [a] [] pos] [] pos2) (eRg1 kLst fa) := by
  refine ⟨fun m τ st σ H Q hL hS hP pins s I => (pe_listRg hc hg hm (prg_1 hg2 hm2 peW nb) na).run pins s σ H Q I ?_⟩
  refine ha.run m τ st σ H _ hL hS (hP.bind fun d s1 m1 H1 v e1 hS1 r1 hP1 => ?_)
  split at hP1
  · cases r1
    exact ⟨_, rfl, kLst_ok hS1 hP1⟩
  · exact hP1.elim
end
/-! ### zip of two -/
section
variable {X : Cx} {W : WX} {a b : Expr} {pos p tpos : Pos} {fa fb : EM D}
def zip2 (d e : D) (st : Store) : ER Sq := match d, e with
  | .tup xs, .tup ys => .ok (.fix (zipD xs ys)) st
  | .ref n, .ref k => match lstAt st n, lstAt st k with
    | some xs, some ys => .ok (.two n k xs ys) st
    | _, _ => .bad
  | .ref n, .tup ys => match lstAt st n with
    | some xs => .ok (.mix true n xs ys) st
    | none => .bad
  | .tup xs, .ref n => match lstAt st n with
    | some ys => .ok (.mix false n xs ys) st
    | none => .bad
  | _, _ => .bad
def iZip (fa fb : EM D) : EM Sq := fun τ st => (fa τ st).bind fun d s1 => (fb τ s1).bind fun e s2 => zip2 d e s2
theorem ei_zip {elts : List Expr} {kk : Nat} (hg : Gl X "zip") (hm : X.mg "zip" = none) (ha : Ex X W a fa) (hb : Ex X W b fb)
    (hs : starEach [a, b] X.env = (false, eval a X.env) :: starEach [b] X.env := by rfl) (hs2 : starEach [b] X.env = (false, eval b X.env) :: starEach [] X.env := by rfl) (hpl : (backTo pos (starEach [b] X.env)).any (·.1) = false := by rfl) :
    Ei X W (.Tuple elts kk tpos) (.Call (.Name "zip" p) [a, b] [] pos) (iZip fa fb) := by
  refine ⟨fun m τ st σ H R hL hS hP pins s I => (pi_zk (elts := elts) (kk := kk) (tpos := tpos) hg hm (pa_cons peW (pa_cons peW pa_nil hs2) hs) hs hpl).run pins s σ H R I ?_⟩
  refine two ha hb hL hS hP fun m2 st2 H2 dx dy x y e2 hS2 r1 r2 hP2 => ?_
  unfold zip2 at hP2
  split at hP2
  · cases r1 with
    | tup q rs =>
      cases r2 with
      | tup q2 rs2 => exact ⟨_, _, false, false, _, _, rfl, ⟨q.sq, q2.sq⟩, hP2.now hS2 (j_zk rfl fun m H st e s _ => ⟨_, _, ⟨e.tup _ _ q.sq, e.tup _ _ q2.sq⟩, rs.mono e, rs2.mono e⟩)⟩
  · split at hP2
    · rename_i xs ys hx hy
      cases r1 with
      | ref q =>
        cases r2 with
        | ref q2 =>
          obtain ⟨vs, h1, _⟩ := hS2.list hx q
          obtain ⟨us, h2, _⟩ := hS2.list hy q2
          refine ⟨_, _, true, true, vs, us, rfl, ⟨SqL.of h1, SqL.of h2⟩, hP2.now hS2 (j_zk rfl fun m H st e s hc => ?_)⟩
          have hc : (decide (lstAt st _ = some xs) && decide (lstAt st _ = some ys)) = true := hc
          rw [Bool.and_eq_true, decide_eq_true_eq, decide_eq_true_eq] at hc
          obtain ⟨vs, h1, r1⟩ := s.list hc.1 (e.pre _ _ q)
          obtain ⟨us, h2, r2⟩ := s.list hc.2 (e.pre _ _ q2)
          exact ⟨vs, us, ⟨SqL.of h1, SqL.of h2⟩, r1, r2⟩
    · exact hP2.elim
  · split at hP2
    · rename_i xs hx
      cases r1 with
      | ref q =>
        cases r2 with
        | tup q2 rs2 =>
          obtain ⟨vs, h1, _⟩ := hS2.list hx q
          refine ⟨_, _, true, false, vs, _, rfl, ⟨SqL.of h1, q2.sq⟩, hP2.now hS2 (j_zk rfl fun m H st e s hc => ?_)⟩
          have hc : decide (lstAt st _ = some xs) = true := hc
          rw [decide_eq_true_eq] at hc
          obtain ⟨vs, h1, r1⟩ := s.list hc (e.pre _ _ q)
          exact ⟨vs, _, ⟨SqL.of h1, e.tup _ _ q2.sq⟩, r1, rs2.mono e⟩
    · exact hP2.elim
  · split at hP2
    · rename_i ys hy
      cases r1 with
      | tup q rs =>
        cases r2 with
        | ref q2 =>
          obtain ⟨us, h2, _⟩ := hS2.list hy q2
          refine ⟨_, _, false, true, _, us, rfl, ⟨q.sq, SqL.of h2⟩, hP2.now hS2 (j_zk rfl fun m H st e s hc => ?_)⟩
          have hc : decide (lstAt st _ = some ys) = true := hc
          rw [decide_eq_true_eq] at hc
          obtain ⟨us, h2, r2⟩ := s.list hc (e.pre _ _ q2)
          exact ⟨_, us, ⟨e.tup _ _ q.sq, SqL.of h2⟩, rs.mono e, r2⟩
    · exact hP2.elim
  · exact hP2.elim
end
end HM

/-! HM, part D: dicts. -/
namespace HM
open PySem PySem.Spec PyProof.Rows L2

/-! ### keys -/
mutual
inductive NV (K : PySem.W.Frag) (H : Hp) : NestedKey → V → Prop
  | non : NV K H .none .non
  | int (i : Int) : NV K H (.num i) (.int i)
  | str (x : PySem.Str) : NV K H (.text x) (.str x)
  | tup {a : Addr} {vs : List V} {ks : List NestedKey} : SqT K H a vs → NVs K H ks vs → NV K H (.tup ks) (.ref a)
inductive NVs (K : PySem.W.Frag) (H : Hp) : List NestedKey → List V → Prop
  | nil : NVs K H [] []
  | cons {k : NestedKey} {v : V} {ks : List NestedKey} {vs : List V} : NV K H k v → NVs K H ks vs → NVs K H (k :: ks) (v :: vs)
end
section
variable {X : Cx} {pins : List (Addr × Obj)} {σ : L2.St} {H : Hp} {s : Shared}
mutual
theorem nv_is (I : Inv X pins σ H s) : ∀ {k : NestedKey} {v : V} {u : Value}, NV X.K H k v → RelV v u → NestedIs s.heap k u
  | _, _, _, .non, r => by
    cases (show _ = Value.none from r)
    exact .none
  | _, _, _, .int i, r => by
    obtain ⟨t, rfl⟩ := r
    exact .int i t
  | _, _, _, .str x, r => by
    obtain ⟨t, rfl⟩ := r
    exact .text x t
  | _, _, _, .tup q n, r => by
    cases (show _ = Value.ref _ from r)
    obtain ⟨its, rs, ⟨o, e, c, k, d⟩, _⟩ := I.tuple q
    exact .tup e c d (by simpa using nvs_is I n rs)
theorem nvs_is (I : Inv X pins σ H s) : ∀ {ks : List NestedKey} {vs : List V} {us : List Value}, NVs X.K H ks vs → Vals vs us → NestedAll s.heap ks us
  | _, _, _, .nil, r => by
    cases r
    exact .nil
  | _, _, _, .cons h t, r => by
    cases r with
    | cons r1 r2 => exact .cons (nv_is I h r1) (nvs_is I t r2)
end
end
section
variable {K : PySem.W.Frag} {m : List Addr} {H : Hp}
theorem nvs_of {n : Nat} (ih : ∀ (d : D) (v : V), d.plain n = true → RD K m H d v → NV K H d.nk v ∧ d.nk.depth ≤ n) : ∀ (ds : List D) (vs : List V), ds.all (D.plain n) = true → RDs K m H ds vs → NVs K H (D.nks ds) vs ∧ NestedKey.depthAll (D.nks ds) ≤ n
  | [], _, _, r => by
    cases r
    exact ⟨.nil, Nat.zero_le _⟩
  | d :: ds, _, h, r => by
    cases r with
    | cons r1 r2 =>
      rw [List.all_cons, Bool.and_eq_true] at h
      obtain ⟨a1, a2⟩ := ih d _ h.1 r1
      obtain ⟨b1, b2⟩ := nvs_of ih ds _ h.2 r2
      refine ⟨.cons a1 b1, ?_⟩
      simp only [D.nks, NestedKey.depthAll]
      omega
theorem nv_of : ∀ (n : Nat) (d : D) (v : V), d.plain n = true → RD K m H d v → NV K H d.nk v ∧ d.nk.depth ≤ n := by
  intro n
  induction n with
  | zero =>
    intro d v h r
    cases r <;> simp [D.plain] at h
    · exact ⟨.non, Nat.zero_le _⟩
    · exact ⟨.int _, Nat.zero_le _⟩
    · exact ⟨.str _, Nat.zero_le _⟩
  | succ n ih =>
    intro d v h r
    cases r with
    | non => exact ⟨.non, Nat.zero_le _⟩
    | int i => exact ⟨.int _, Nat.zero_le _⟩
    | str x => exact ⟨.str _, Nat.zero_le _⟩
    | tup s rs =>
      rename_i a vs ds
      obtain ⟨b1, b2⟩ := nvs_of ih ds vs h rs
      refine ⟨.tup s.sq b1, ?_⟩
      simp only [D.nk, NestedKey.depth]
      omega
    | _ => simp [D.plain] at h
end
theorem nks_inj {n : Nat} (ih : ∀ x y : D, x.plain n = true → y.plain n = true → x.nk = y.nk → x = y) : ∀ xs ys : List D, xs.all (D.plain n) = true → ys.all (D.plain n) = true → D.nks xs = D.nks ys → xs = ys
  | [], [], _, _, _ => rfl
  | [], _ :: _, _, _, h => by simp [D.nks] at h
  | _ :: _, [], _, _, h => by simp [D.nks] at h
  | x :: xs, y :: ys, h1, h2, h => by
    rw [List.all_cons, Bool.and_eq_true] at h1 h2
    simp only [D.nks, List.cons.injEq] at h
    rw [ih x y h1.1 h2.1 h.1, nks_inj ih xs ys h1.2 h2.2 h.2]
theorem nk_inj : ∀ (n : Nat) (x y : D), x.plain n = true → y.plain n = true → x.nk = y.nk → x = y := by
  intro n
  induction n with
  | zero => intro x y h1 h2 h; cases x <;> simp [D.plain] at h1 <;> cases y <;> simp [D.plain] at h2 <;> simp [D.nk] at h <;> first | rfl | rw [h]
  | succ n ih =>
    intro x y h1 h2 h
    cases x <;> simp only [D.plain, Bool.false_eq_true] at h1 <;> cases y <;> simp only [D.plain, Bool.false_eq_true] at h2 <;> simp [D.nk] at h <;> first
      | rfl
      | rw [h]
      | rw [nks_inj ih _ _ h1 h2 h]
/-! ### a dict's cell -/
def dctAt (st : Store) (n : Nat) : Option (List (D × D)) := match st[n]? with
  | some (.dct kvs) => some kvs
  | _ => none
theorem dct_lst {st : Store} {n : Nat} {xs : List D} (h : lstAt st n = some xs) : dctAt st n = none := by
  unfold lstAt at h
  unfold dctAt
  split at h
  · rename_i e
    rw [e]
  · cases h
theorem lst_dct {st : Store} {n : Nat} {kvs : List (D × D)} (h : dctAt st n = some kvs) : lstAt st n = none := by
  unfold dctAt at h
  unfold lstAt
  split at h
  · rename_i e
    rw [e]
  · cases h
theorem SS.dict {K : KW} {m : List Addr} {st : Store} {H : Hp} {n : Nat} {kvs : List (D × D)} {a : Addr} (s : SS K m st H) (h : dctAt st n = some kvs) (e : m[n]? = some a) : RC K m H a (.dct kvs) := by
  unfold dctAt at h
  split at h
  · rename_i q
    cases h
    exact s.cel n _ a q e
  · cases h
def D.flatK (d : D) : Bool := match d with
  | .int _ => true
  | .str _ => true
  | _ => false
def keyFit (kvs : List (D × D)) (k : D) : Bool := (k.flatK && kvs.all fun p => p.1.flatK) || (k.tupQ && kvs.all fun p => p.1.tupQ)
def dGet (kvs : List (D × D)) (k : D) : Option D := (kvs.find? fun p => decide (p.1 = k)).map (·.2)
def dPut (kvs : List (D × D)) (k v : D) : List (D × D) := if (dGet kvs k).isSome then kvs.map (fun p => if p.1 = k then (p.1, v) else p) else kvs ++ [(k, v)]
/-- what the dict at a holds at y -/
def DG (K : KW) (H : Hp) (a : Addr) (y : V) (o : Option V) : Prop :=
  (∃ us k, H a = some (.dK us) ∧ y = kV k ∧ o = valV us k) ∨
  (∃ k b, H a = some (.dK []) ∧ y = .ref b ∧ NV K H k (.ref b) ∧ k.depth ≤ 8 ∧ o = none) ∨
  (∃ xs k b, H a = some (.ext (DObj K.w a xs)) ∧ y = .ref b ∧ NV K H k (.ref b) ∧ k.depth ≤ 8 ∧ (∀ x ∈ xs, NV K H x.1 (.ref x.2.1) ∧ x.1.depth ≤ 8) ∧ o = (xs.find? fun x => decide (x.1 = k)).map (·.2.2))
theorem keyD_inj {a b : Key} (h : keyD a = keyD b) : a = b := by
  cases a <;> cases b <;> simp [keyD] at h
  · rw [h]
  · rename_i x y
    have : x = y := by
      cases x; cases y
      simp only [PySem.Str.mk.injEq]
      exact h
    rw [this]
theorem flatK_of {K : PySem.W.Frag} {m : List Addr} {H : Hp} {k : D} {v : V} (h : k.flatK = true) (r : RD K m H k v) : ∃ q : Key, k = keyD q ∧ v = kV q := by
  cases r with
  | int i => exact ⟨.inl i, rfl, rfl⟩
  | str x => exact ⟨.inr ⟨x.toArray⟩, by simp [keyD], rfl⟩
  | _ => cases h
theorem tupQ_of {K : PySem.W.Frag} {m : List Addr} {H : Hp} {k : D} {v : V} (h : k.tupQ = true) (r : RD K m H k v) : ∃ b, v = .ref b ∧ NV K H k.nk (.ref b) ∧ k.nk.depth ≤ 8 := by
  cases r with
  | tup s rs =>
    obtain ⟨z1, z2⟩ := nv_of 8 _ _ h (.tup s rs)
    exact ⟨_, rfl, z1, z2⟩
  | _ => cases h
/-- a found value and its value -/
def OptR (K : PySem.W.Frag) (m : List Addr) (H : Hp) (o : Option D) (u : Option V) : Prop := match o, u with
  | none, none => True
  | some d, some v => RD K m H d v
  | _, _ => False
section
variable {K : PySem.W.Frag} {m : List Addr} {H : Hp}
theorem get1 {kvs : List (D × D)} {us : List (Key × V)} (r : DRel1 K m H kvs us) (k : Key) : OptR K m H (dGet kvs (keyD k)) (valV us k) := by
  unfold dGet valV
  induction r with
  | nil => exact True.intro
  | @cons p q ps qs h t ih =>
    obtain ⟨h1, h2⟩ := h
    by_cases e : q.1 = k
    · rw [List.find?_cons_of_pos (by simp [h1, e]), List.find?_cons_of_pos (by simp [e])]
      exact h2
    · rw [List.find?_cons_of_neg (by simp only [h1, decide_eq_true_eq]; exact fun z => e (keyD_inj z)), List.find?_cons_of_neg (by simpa using e)]
      exact ih
theorem tupQ_plain {d : D} (h : d.tupQ = true) : d.plain 8 = true := by
  cases d <;> first | exact h | cases h
theorem get2 {kvs : List (D × D)} {xs : List (NestedKey × Addr × V)} (r : DRel2 K m H kvs xs) {k : D} (hk : k.tupQ = true) : OptR K m H (dGet kvs k) ((xs.find? fun x => decide (x.1 = k.nk)).map (·.2.2)) := by
  unfold dGet
  induction r with
  | nil => exact True.intro
  | @cons p q ps qs h t ih =>
    obtain ⟨h1, h2, h3, h4⟩ := h
    by_cases e : p.1 = k
    · rw [List.find?_cons_of_pos (by simp [e]), List.find?_cons_of_pos (by simp [h2, e])]
      exact h4
    · rw [List.find?_cons_of_neg (by simpa using e), List.find?_cons_of_neg (by simp only [h2, decide_eq_true_eq]; exact fun z => e (nk_inj 8 _ _ (tupQ_plain h1) (tupQ_plain hk) z))]
      exact ih
theorem keys2 {kvs : List (D × D)} {xs : List (NestedKey × Addr × V)} (r : DRel2 K m H kvs xs) : ∀ x ∈ xs, NV K H x.1 (.ref x.2.1) ∧ x.1.depth ≤ 8 := by
  induction r with
  | nil => exact fun _ h => nomatch h
  | @cons p q ps qs h t ih =>
    intro x hx
    obtain ⟨h1, h2, h3, h4⟩ := h
    rcases List.mem_cons.mp hx with rfl | hx
    · obtain ⟨b, e, z1, z2⟩ := tupQ_of h1 h3
      cases e
      rw [h2]
      exact ⟨z1, z2⟩
    · exact ih x hx
theorem not_both {d : D} (h1 : d.flatK = true) (h2 : d.tupQ = true) : False := by cases d <;> simp [D.flatK, D.tupQ] at h1 h2
end
theorem dg_of {K : KW} {m : List Addr} {H : Hp} {a : Addr} {kvs : List (D × D)} {k : D} {v : V} (c : RC K m H a (.dct kvs)) (r : RD K m H k v) (f : keyFit kvs k = true) : ∃ o, DG K H a v o ∧ OptR K m H (dGet kvs k) o := by
  unfold keyFit at f
  rw [Bool.or_eq_true, Bool.and_eq_true, Bool.and_eq_true] at f
  rcases c with ⟨us, e, q⟩ | ⟨xs, e, ne, q⟩
  · rcases f with ⟨f1, _⟩ | ⟨f1, f2⟩
    · obtain ⟨y, rfl, rfl⟩ := flatK_of f1 r
      exact ⟨_, .inl ⟨us, y, e, rfl, rfl⟩, get1 q y⟩
    · cases q with
      | nil =>
        obtain ⟨b, rfl, z1, z2⟩ := tupQ_of f1 r
        exact ⟨none, .inr (.inl ⟨_, b, e, rfl, z1, z2, rfl⟩), True.intro⟩
      | @cons p u ps us h t =>
        rw [List.all_cons, Bool.and_eq_true] at f2
        obtain ⟨h1, _⟩ := h
        rw [h1] at f2
        cases hu : u.1 <;> rw [hu] at f2 <;> exact absurd f2.1 (by simp [keyD, D.tupQ])
  · rcases f with ⟨f1, f2⟩ | ⟨f1, _⟩
    · cases q with
      | nil => exact absurd rfl ne
      | @cons p u ps us h t =>
        rw [List.all_cons, Bool.and_eq_true] at f2
        exact (not_both f2.1 h.1).elim
    · obtain ⟨b, rfl, z1, z2⟩ := tupQ_of f1 r
      exact ⟨_, .inr (.inr ⟨xs, _, b, e, rfl, z1, z2, keys2 q, rfl⟩), get2 q f1⟩

/-! ### the operations -/
theorem paired_find {k : NestedKey} : ∀ {xs : List (NestedKey × Addr × V)} {zs : List (NestedKey × Addr × Value)}, Paired (fun p q => p.1 = q.1 ∧ p.2.1 = q.2.1 ∧ RelV p.2.2 q.2.2) xs zs → RelO ((xs.find? fun x => decide (x.1 = k)).map (·.2.2)) ((atKey zs k).map (·.2))
  | _, _, .nil => True.intro
  | _, _, .cons (a := p) (b := q) h t => by
    have ih := paired_find (k := k) t
    unfold atKey at ih ⊢
    by_cases e : p.1 = k
    · rw [List.find?_cons_of_pos (by simp [e]), List.find?_cons_of_pos (by simp [← h.1, e])]
      exact h.2.2
    · rw [List.find?_cons_of_neg (by simpa using e), List.find?_cons_of_neg (by simpa [← h.1] using e)]
      exact ih
theorem paired_is {P : Program} {w : World} {h : Heap} : ∀ {xs : List (NestedKey × Addr × V)} {zs : List (NestedKey × Addr × Value)}, Paired (fun p q => p.1 = q.1 ∧ p.2.1 = q.2.1 ∧ RelV p.2.2 q.2.2) xs zs → (∀ x ∈ xs, (nestedKind P w).is h x.1 x.2.1) → ∀ z ∈ zs, (nestedKind P w).is h z.1 z.2.1
  | _, _, .nil, _ => fun _ h => nomatch h
  | _, _, .cons (a := p) (b := q) r t, hs => fun z hz => by
    rcases List.mem_cons.mp hz with rfl | hz
    · rw [← r.1, ← r.2.1]
      exact hs p (List.mem_cons_self ..)
    · exact paired_is t (fun x hx => hs x (List.mem_cons_of_mem _ hx)) z hz
section
variable {X : Cx} {pins : List (Addr × Obj)} {σ : L2.St} {H : Hp} {s : Shared} {a : Addr} {y v : V} {u r : Value} {o : Option V} {A : Around} {E : Value → Shared → Prop}
/-- a dict of tuple keys, as the library tells it -/
theorem dobj_at {xs : List (NestedKey × Addr × V)} (I : Inv X pins σ H s) (e : H a = some (.ext (DObj X.kw.w a xs))) (hx : ∀ x ∈ xs, NV X.K H x.1 (.ref x.2.1) ∧ x.1.depth ≤ 8) :
    (a == sysModules) = false ∧ xs.length ≤ sizeLine ∧ ∃ zs, Paired (fun p q => p.1 = q.1 ∧ p.2.1 = q.2.1 ∧ RelV p.2.2 q.2.2) xs zs ∧ s.heap.DictOfH (nestedKind X.prog X.w) a zs := by
  obtain ⟨⟨hd, hz, zs, rel, ob, es, ep, h1, h2, h3, h4, h5⟩, _, _⟩ := (show ObjOk X.prog X.w H s.heap a (.ext (DObj X.w a xs)) from I.hok a _ e)
  exact ⟨hd, hz, zs, rel, ob, es, ep, h1, h2, h3, h4, paired_is rel fun x hm => ⟨nv_is I (hx x hm).1 rfl, (hx x hm).2⟩, h5⟩
theorem dk_empty_at (I : Inv X pins σ H s) (e : H a = some (.dK [])) : (a == sysModules) = false ∧ s.heap.DictOfH (nestedKind X.prog X.w) a [] := by
  obtain ⟨_, hd, vs, rel, dd⟩ := dk_of I.hok e
  cases rel
  obtain ⟨ob, es, ep, h1, h2, h3, _, h5, _⟩ := dd
  have z : es.toList = [] := by
    generalize es.toList = l at h5
    cases h5
    rfl
  exact ⟨hd, ob, es, ep, h1, h2, h3, by rw [z]; rfl, (fun _ h => nomatch h), by simp⟩
theorem nroom (hu : A.units + 10 < cLine) : (nestedKind X.prog X.w).room A.in1 := by
  show A.units + 1 + 8 < cLine
  omega
/-- d[y], there -/
theorem dg_getItem {Q : Value → Shared → Prop} (hu : A.units + 10 < cLine) (I : Inv X pins σ H s) (g : DG X.kw H a y (some v)) (ry : RelV y u) (h : ∀ w' s', Inv X pins σ H s' → RelV v w' → Q w' s') :
    wpAny (model X.prog X.w) A (getItem (.ref a) u) Q E s := by
  rcases g with ⟨us, k, e, ey, l⟩ | ⟨k, b, e, ey, n, dp, l⟩ | ⟨xs, k, b, e, ey, n, dp, hx, l⟩
  · exact d_getItem (by omega) I (.inl ⟨us, k, .inl e, ey, l⟩) ry h
  · cases l
  · subst ey
    cases (show u = Value.ref b from ry)
    obtain ⟨hd, hz, zs, rel, dd⟩ := dobj_at I e hx
    obtain ⟨w', hw, rw'⟩ := RelO.some_of (v := v) (o := (atKey zs k).map (·.2)) (by rw [l]; exact paired_find rel)
    obtain ⟨p, hp, hp2⟩ := Option.map_eq_some_iff.mp hw
    refine wpAny_getItem_heap (nroom hu) ⟨nv_is I n rfl, dp⟩ dd hp ?_
    rw [hp2]
    exact h w' _ (I.tok _) rw'
theorem dg_in {Q : Value → Shared → Prop} (hu : A.units + 10 < cLine) (I : Inv X pins σ H s) (g : DG X.kw H a y o) (ry : RelV y u) (h : ∀ s', Inv X pins σ H s' → Q (.bool o.isSome) s') :
    wpAny (model X.prog X.w) A (compareOp .In u (.ref a)) Q E s := by
  rcases g with ⟨us, k, e, ey, l⟩ | ⟨k, b, e, ey, n, dp, l⟩ | ⟨xs, k, b, e, ey, n, dp, hx, l⟩
  · exact d_in (by omega) I (.inl ⟨us, k, .inl e, ey, l⟩) ry h
  · subst ey l
    cases (show u = Value.ref b from ry)
    obtain ⟨hd, dd⟩ := dk_empty_at I e
    exact wpAny_in_heap (nroom hu) ⟨nv_is I n rfl, dp⟩ hd dd (h _ (I.tok _))
  · subst ey
    cases (show u = Value.ref b from ry)
    obtain ⟨hd, hz, zs, rel, dd⟩ := dobj_at I e hx
    refine wpAny_in_heap (nroom hu) ⟨nv_is I n rfl, dp⟩ hd dd ?_
    have q := (paired_find (k := k) rel).isSome_eq
    rw [Option.isSome_map (x := atKey zs k)] at q
    rw [← q, ← l]
    exact h _ (I.tok _)
theorem dg_notIn {Q : Value → Shared → Prop} (hu : A.units + 10 < cLine) (I : Inv X pins σ H s) (g : DG X.kw H a y o) (ry : RelV y u) (h : ∀ s', Inv X pins σ H s' → Q (.bool (!o.isSome)) s') :
    wpAny (model X.prog X.w) A (compareOp .NotIn u (.ref a)) Q E s := by
  rcases g with ⟨us, k, e, ey, l⟩ | ⟨k, b, e, ey, n, dp, l⟩ | ⟨xs, k, b, e, ey, n, dp, hx, l⟩
  · exact d_notIn (by omega) I (.inl ⟨us, k, .inl e, ey, l⟩) ry h
  · subst ey l
    cases (show u = Value.ref b from ry)
    obtain ⟨hd, dd⟩ := dk_empty_at I e
    exact wpAny_notIn_heap (nroom hu) ⟨nv_is I n rfl, dp⟩ hd dd (h _ (I.tok _))
  · subst ey
    cases (show u = Value.ref b from ry)
    obtain ⟨hd, hz, zs, rel, dd⟩ := dobj_at I e hx
    refine wpAny_notIn_heap (nroom hu) ⟨nv_is I n rfl, dp⟩ hd dd ?_
    have q := (paired_find (k := k) rel).isSome_eq
    rw [Option.isSome_map (x := atKey zs k)] at q
    rw [← q, ← l]
    exact h _ (I.tok _)
/-- d.get(y), d.get(y, x) -/
theorem dg_get1 {Q : Value → Shared → Prop} (hu : A.units + 10 < cLine) (I : Inv X pins σ H s) (g : DG X.kw H a y o) (ry : RelV y u) (h : ∀ w' s', Inv X pins σ H s' → RelV (o.getD .non) w' → Q w' s') :
    wpAny (model X.prog X.w) A (call (.builtin "dict.get") [.ref a, u]) Q E s := by
  rcases g with ⟨us, k, e, ey, l⟩ | ⟨k, b, e, ey, n, dp, l⟩ | ⟨xs, k, b, e, ey, n, dp, hx, l⟩
  · exact d_get1 (by omega) I (.inl ⟨us, k, .inl e, ey, l⟩) ry h
  · subst ey l
    cases (show u = Value.ref b from ry)
    obtain ⟨hd, dd⟩ := dk_empty_at I e
    exact call_meetsIn PySem.F.slot_dict_get dd.typeIs PySem.F.entry_dict_get (PySem.F.args_dict_get_2 _ _) (meetsH_dict_get (nestedKind X.prog X.w) a b hd) ⟨nroom hu, k, [], ⟨nv_is I n rfl, dp⟩, dd, h _ _ (I.tok _) rfl⟩
  · subst ey
    cases (show u = Value.ref b from ry)
    obtain ⟨hd, hz, zs, rel, dd⟩ := dobj_at I e hx
    refine call_meetsIn PySem.F.slot_dict_get dd.typeIs PySem.F.entry_dict_get (PySem.F.args_dict_get_2 _ _) (meetsH_dict_get (nestedKind X.prog X.w) a b hd) ⟨nroom hu, k, zs, ⟨nv_is I n rfl, dp⟩, dd, h _ _ (I.tok _) ?_⟩
    rw [l]
    exact (paired_find (k := k) rel).getD rfl
theorem dg_get2 {d : V} {Q : Value → Shared → Prop} (hu : A.units + 10 < cLine) (I : Inv X pins σ H s) (g : DG X.kw H a y o) (ry : RelV y u) (rd : RelV d r) (h : ∀ w' s', Inv X pins σ H s' → RelV (o.getD d) w' → Q w' s') :
    wpAny (model X.prog X.w) A (call (.builtin "dict.get") [.ref a, u, r]) Q E s := by
  rcases g with ⟨us, k, e, ey, l⟩ | ⟨k, b, e, ey, n, dp, l⟩ | ⟨xs, k, b, e, ey, n, dp, hx, l⟩
  · exact d_get2 (by omega) I (.inl ⟨us, k, .inl e, ey, l⟩) ry rd h
  · subst ey l
    cases (show u = Value.ref b from ry)
    obtain ⟨hd, dd⟩ := dk_empty_at I e
    exact call_meetsIn PySem.F.slot_dict_get dd.typeIs PySem.F.entry_dict_get (PySem.F.args_dict_get_3 _ _ _) (meetsH_dict_get_default (nestedKind X.prog X.w) a b hd r) ⟨nroom hu, k, [], ⟨nv_is I n rfl, dp⟩, dd, h _ _ (I.tok _) rd⟩
  · subst ey
    cases (show u = Value.ref b from ry)
    obtain ⟨hd, hz, zs, rel, dd⟩ := dobj_at I e hx
    refine call_meetsIn PySem.F.slot_dict_get dd.typeIs PySem.F.entry_dict_get (PySem.F.args_dict_get_3 _ _ _) (meetsH_dict_get_default (nestedKind X.prog X.w) a b hd r) ⟨nroom hu, k, zs, ⟨nv_is I n rfl, dp⟩, dd, h _ _ (I.tok _) ?_⟩
    rw [l]
    exact (paired_find (k := k) rel).getD rd
end
/-! ### d[y] = v -/
def putX (xs : List (NestedKey × Addr × V)) (k : NestedKey) (b : Addr) (v : V) : List (NestedKey × Addr × V) := if (xs.any fun x => decide (x.1 = k)) then xs.map (fun x => if x.1 = k then (x.1, x.2.1, v) else x) else xs ++ [(k, b, v)]
theorem paired_any {k : NestedKey} : ∀ {xs : List (NestedKey × Addr × V)} {zs : List (NestedKey × Addr × Value)}, Paired (fun p q => p.1 = q.1 ∧ p.2.1 = q.2.1 ∧ RelV p.2.2 q.2.2) xs zs → (xs.any fun x => decide (x.1 = k)) = (atKey zs k).isSome
  | _, _, .nil => rfl
  | _, _, .cons (a := p) (b := q) h t => by
    have ih := paired_any (k := k) t
    unfold atKey at ih ⊢
    rw [List.any_cons, ih]
    by_cases e : p.1 = k
    · rw [List.find?_cons_of_pos (by simp [← h.1, e])]
      simp [e]
    · rw [List.find?_cons_of_neg (by simpa [← h.1] using e)]
      simp [e]
theorem paired_map {k : NestedKey} {v : V} {r : Value} (rv : RelV v r) : ∀ {xs : List (NestedKey × Addr × V)} {zs : List (NestedKey × Addr × Value)}, Paired (fun p q => p.1 = q.1 ∧ p.2.1 = q.2.1 ∧ RelV p.2.2 q.2.2) xs zs → Paired (fun p q => p.1 = q.1 ∧ p.2.1 = q.2.1 ∧ RelV p.2.2 q.2.2) (xs.map (fun x => if x.1 = k then (x.1, x.2.1, v) else x)) (zs.map (putAt k r))
  | _, _, .nil => .nil
  | _, _, .cons (a := p) (b := q) h t => by
    refine .cons ?_ (paired_map rv t)
    unfold putAt
    simp only []
    by_cases e : p.1 = k
    · rw [if_pos e, if_pos (by rw [← h.1]; exact e)]
      exact ⟨h.1, h.2.1, rv⟩
    · rw [if_neg e, if_neg (by rw [← h.1]; exact e)]
      exact h
theorem paired_put {k : NestedKey} {b : Addr} {v : V} {r : Value} (rv : RelV v r) {xs : List (NestedKey × Addr × V)} {zs : List (NestedKey × Addr × Value)} (rel : Paired (fun p q => p.1 = q.1 ∧ p.2.1 = q.2.1 ∧ RelV p.2.2 q.2.2) xs zs) :
    Paired (fun p q => p.1 = q.1 ∧ p.2.1 = q.2.1 ∧ RelV p.2.2 q.2.2) (putX xs k b v) (storedH zs k b r) := by
  unfold putX storedH
  rw [paired_any rel]
  by_cases e : (atKey zs k).isSome = true
  · rw [if_pos e, if_pos e]
    exact paired_map rv rel
  · rw [if_neg e, if_neg e]
    exact Paired.snoc rel ⟨rfl, rfl, rv⟩
theorem putX_len {xs : List (NestedKey × Addr × V)} {k : NestedKey} {b : Addr} {v : V} : (putX xs k b v).length ≤ xs.length + 1 := by
  unfold putX
  split <;> simp
/-- the heap behind a[y] = v -/
def DP (K : KW) (H : Hp) (a : Addr) (y v : V) (H' : Hp) : Prop :=
  (∃ us k, H a = some (.dK us) ∧ y = kV k ∧ us.length < sizeLine ∧ H' = upd H a (.dK (putK us k v))) ∨
  (∃ k b, H a = some (.dK []) ∧ y = .ref b ∧ NV K H k (.ref b) ∧ k.depth ≤ 8 ∧ H' = upd H a (.ext (DObj K.w a [(k, b, v)]))) ∨
  (∃ xs k b, H a = some (.ext (DObj K.w a xs)) ∧ y = .ref b ∧ NV K H k (.ref b) ∧ k.depth ≤ 8 ∧ (∀ x ∈ xs, NV K H x.1 (.ref x.2.1) ∧ x.1.depth ≤ 8) ∧ xs.length < sizeLine ∧ H' = upd H a (.ext (DObj K.w a (putX xs k b v))))
theorem dobj_ok {P : Program} {w : World} {a : Addr} {xs : List (NestedKey × Addr × V)} {H' : Hp} {h' : Heap} {zs : List (NestedKey × Addr × Value)} (hd : (a == sysModules) = false) (hz : xs.length ≤ sizeLine) (rel : Paired (fun p q => p.1 = q.1 ∧ p.2.1 = q.2.1 ∧ RelV p.2.2 q.2.2) xs zs)
    (dd : h'.DictOfH (nestedKind P w) a zs) : ObjOk P w H' h' a (.ext (DObj w a xs)) := by
  obtain ⟨ob, es, ep, h1, h2, h3, h4, _, h5⟩ := dd
  refine ⟨⟨hd, hz, zs, rel, ob, es, ep, h1, h2, h3, h4, h5⟩, ⟨ob, h1⟩, fun g1 g2 ⟨_, _, zs', rel', ob', es', ep', h1', r'⟩ st => ⟨hd, hz, zs', rel', ob', es', ep', st _ h1', r'⟩⟩
section
variable {X : Cx} {pins : List (Addr × Obj)} {σ : L2.St} {H H' : Hp} {s : Shared} {a : Addr} {y v : V} {u r : Value} {A : Around} {E : Value → Shared → Prop}
theorem dg_set {Q : Unit → Shared → Prop} (hu : A.units + 10 < cLine) (I : Inv X pins σ H s) (g : DP X.kw H a y v H') (ry : RelV y u) (rv : RelV v r) (h : ∀ s', Inv X pins σ H' s' → Q () s') :
    wpAny (model X.prog X.w) A (setItem (.ref a) u r) Q E s := by
  rcases g with ⟨us, k, e, ey, l, eH⟩ | ⟨k, b, e, ey, n, dp, eH⟩ | ⟨xs, k, b, e, ey, n, dp, hx, l, eH⟩
  · exact d_setItem (by omega) I (.inl ⟨us, k, e, ey, l, eH⟩) ry rv h
  · subst ey eH
    cases (show u = Value.ref b from ry)
    obtain ⟨hd, dd⟩ := dk_empty_at I e
    refine wpAny_setItem_heap (hsz := Nat.zero_le _) (nroom hu) ⟨nv_is I n rfl, dp⟩ dd fun h' dd' hs => h _ ?_
    have he : ∃ q, h'.get? a = some q := let ⟨q, _, _, hq, _⟩ := dd'; ⟨q, hq⟩
    refine d_write I (by rw [e]; exact True.intro) hs he (dobj_ok hd (by rw [PySem.sizeLine_eq]; show 1 ≤ _; omega) ?_ dd')
    exact .cons ⟨rfl, rfl, rv⟩ .nil
  · subst ey eH
    cases (show u = Value.ref b from ry)
    obtain ⟨hd, hz, zs, rel, dd⟩ := dobj_at I e hx
    refine wpAny_setItem_heap (hsz := by rw [← Paired.length rel]; exact hz) (nroom hu) ⟨nv_is I n rfl, dp⟩ dd fun h' dd' hs => h _ ?_
    have he : ∃ q, h'.get? a = some q := let ⟨q, _, _, hq, _⟩ := dd'; ⟨q, hq⟩
    exact d_write I (by rw [e]; exact True.intro) hs he (dobj_ok hd (by have := putX_len (xs := xs) (k := k) (b := b) (v := v); omega) (paired_put rv rel) dd')
end

/-! ### the store's side -/
theorem dp_of {K : KW} {m : List Addr} {st : Store} {H : Hp} {n : Nat} {kvs : List (D × D)} {k d : D} {y v : V} {a : Addr} (hS : SS K m st H) (hk : dctAt st n = some kvs) (hn : m[n]? = some a) (rk : RD K m H k y) (rv : RD K m H d v) (f : keyFit kvs k = true) (hl : kvs.length < 16777216) :
    ∃ H', DP K H a y v H' ∧ Ext K m H m H' ∧ SS K m (st.set n (.dct (dPut kvs k d))) H' := by
  have c := hS.dict hk hn
  have f' := f
  unfold keyFit at f'
  rw [Bool.or_eq_true, Bool.and_eq_true, Bool.and_eq_true] at f'
  rcases c with ⟨us, e, q⟩ | ⟨xs, e, ne, q⟩
  · have mu : Mut (H a) := by rw [e]; exact True.intro
    rcases f' with ⟨f1, _⟩ | ⟨f1, f2⟩
    · obtain ⟨w, rfl, rfl⟩ := flatK_of f1 rk
      refine ⟨_, .inl ⟨us, w, e, rfl, below_line (by rw [← Paired.length q]; exact hl), rfl⟩, Ext.writeM mu hn, hS.writeM mu hn (.inl ⟨_, upd_same, ?_⟩)⟩
      have kp : ∀ o : HO, Kp K m H m (upd H a o) := fun _ => Kp.writeM mu
      unfold dPut putK
      have ea : (dGet kvs (keyD w)).isSome = (us.any fun kv => decide (kv.1 = w)) := by
        have z := get1 q w
        rw [valV_any]
        cases h1 : dGet kvs (keyD w) <;> cases h2 : valV us w <;> rw [h1, h2] at z <;> first | rfl | exact z.elim
      rw [ea]
      split
      · have go : ∀ {kvs us}, DRel1 K m H kvs us → Paired (fun (p : D × D) (q : Key × V) => p.1 = keyD q.1 ∧ RD K m H p.2 q.2) (kvs.map fun p => if p.1 = keyD w then (p.1, d) else p) (us.map fun kv => if kv.1 = w then (kv.1, v) else kv) := fun {kvs us} r => by
          induction r with
          | nil => exact .nil
          | @cons p u ps us h t ih =>
            refine .cons ?_ ih
            simp only []
            by_cases e : u.1 = w
            · rw [if_pos e, if_pos (by rw [h.1, e])]
              exact ⟨h.1, rv⟩
            · rw [if_neg e, if_neg (by rw [h.1]; exact fun z => e (keyD_inj z))]
              exact h
        exact DRel1.kp (go q) (kp _)
      · exact DRel1.kp (Paired.snoc q ⟨rfl, rv⟩) (kp _)
    · have hnil : kvs = [] ∧ us = [] := by
        cases q with
        | nil => exact ⟨rfl, rfl⟩
        | @cons p u ps us h t =>
          rw [List.all_cons, Bool.and_eq_true] at f2
          obtain ⟨h1, _⟩ := h
          rw [h1] at f2
          cases hu : u.1 <;> rw [hu] at f2 <;> exact absurd f2.1 (by simp [keyD, D.tupQ])
      obtain ⟨rfl, rfl⟩ := hnil
      obtain ⟨b, rfl, z1, z2⟩ := tupQ_of f1 rk
      refine ⟨_, .inr (.inl ⟨k.nk, b, e, rfl, z1, z2, rfl⟩), Ext.writeM mu hn, hS.writeM mu hn (.inr ⟨_, upd_same, by simp, ?_⟩)⟩
      have kp : ∀ o : HO, Kp K m H m (upd H a o) := fun _ => Kp.writeM mu
      have e0 : dPut [] k d = [(k, d)] := rfl
      rw [e0]
      exact .cons ⟨f1, rfl, rk.kp (kp _), rv.kp (kp _)⟩ .nil
  · have mu : Mut (H a) := by rw [e]; exact True.intro
    rcases f' with ⟨f1, f2⟩ | ⟨f1, _⟩
    · cases q with
      | nil => exact absurd rfl ne
      | @cons p u ps us h t =>
        rw [List.all_cons, Bool.and_eq_true] at f2
        exact (not_both f2.1 h.1).elim
    · obtain ⟨b, rfl, z1, z2⟩ := tupQ_of f1 rk
      refine ⟨_, .inr (.inr ⟨xs, k.nk, b, e, rfl, z1, z2, keys2 q, below_line (by rw [← Paired.length q]; exact hl), rfl⟩), Ext.writeM mu hn, hS.writeM mu hn (.inr ⟨_, upd_same, ?_, ?_⟩)⟩
      · unfold putX
        split
        · intro z
          exact ne (List.map_eq_nil_iff.mp z)
        · simp
      · have kp : ∀ o : HO, Kp K m H m (upd H a o) := fun _ => Kp.writeM mu
        unfold dPut putX
        have ea : (dGet kvs k).isSome = (xs.any fun x => decide (x.1 = k.nk)) := by
          have z := get2 q f1
          have z2 : (xs.any fun x => decide (x.1 = k.nk)) = ((xs.find? fun x => decide (x.1 = k.nk)).map (·.2.2)).isSome := by
            rw [Option.isSome_map, Bool.eq_iff_iff, List.find?_isSome]
            simp
          rw [z2]
          cases h1 : dGet kvs k <;> cases h2 : (xs.find? fun x => decide (x.1 = k.nk)).map (·.2.2) <;> rw [h1, h2] at z <;> first | rfl | exact z.elim
        rw [ea]
        split
        · have go : ∀ {kvs xs}, DRel2 K m H kvs xs → DRel2 K m H (kvs.map fun p => if p.1 = k then (p.1, d) else p) (xs.map fun x => if x.1 = k.nk then (x.1, x.2.1, v) else x) := fun {kvs xs} r => by
            induction r with
            | nil => exact .nil
            | @cons p u ps us h t ih =>
              refine .cons ?_ ih
              simp only []
              by_cases e : p.1 = k
              · rw [if_pos e, if_pos (by rw [h.2.1, e])]
                exact ⟨h.1, h.2.1, h.2.2.1, rv⟩
              · rw [if_neg e, if_neg (by rw [h.2.1]; exact fun z => e (nk_inj 8 _ _ (tupQ_plain h.1) (tupQ_plain f1) z))]
                exact h
          exact DRel2.kp (go q) (kp _)
        · exact DRel2.kp (Paired.snoc q ⟨f1, rfl, rk, rv⟩) (kp _)
/-! ### {}, d[k], k in d, d[k] = v, len(d) -/
section
variable {X : Cx} {W : WX} {e o a b c : Expr} {es : List Expr} {pos p : Pos} {f fo fa fb fe fi : EM D} {fs : EM (List D)}
def eDct : EM D := fun _ st => .ok (.ref st.length) (st ++ [.dct []])
theorem ex_dct : Ex X W (.Dict [] [] pos) eDct := ⟨fun m τ st σ H Q hL hS hP pins s I => pe_dnewK.run pins s σ H Q I fun p hp => by
  refine hP (m ++ [p]) _ _ (Ext.app hp) (hS.app hp (.inl ⟨[], upd_same, .nil⟩)) (.ref ?_)
  rw [← hS.len]
  simp⟩
def rDG (K : KW) : R2 := fun x y H Q => ∃ a v, x = .ref a ∧ DG K H a y (some v) ∧ Q v H
theorem dg_typeIs {pins : List (Addr × Obj)} {σ : L2.St} {H : Hp} {s : Shared} {a : Addr} {y : V} {o : Option V} (I : Inv X pins σ H s) (g : DG X.kw H a y o) : s.TypeIs (.ref a) "dict" := by
  rcases g with ⟨us, k, e, ey, l⟩ | ⟨k, b, e, ey, n, dp, l⟩ | ⟨xs, k, b, e, ey, n, dp, hx, l⟩
  · obtain ⟨_, _, vs, _, dd⟩ := dk_of I.hok e
    exact dd.typeIs
  · exact (dk_empty_at I e).2.typeIs
  · obtain ⟨_, _, zs, _, dd⟩ := dobj_at I e hx
    exact dd.typeIs
theorem ix_dg (hu : X.A.units + 10 < cLine) : IxR X (rDG X.kw) := by
  intro value slice pins s σ H x y v u Q I rx ry h hs
  obtain ⟨a, z, rfl, g, q⟩ := h
  cases (show v = Value.ref a from rx)
  exact tail_any (dg_typeIs I g) PySem.F.slot_dict_getitem.lookup (dg_getItem hu I g ry fun w' s' I' rw' => ⟨z, H, I', rw', q⟩) hs
theorem get_dg (hu : X.A.units + 10 < cLine) : PGet X (rDG X.kw) := by
  intro pins s σ H x y v u Q I rx ry h
  obtain ⟨a, z, rfl, g, q⟩ := h
  cases (show v = Value.ref a from rx)
  exact dg_getItem hu I g ry fun w' s' I' rw' => ⟨z, H, I', rw', q⟩
def oIx : O2 := fun x y st => match x with
  | .ref n => match dctAt st n with
    | some kvs => if keyFit kvs y then match dGet kvs y with
        | some d => .ok d st
        | none => .bad
      else .bad
    | none => oIxS x y st
  | _ => oIxS x y st
theorem dg_some {m : List Addr} {st : Store} {H : Hp} {n : Nat} {kvs : List (D × D)} {dy d : D} {vx vy : V} {E : XK} {Q : VK} (hS : SS X.kw m st H) (hk : dctAt st n = some kvs) (rx : RD X.K m H (.ref n) vx) (ry : RD X.K m H dy vy) (f : keyFit kvs dy = true) (hd : dGet kvs dy = some d)
    (hP : Pe X.kw E (RD X.K) m H (.ok d st) Q) : rDG X.kw vx vy H Q := by
  cases rx with
  | ref q =>
    obtain ⟨o, g, r⟩ := dg_of (hS.dict hk q) ry f
    rw [hd] at r
    cases o with
    | none => exact r.elim
    | some v => exact ⟨_, v, rfl, g, hP.now hS r⟩
theorem m_ix (hu : X.A.units + 65 < cLine) : IxM X W oIx := by
  obtain ⟨r, hr, h⟩ := m_ixS (X := X) (W := W)
  refine ⟨_, hr.or (ix_dg (by omega)), fun m st H dx dy x y E Q hS r1 r2 hP => ?_⟩
  unfold oIx at hP
  split at hP
  · split at hP
    · rename_i kvs hk
      split at hP
      · rename_i f
        split at hP
        · rename_i d hd
          exact .inr (dg_some hS hk r1 r2 f hd hP)
        · exact hP.elim
      · exact hP.elim
    · exact .inl (h m st H _ dy x y E Q hS r1 r2 hP)
  · exact .inl (h m st H dx dy x y E Q hS r1 r2 hP)
/-! in -/
def dIn (x y : D) (st : Store) : Option Bool := match y with
  | .ref n => match dctAt st n with
    | some kvs => if keyFit kvs x then some (dGet kvs x).isSome else none
    | none => dInS x y st
  | _ => dInS x y st
def oIn : O2 := fun x y st => match dIn x y st with
  | some b => .ok (.bl b) st
  | none => .bad
def oNotIn : O2 := fun x y st => match dIn x y st with
  | some b => .ok (.bl !b) st
  | none => .bad
theorem optR_some {K : PySem.W.Frag} {m : List Addr} {H : Hp} {o : Option D} {u : Option V} (r : OptR K m H o u) : o.isSome = u.isSome := by
  cases o <;> cases u <;> first | rfl | exact r.elim
theorem m_in (hu : X.A.units + 65 < cLine) : OpM X W (compareOp .In) oIn := fun m st σ H dx dy x y Q hS r1 r2 hP pins s v u I rx ry => by
  have old := fun hP => m_inS (W := W) hu m st σ H dx dy x y Q hS r1 r2 hP pins s v u I rx ry
  unfold oIn dIn at hP
  unfold oInS at old
  cases dy with
  | ref n =>
    simp only at hP
    cases hk : dctAt st n with
    | some kvs =>
      rw [hk] at hP
      simp only at hP
      by_cases f : keyFit kvs dx = true
      · rw [if_pos f] at hP
        cases r2 with
        | ref q =>
          obtain ⟨o, g, r⟩ := dg_of (hS.dict hk q) r1 f
          cases (show u = Value.ref _ from ry)
          refine dg_in (by omega) I g rx fun s' I' => ⟨.bl o.isSome, H, I', rfl, ?_⟩
          rw [← optR_some r]
          exact hP.now hS (.bl _)
      · rw [if_neg f] at hP
        exact hP.elim
    | none =>
      rw [hk] at hP
      exact old hP
  | _ => exact old hP
theorem m_notin (hu : X.A.units + 65 < cLine) : OpM X W (compareOp .NotIn) oNotIn := fun m st σ H dx dy x y Q hS r1 r2 hP pins s v u I rx ry => by
  have old := fun hP => m_notinS (W := W) hu m st σ H dx dy x y Q hS r1 r2 hP pins s v u I rx ry
  unfold oNotIn dIn at hP
  unfold oNotInS at old
  cases dy with
  | ref n =>
    simp only at hP
    cases hk : dctAt st n with
    | some kvs =>
      rw [hk] at hP
      simp only at hP
      by_cases f : keyFit kvs dx = true
      · rw [if_pos f] at hP
        cases r2 with
        | ref q =>
          obtain ⟨o, g, r⟩ := dg_of (hS.dict hk q) r1 f
          cases (show u = Value.ref _ from ry)
          refine dg_notIn (by omega) I g rx fun s' I' => ⟨.bl (!o.isSome), H, I', rfl, ?_⟩
          rw [← optR_some r]
          exact hP.now hS (.bl _)
      · rw [if_neg f] at hP
        exact hP.elim
    | none =>
      rw [hk] at hP
      exact old hP
  | _ => exact old hP
/-! o[i] = v -/
def rSet (K : KW) : V → V → V → Hp → (Hp → Prop) → Prop := fun o i v H Q => rSetL o i v H Q ∨ ∃ a H', o = .ref a ∧ DP K H a i v H' ∧ Q H'
theorem set_any (hu : X.A.units + 10 < cLine) : PSet X (rSet X.kw) := by
  intro pins s σ H o i v ov iv u Q I ro ri rv h
  rcases h with h | ⟨a, H', rfl, g, q⟩
  · exact set_list pins s σ H o i v ov iv u Q I ro ri rv h
  · cases (show ov = Value.ref a from ro)
    exact dg_set hu I g ri rv fun s' I' => ⟨H', I', q⟩
def oSet : D → D → D → Store → Option Store := fun o i v st => match o with
  | .ref n => match dctAt st n with
    | some kvs => if keyFit kvs i && decide (kvs.length < 16777216) then some (st.set n (.dct (dPut kvs i v))) else none
    | none => oSetS o i v st
  | _ => oSetS o i v st
theorem set_read {K : KW} {m : List Addr} {st st' : Store} {H : Hp} {o i v : D} {vo vi vv : V} (hS : SS K m st H) (ro : RD K m H o vo) (ri : RD K m H i vi) (rv : RD K m H v vv) (h : oSet o i v st = some st') :
    ∃ H', Ext K m H m H' ∧ SS K m st' H' ∧ ∀ Q : Hp → Prop, Q H' → rSet K vo vi vv H Q := by
  have old : oSetS o i v st = some st' → ∃ H', Ext K m H m H' ∧ SS K m st' H' ∧ ∀ Q : Hp → Prop, Q H' → rSet K vo vi vv H Q := fun h => by
    obtain ⟨p, xs, k, j, q1, q2, q3, q4, q5, q6⟩ := set_readS hS ro ri rv h
    exact ⟨_, q5, q6, fun Q q => .inl ⟨p, xs, k, j, q1, q2, q3, q4, q⟩⟩
  unfold oSet at h
  cases o with
  | ref n =>
    simp only at h
    cases hk : dctAt st n with
    | some kvs =>
      rw [hk] at h
      simp only at h
      by_cases f : (keyFit kvs i && decide (kvs.length < 16777216)) = true
      · rw [if_pos f] at h
        cases h
        rw [Bool.and_eq_true, decide_eq_true_eq] at f
        cases ro with
        | ref q =>
          obtain ⟨H', g, e, s⟩ := dp_of hS hk q ri rv f.1 f.2
          exact ⟨H', e, s, fun Q z => .inr ⟨_, H', rfl, g, z⟩⟩
      · rw [if_neg f] at h
        cases h
    | none =>
      rw [hk] at h
      exact old h
  | _ => exact old h
def sSub (fo fi fe : EM D) : SM := fun τ st => bindE (fe τ st) τ fun v s1 => bindE (fo τ s1) τ fun o s2 => bindE (fi τ s2) τ fun i s3 => match oSet o i v s3 with
  | some s4 => .nx τ s4
  | none => .bad
theorem sx_sub {o i : Expr} {p' : Pos} {fo fi : EM D} (hu : X.A.units + 65 < cLine) (he : Ex X W e fe) (ho : Ex X W o fo) (hi : Ex X W i fi)
    (ha : ∀ v, assign (.Subscript o i p') X.env v = (do
      let ov ← holding [v] (eval o X.env)
      let iv ← holding [v, ov] (eval i X.env)
      standAt p'
      holding [v, ov, iv] (setItem ov iv v)
      release [v, ov, iv] []) := by intro _; rfl)
    (hs : swapsWithSole [.Subscript o i p'] e pos.line X.env = pure false := by rfl) (hw : swappedStores [.Subscript o i p'] e X.env = pure none := by rfl) (h1 : (assignEach [.Subscript o i p'] X.env).map (·.2) = [assign (.Subscript o i p') X.env] := by rfl) : Sx X W (.Assign [.Subscript o i p'] e pos) (sSub fo fi fe) := by
  refine ⟨fun m τ s σ H D hL hS hP pins sh I => (ps_asg peW (pg_sub peW peW (set_any (by omega)) ha) hs hw h1).run pins sh σ H D I ?_⟩
  refine he.run m τ s σ H _ hL hS (hP.bind hL fun v s1 m1 H1 vv e1 hS1 r1 hP1 => ?_)
  refine ho.run m1 τ s1 σ H1 _ (hL.mono e1) hS1 (hP1.bind (hL.mono e1) fun o s2 m2 H2 vo e2 hS2 r2 hP2 => ?_)
  refine hi.run m2 τ s2 σ H2 _ ((hL.mono e1).mono e2) hS2 (hP2.bind ((hL.mono e1).mono e2) fun i s3 m3 H3 vi e3 hS3 r3 hP3 => ?_)
  split at hP3
  · rename_i s4 h4
    obtain ⟨H4, q5, q6, q7⟩ := set_read hS3 (r2.mono e3) r3 ((r1.mono e2).mono e3) h4
    exact q7 _ (hP3 m3 _ σ q5 q6 ((((hL.mono e1).mono e2).mono e3).mono q5))
  · exact hP3.elim
/-! o[i] op= e -/
def oGetL : O2 := fun x i st => match x with
  | .ref n => match dctAt st n with
    | some kvs => if keyFit kvs i then match dGet kvs i with
        | some d => .ok d st
        | none => .bad
      else .bad
    | none => oGetLS x i st
  | _ => oGetLS x i st
def sAugS (o : O2) (fo fi fe : EM D) : SM := fun τ st => bindE (fo τ st) τ fun x s1 => bindE (fi τ s1) τ fun i s2 => bindE (oGetL x i s2) τ fun y s3 => bindE (fe τ s3) τ fun z s4 => bindE (o y z s4) τ fun v s5 => match oSet x i v s5 with
  | some s6 => .nx τ s6
  | none => .bad
def rGet (K : KW) : R2 := fun x y H Q => rIxL K x y H Q ∨ rDG K x y H Q
theorem get_any (hu : X.A.units + 10 < cLine) : PGet X (rGet X.kw) := by
  intro pins s σ H x y v u Q I rx ry h
  rcases h with h | h
  · exact get_list pins s σ H x y v u Q I rx ry h
  · exact get_dg hu pins s σ H x y v u Q I rx ry h
theorem getL_read {m : List Addr} {st : Store} {H : Hp} {x i : D} {vx vi : V} {E : XK} {Q : VK} (hS : SS X.kw m st H) (rx : RD X.K m H x vx) (ri : RD X.K m H i vi) (h : Pe X.kw E (RD X.K) m H (oGetL x i st) Q) : rGet X.kw vx vi H Q := by
  unfold oGetL at h
  split at h
  · split at h
    · rename_i kvs hk
      split at h
      · rename_i f
        split at h
        · rename_i d hd
          exact .inr (dg_some hS hk rx ri f hd h)
        · exact h.elim
      · exact h.elim
    · exact .inl (getL_readS hS rx ri h)
  · exact .inl (getL_readS hS rx ri h)
end
section
variable {X : Cx} {W : WX} {e o a b c : Expr} {es : List Expr} {pos p : Pos} {f fo fa fb fe fi : EM D} {fs : EM (List D)}
theorem sx_augS {o i : Expr} {p' : Pos} {fo fi : EM D} {op : Operator} {op2 : O2} (hu : X.A.units + 65 < cLine) (ho : Ex X W o fo) (hi : Ex X W i fi) (he : Ex X W e fe) (hop : OpM X W (inplaceOp op) op2)
    (ha : ∀ ov iv new, augStore i ov iv new = (do holding [new, ov, iv] (setItem ov iv new); release [new, ov, iv] []; pure .next) := by intros; rfl) : Sx X W (.AugAssign (.Subscript o i p') op e pos) (sAugS op2 fo fi fe) := by
  refine ⟨fun m τ s σ H D hL hS hP pins sh I => ?_⟩
  have read : wE X o σ H fun vo H1 => wE X i σ H1 fun vi H2 => rGet X.kw vo vi H2 fun vy H3 => wE X e σ H3 fun vz H4 => wR2 X (inplaceOp op) σ vy vz H4 fun vv H5 => rSet X.kw vo vi vv H5 fun H6 => D.nx σ H6 := by
    refine ho.run m τ s σ H _ hL hS (hP.bind hL fun dx s1 m1 H1 vx e1 hS1 r1 hP1 => ?_)
    have hL1 := hL.mono e1
    refine hi.run m1 τ s1 σ H1 _ hL1 hS1 (hP1.bind hL1 fun di s2 m2 H2 vi e2 hS2 r2 hP2 => ?_)
    have hL2 := hL1.mono e2
    refine getL_read hS2 (r1.mono e2) r2 (hP2.bind hL2 fun dy s3 m3 H3 vy e3 hS3 r3 hP3 => ?_)
    have hL3 := hL2.mono e3
    refine he.run m3 τ s3 σ H3 _ hL3 hS3 (hP3.bind hL3 fun dz s4 m4 H4 vz e4 hS4 r4 hP4 => ?_)
    have hL4 := hL3.mono e4
    intro pins s v u I rv ru
    refine hop m4 s4 σ H4 dy dz vy vz _ hS4 (r3.mono e4) r4 (hP4.bind hL4 fun dv s5 m5 H5 vv e5 hS5 r5 hP5 => ?_) pins s v u I rv ru
    have hL5 := hL4.mono e5
    split at hP5
    · rename_i s6 h6
      have e25 := ((e3.trans e4).trans e5)
      obtain ⟨H6, q5, q6, q7⟩ := set_read hS5 ((r1.mono e2).mono e25) (r2.mono e25) r5 h6
      exact q7 _ (hP5 m5 _ σ q5 q6 (hL5.mono q5))
    · exact hP5.elim
  refine wpAny_AugAssign_SubscriptAny (thn (read pins sh I) fun ov s1 ⟨x1, H1, I1, r1, q1⟩ => ?_) ha
  refine thn (q1 pins s1 I1) fun iv s2 ⟨x2, H2, I2, r2, q2⟩ => ?_
  refine thn (get_any (by omega) pins s2 σ H2 x1 x2 ov iv _ I2 r1 r2 q2) fun old s3 ⟨x3, H3, I3, r3, q3⟩ => ?_
  refine thn (q3 pins s3 I3) fun v s4 ⟨x4, H4, I4, r4, q4⟩ => ?_
  refine thn (q4 pins s4 old v I4 r3 r4) fun new s5 ⟨x5, H5, I5, r5, q5⟩ => ?_
  exact thn (set_any (by omega) pins s5 σ H5 x1 x2 x5 ov iv new _ I5 r1 r2 r5 q5) fun _ s6 ⟨H6, I6, q6⟩ => ⟨σ, H6, I6, q6⟩
/-! len -/
/-- it is a dict with so many entries -/
def IsDG (K : KW) (H : Hp) (a : Addr) (n : Nat) : Prop := (∃ us, H a = some (.dK us) ∧ us.length = n) ∨ ∃ xs, H a = some (.ext (DObj K.w a xs)) ∧ (∀ x ∈ xs, NV K H x.1 (.ref x.2.1) ∧ x.1.depth ≤ 8) ∧ xs.length = n
theorem isDG_of {K : KW} {m : List Addr} {st : Store} {H : Hp} {n : Nat} {kvs : List (D × D)} {v : V} (hS : SS K m st H) (hk : dctAt st n = some kvs) (r : RD K m H (.ref n) v) : ∃ a, v = .ref a ∧ IsDG K H a kvs.length := by
  cases r with
  | ref q =>
    rcases hS.dict hk q with ⟨us, e, r⟩ | ⟨xs, e, ne, r⟩
    · exact ⟨_, rfl, .inl ⟨us, e, (Paired.length r).symm⟩⟩
    · exact ⟨_, rfl, .inr ⟨xs, e, keys2 r, (Paired.length r).symm⟩⟩
theorem call_len_dg : CallR X (.builtin "len") (fun xs H Q => ∃ a n, xs = [.ref a] ∧ IsDG X.kw H a n ∧ Q (.int (n : Nat)) H) := by
  intro pins s σ H xs us Q I r h
  obtain ⟨a, n, rfl, g, q⟩ := h
  obtain ⟨u, rfl, rx⟩ := vals1 r
  cases (show u = Value.ref a from rx)
  rcases g with ⟨us, e, rfl⟩ | ⟨xs, e, hx, rfl⟩
  · exact d_len I (.inl e) fun t s' I' => ⟨.int us.length, H, I', ⟨t, rfl⟩, q⟩
  · obtain ⟨hd, hz, zs, rel, dd⟩ := dobj_at I e hx
    have hl : xs.length = zs.length := Paired.length rel
    refine call_len_dictH hd dd (by rw [← hl]; rw [sizeLine_eq] at hz; omega) ?_
    rw [hl] at q
    exact ⟨.int zs.length, H, I.tok _, ⟨_, rfl⟩, q⟩
def fLen : FM := fun ds st => match ds with
  | [.ref n] => match dctAt st n with
    | some kvs => .ok (.int kvs.length) st
    | none => fLenS ds st
  | _ => fLenS ds st
theorem c_len : CallM X (.builtin "len") fLen := by
  obtain ⟨r, hr, h⟩ := c_lenS (X := X)
  refine ⟨_, hr.or call_len_dg, fun m st H ds vs E Q hS rs hP => ?_⟩
  unfold fLen at hP
  split at hP
  · split at hP
    · rename_i kvs hk
      obtain ⟨v, rfl, r1⟩ := rs.one
      obtain ⟨a, rfl, g⟩ := isDG_of hS hk r1
      exact .inr ⟨a, _, rfl, g, hP.now hS (.int _)⟩
    · exact .inl (h m st H _ vs E Q hS rs hP)
  · exact .inl (h m st H _ vs E Q hS rs hP)
/-! d.get(k), d.get(k, x) -/
theorem isDG_at {pins : List (Addr × Obj)} {σ : L2.St} {H : Hp} {s : Shared} {a : Addr} {n : Nat} (I : Inv X pins σ H s) (g : IsDG X.kw H a n) : s.TypeIs (.ref a) "dict" ∧ ∀ b, Value.ref a = .ref b → ∃ ob, s.heap.get? b = some ob ∧ ob.dict = none := by
  rcases g with ⟨us, e, rfl⟩ | ⟨xs, e, hx, rfl⟩
  · obtain ⟨_, hd, vs, _, dd⟩ := dk_of I.hok e
    refine ⟨dd.typeIs, fun b q => ?_⟩
    cases q
    obtain ⟨ob, _, _, h1, h2, _⟩ := dd
    exact ⟨ob, h1, h2.2.1⟩
  · obtain ⟨_, _, zs, _, dd⟩ := dobj_at I e hx
    refine ⟨dd.typeIs, fun b q => ?_⟩
    cases q
    obtain ⟨ob, _, _, h1, h2, _⟩ := dd
    exact ⟨ob, h1, h2.2.1⟩
def isDct (st : Store) (d : D) : Bool := match d with
  | .ref n => (dctAt st n).isSome
  | _ => false
def oDGet (d k x : D) (st : Store) : ER D := match d with
  | .ref n => match dctAt st n with
    | some kvs => if keyFit kvs k then .ok ((dGet kvs k).getD x) st else .bad
    | none => .bad
  | _ => .bad
def eGet2 (fo fa fb : EM D) : EM D := fun τ st => (fo τ st).bind fun d s1 => if isDct s1 d then (fa τ s1).bind fun k s2 => (fb τ s2).bind fun x s3 => oDGet d k x s3 else .bad
def eGet1 (fo fa : EM D) : EM D := fun τ st => (fo τ st).bind fun d s1 => if isDct s1 d then (fa τ s1).bind fun k s2 => oDGet d k .non s2 else .bad
theorem isDct_of {m : List Addr} {st : Store} {H : Hp} {d : D} {v : V} (hS : SS X.kw m st H) (h : isDct st d = true) (r : RD X.K m H d v) : ∃ a n, v = .ref a ∧ IsDG X.kw H a n := by
  unfold isDct at h
  split at h
  · obtain ⟨kvs, hk⟩ := Option.isSome_iff_exists.mp h
    obtain ⟨a, e, g⟩ := isDG_of hS hk r
    exact ⟨a, _, e, g⟩
  · cases h
theorem oDGet_of {m : List Addr} {st : Store} {H : Hp} {d k x : D} {v y z : V} {E : XK} {Q : VK} (hS : SS X.kw m st H) (r : RD X.K m H d v) (rk : RD X.K m H k y) (rx : RD X.K m H x z) (hP : Pe X.kw E (RD X.K) m H (oDGet d k x st) Q) : ∃ a o, v = .ref a ∧ DG X.kw H a y o ∧ Q (o.getD z) H := by
  unfold oDGet at hP
  split at hP
  · split at hP
    · rename_i kvs hk
      split at hP
      · rename_i f
        cases r with
        | ref q =>
          obtain ⟨o, g, ro⟩ := dg_of (hS.dict hk q) rk f
          refine ⟨_, o, rfl, g, hP.now hS ?_⟩
          cases h1 : dGet kvs k <;> cases h2 : o <;> rw [h1, h2] at ro <;> first | exact rx | exact ro | exact ro.elim
      · exact hP.elim
    · exact hP.elim
  · exact hP.elim
theorem ex_get2 {apos cpos : Pos} (hu : X.A.units + 65 < cLine) (ho : Ex X W o fo) (ha : Ex X W a fa) (hb : Ex X W b fb) (m : M2 X o "get" apos a b cpos) : Ex X W (.Call (.Attribute o "get" apos) [a, b] [] cpos) (eGet2 fo fa fb) := by
  refine ⟨fun m0 τ st σ H Q hL hS hP pins s I => ?_⟩
  have read : wE X o σ H fun vo H1 => ∃ p n, vo = .ref p ∧ IsDG X.kw H1 p n ∧ wE X a σ H1 fun y H2 => wE X b σ H2 fun z H3 => ∃ q, DG X.kw H3 p y q ∧ Q (q.getD z) H3 := by
    refine ho.run m0 τ st σ H _ hL hS (hP.bind fun d s1 m1 H1 v e1 hS1 r1 hP1 => ?_)
    split at hP1
    · rename_i hk
      obtain ⟨p, n, rfl, g⟩ := isDct_of hS1 hk r1
      refine ⟨p, n, rfl, g, ha.run m1 τ s1 σ H1 _ (hL.mono e1) hS1 (hP1.bind fun k s2 m2 H2 y e2 hS2 r2 hP2 => ?_)⟩
      refine hb.run m2 τ s2 σ H2 _ ((hL.mono e1).mono e2) hS2 (hP2.bind fun x s3 m3 H3 z e3 hS3 r3 hP3 => ?_)
      obtain ⟨p', q, e, g', hq⟩ := oDGet_of hS3 ((r1.mono e2).mono e3) (r2.mono e3) r3 hP3
      cases e
      exact ⟨q, g', hq⟩
    · exact hP1.elim
  refine wpAny_Call_method m.base m.few m.line PySem.F.plainAttrs_dict PySem.F.slot_dict_get PySem.F.type_dict_get (thn (read pins s I) fun u s1 ⟨x, H1, I1, rx, p, n, ex, g, q1⟩ => ?_)
  subst ex
  obtain rfl : u = Value.ref p := rx
  obtain ⟨t1, t2⟩ := isDG_at I1 g
  refine ⟨t1, t2, ?_⟩
  rw [m.trees]
  refine Calls.callWith_builtin rfl (Calls.evalArgs_plain (Calls.spliced_cons (thn (q1 pins s1 I1) fun iv s2 ⟨y, H2, I2, ry, q2⟩ =>
    Calls.spliced_cons (thn (q2 pins s2 I2) fun fv s3 ⟨z, H3, I3, rz, ov, g3, q3⟩ => Calls.spliced_nil ?_))))
  exact dg_get2 (by omega) I3 g3 ry rz fun w' s4 I4 rw' => ⟨_, H3, I4, rw', q3⟩
theorem ex_get1 {apos cpos : Pos} (hu : X.A.units + 65 < cLine) (ho : Ex X W o fo) (ha : Ex X W a fa) (m : M1 X o "get" apos a cpos) : Ex X W (.Call (.Attribute o "get" apos) [a] [] cpos) (eGet1 fo fa) := by
  refine ⟨fun m0 τ st σ H Q hL hS hP pins s I => ?_⟩
  have read : wE X o σ H fun vo H1 => ∃ p n, vo = .ref p ∧ IsDG X.kw H1 p n ∧ wE X a σ H1 fun y H2 => ∃ q, DG X.kw H2 p y q ∧ Q (q.getD .non) H2 := by
    refine ho.run m0 τ st σ H _ hL hS (hP.bind fun d s1 m1 H1 v e1 hS1 r1 hP1 => ?_)
    split at hP1
    · rename_i hk
      obtain ⟨p, n, rfl, g⟩ := isDct_of hS1 hk r1
      refine ⟨p, n, rfl, g, ha.run m1 τ s1 σ H1 _ (hL.mono e1) hS1 (hP1.bind fun k s2 m2 H2 y e2 hS2 r2 hP2 => ?_)⟩
      obtain ⟨p', q, e, g', hq⟩ := oDGet_of hS2 (r1.mono e2) r2 .non hP2
      cases e
      exact ⟨q, g', hq⟩
    · exact hP1.elim
  refine wpAny_Call_method m.base m.few m.line PySem.F.plainAttrs_dict PySem.F.slot_dict_get PySem.F.type_dict_get (thn (read pins s I) fun u s1 ⟨x, H1, I1, rx, p, n, ex, g, q1⟩ => ?_)
  subst ex
  obtain rfl : u = Value.ref p := rx
  obtain ⟨t1, t2⟩ := isDG_at I1 g
  refine ⟨t1, t2, ?_⟩
  rw [m.trees]
  refine Calls.callWith_builtin rfl (Calls.evalArgs_plain (Calls.spliced_cons (thn (q1 pins s1 I1) fun iv s2 ⟨y, H2, I2, ry, ov, g3, q3⟩ => Calls.spliced_nil ?_)))
  exact dg_get1 (by omega) I2 g3 ry fun w' s4 I4 rw' => ⟨_, H2, I4, rw', q3⟩
end
end HM

/-! HM, part O: sorting tuples of which some are empty. -/
namespace HM
open PySem PySem.Calls PySem.Spec PyProof.Rows PySem.W PySem.SeqAt
section
variable {prog : Program} {w : World} {A : Around} {E : Value → Shared → Prop} {s : Shared}
theorem call_tuple_lt {Q : Value → Shared → Prop} {l b : Addr} {items items2 : Array Value} {e r : Nat → Bool} (hl : s.heap.IsTuple l items) (hb : s.heap.IsTuple b items2)
    (he : ∀ j (h1 : j < items.size) (h2 : j < items2.size), EqAt A.in1 s items[j] items2[j] (e j)) (hr : ∀ j (h1 : j < items.size) (h2 : j < items2.size), e j = false → RcLt A.in1 s items[j] items2[j] (r j))
    (h : Q (.bool (firstLt e r (decide (items.size < items2.size)) (List.range (min items.size items2.size)))) s) : wpAny (model prog w) A (call (.builtin "tuple.__lt__") [.ref l, .ref b]) Q E s := by
  obtain ⟨⟨cls, dd, data, sl⟩, ho, hc, n, hd⟩ := id hl
  obtain ⟨⟨cls2, dd2, data2, sl2⟩, ho2, hc2, n2, hd2⟩ := id hb
  simp only at hc hd hc2 hd2
  subst hc hd hc2 hd2
  exact call_meets PySem.F.slot_tuple_lt ⟨_, ho, rfl⟩ PySem.F.entry_tuple_lt (PySem.F.args_tuple_lt_2 _ _) (PySem.SeqAt.tuple_ltAt l b items items2 n n2 dd dd2 sl sl2 e r) ⟨ho, ho2, he, hr, h⟩
theorem oneLt_tup {xs ys : List PyData} {a b : Value} {as bs : List Addr} {Q : Bool → Shared → Prop} (f : Bool) (ra : PySem.Reads s.heap a (.tuple xs) as) (rb : PySem.Reads s.heap b (.tuple ys) bs) (h : alike (.tuple xs) (.tuple ys) = true)
    (hu : A.units + min (PyData.tuple xs).depth (PyData.tuple ys).depth < cLine) (hq : Q (dataLt (.tuple xs) (.tuple ys)) s) : wpAny (model prog w) A (oneLt' f a b) Q E s := by
  cases f with
  | false =>
    rw [oneLt'_eq]
    simp only [Bool.false_eq_true, if_false]
    exact wpAny_bind (rcLt_alike _ _ A s a b as bs ra rb h (by simp) hu prog w E _ (wpAny_truthy_bool hq))
  | true =>
    have hal : alikeAll xs ys = true := by simpa [alike] using h
    cases ra with
    | @tuple l o vs n _ as₁ h1 h2 h3 h4 =>
      cases rb with
      | @tuple l' o' vs' n' _ bs₁ k1 k2 k3 k4 =>
        have n1 : vs.size = xs.length := by simpa using ReadsAll.length _ _ _ h4
        have n2 : vs'.size = ys.length := by simpa using ReadsAll.length _ _ _ k4
        rw [dataLt_tuple, ← firstLt_toks xs ys hal, ← n1, ← n2] at hq
        rw [oneLt'_eq]
        simp only [if_true]
        refine wpAny_bind (wpAny_cRoomFor (room_here hu) ?_)
        refine wpAny_bind (wpAny_callSpecialIfBound?_slot (T := "tuple") ⟨_, h1, h2⟩ PySem.F.slot_tuple_lt (call_tuple_lt (e := pairEq xs ys) (r := fun j => dataLt (xs.getD j .none) (ys.getD j .none)) ⟨_, h1, h2, _, h3⟩ ⟨_, k1, k2, _, k3⟩ (fun j j1 j2 => ?_) (fun j j1 j2 hj => ?_) ?_))
        · have := eqAt_alikeAll xs ys A.in1 s vs.toList vs'.toList _ _ h4 k4 hal (room_in hu) j (by simpa using j1) (by simpa using j2)
          simpa using this
        · have := rcLt_alikeAll xs ys A.in1 s vs.toList vs'.toList _ _ h4 k4 hal (room_in hu) j (by simpa using j1) (by simpa using j2) hj
          simpa using this
        · exact wpAny_truthy_bool hq
/-- the firsts of tuples -/
theorem firsts_tup : ∀ {vs : List Value} {ds : List PyData} {Q : List (Option Value) → Shared → Prop}, EachIs (fun v d => ∃ as, PySem.Reads s.heap v d as) vs ds → (∀ d, d ∈ ds → ∃ r, d = PyData.tuple r) →
    (∀ fs : List (Option Value), fs.length = vs.length → (∀ i : Nat, (fs[i]?.bind id).isSome = true ↔ ∃ (x : PyData) (r : List PyData), ds[i]? = some (PyData.tuple (x :: r))) → Q fs s) → wpAny (model prog w) A (vs.mapM firstOfTuple') Q E s
  | [], [], Q, .nil, _, h => by
    rw [List.mapM_nil]
    exact wpAny_pure (h [] rfl fun i => by simp)
  | v :: vs, d :: ds, Q, .cons ⟨as, r⟩ t, ht, h => by
    obtain ⟨xs, rfl⟩ := ht d (List.mem_cons_self ..)
    rw [List.mapM_cons]
    cases r with
    | @tuple a o its n _ _ ho hc hd hr =>
      refine wpAny_bind ?_
      rw [kas_first_eq]
      refine wpAny_bind (Looks.here (show Looks (model prog w) s.heap (typeOf (.ref a)) o.cls from (Looks.ld ho).andThen .now) ?_)
      rw [hc, if_neg (by first | decide | simp)]
      refine wpAny_bind (listItems_at ho hd (wpAny_pure ?_))
      refine wpAny_bind (firsts_tup t (fun d hd => ht d (List.mem_cons_of_mem _ hd)) fun fs h1 h2 => wpAny_pure (h _ (by simp [h1]) fun i => ?_))
      cases i with
      | zero =>
        have hl := SeqAt.ReadsAll.length _ _ _ hr
        cases xs with
        | nil =>
          have : its.size = 0 := by simpa using hl
          simp [this]
        | cons x r =>
          have : 0 < its.size := by
            have : its.size = r.length + 1 := by simpa using hl
            omega
          simp [this]
      | succ i => simpa using h2 i
theorem fst_of {fs : List (Option Value)} (h : fs.all (·.isSome) = false) : ∃ i, (fs[i]?.bind id).isSome = false ∧ i < fs.length := by
  induction fs with
  | nil => simp at h
  | cons f fs ih =>
    cases hf : f.isSome with
    | false => exact ⟨0, by simpa using hf, by simp⟩
    | true =>
      rw [List.all_cons, hf, Bool.true_and] at h
      obtain ⟨i, h1, h2⟩ := ih h
      exact ⟨i + 1, by simpa using h1, by simpa using h2⟩
/-- tuples of which some are empty -/
theorem SortsAt_tups {vs : List Value} {ds : List PyData} (e : EachIs (fun v d => ∃ as, PySem.Reads s.heap v d as) vs ds) (hal : AllAlike ds) (hk : ∀ d, d ∈ ds → ∃ r, d = .tuple r) (h0 : PyData.tuple [] ∈ ds) (hu : ∀ d, d ∈ ds → A.units + d.depth < cLine) : SortsAt prog w A s (dataKind s.heap ds) vs := by
  have room : ∀ {d d' : PyData}, d ∈ ds → A.units + min d.depth d'.depth < cLine := fun {d d'} hd => Nat.lt_of_le_of_lt (Nat.add_le_add_left (Nat.min_le_left _ _) _) (hu d hd)
  have lt : ∀ (f : Bool) (E : Value → Shared → Prop) (x y : Value) (a b : (dataKind s.heap ds).α) (Q : Bool → Shared → Prop), (dataKind s.heap ds).keyOf x = some a → (dataKind s.heap ds).keyOf y = some b → Q ((dataKind s.heap ds).blt a b) s → wpAny (model prog w) A (oneLt' f x y) Q E s := fun f E x y a b Q ha hb hq => by
    obtain ⟨d, as, hd, ra, rfl⟩ := dataKind_inv ha
    obtain ⟨d', as', hd', rb, rfl⟩ := dataKind_inv hb
    obtain ⟨r1, rfl⟩ := hk d hd
    obtain ⟨r2, rfl⟩ := hk d' hd'
    exact oneLt_tup f ra rb (hal _ hd _ hd') (room hd) hq
  refine ⟨fun v hv => ?_, ?_⟩
  · obtain ⟨d, hd, as, r⟩ := e.left v hv
    exact ⟨_, dataKind_some hal hd r⟩
  · cases ds with
    | nil => cases h0
    | cons d₀ ds₀ =>
      obtain ⟨r₀, rfl⟩ := hk d₀ (List.mem_cons_self ..)
      have kinds : ∀ (E : Value → Shared → Prop) {Q : SortKind → Shared → Prop}, Q (if r₀ = [] then oneType' else general') s → wpAny (model prog w) A (keyKind' vs.toArray) Q E s := fun E Q hq => by
        rw [keyKind'_eq, List.mapM_toArray, map_eq_pure_bind]
        refine wpAny_bind (wpAny_bind (firsts_tup e hk fun fs h1 h2 => wpAny_pure ?_))
        have hz : fs.all (·.isSome) = false := by
          obtain ⟨i, hi⟩ := List.getElem?_of_mem h0
          cases hq : fs.all (·.isSome) with
          | false => rfl
          | true =>
            rw [List.all_eq_true] at hq
            have hn : ¬ (fs[i]?.bind id).isSome = true := by
              rw [h2 i, hi]
              rintro ⟨x, r, h⟩
              cases h
            have hil : i < fs.length := by
              rw [h1, e.length]
              exact (List.getElem?_eq_some_iff.mp hi).1
            have := hq fs[i] (List.getElem_mem hil)
            rw [List.getElem?_eq_getElem hil] at hn
            exact absurd this hn
        rw [if_neg (by simpa using hz)]
        have hf := h2 0
        simp only [List.getElem?_cons_zero, Option.some.injEq, PyData.tuple.injEq] at hf
        cases r₀ with
        | cons x r =>
          have hf : (fs[0]?.bind id).isSome = true := hf.mpr ⟨x, r, rfl⟩
          rw [if_pos (by simpa using hf)]
          rw [if_neg (by simp)] at hq
          exact wpAny_pure hq
        | nil =>
          have hf : ¬ (fs[0]?.bind id).isSome = true := fun h => by
            obtain ⟨x, r, h⟩ := hf.mp h
            cases h
          rw [if_neg (by simpa using hf)]
          rw [if_pos rfl] at hq
          rw [oneTypeOnly'_eq, List.mapM_toArray, map_eq_pure_bind]
          refine wpAny_bind (wpAny_bind (wpAny_bind (kas_mapM (r := Value.type "tuple") _ (fun v hv Q' hq => ?_) (wpAny_pure ?_))))
          · obtain ⟨d, hd, as, r⟩ := e.left v hv
            obtain ⟨xs, rfl⟩ := hk d hd
            exact (looks_reads r).here hq
          · have hall : ((List.map (fun _ => Value.type "tuple") vs).toArray.all fun x => x == Value.type "tuple") = true := by
              simp only [List.all_toArray, List.all_map, List.all_eq_true]
              intro _ _
              rfl
            cases vs with
            | nil => cases e
            | cons v vs =>
              have h0 : (List.map (fun _ => Value.type "tuple") (v :: vs)).toArray[0]? = some (Value.type "tuple") := by simp
              rw [h0]
              simp only [hall, if_true]
              exact wpAny_pure (wpAny_pure hq)
      by_cases hr : r₀ = []
      · rw [if_pos hr] at kinds
        exact ⟨oneType', fun E x y a b Q ha hb hq => by rw [keyLt'_oneType]; exact lt true E x y a b Q ha hb hq, fun _ E Q hq => kinds E hq⟩
      · rw [if_neg hr] at kinds
        exact ⟨general', fun E x y a b Q ha hb hq => lt false E x y a b Q ha hb hq, fun _ E Q hq => kinds E hq⟩
/-- what can be sorted: data of one kind, or tuples -/
def Sortable2 (ds : List PyData) : Prop := Sortable ds ∨ ((∀ d, d ∈ ds → ∃ r, d = PyData.tuple r) ∧ PyData.tuple [] ∈ ds)
theorem SortsAt_data2 {vs : List Value} {ds : List PyData} (e : EachIs (fun v d => ∃ as, PySem.Reads s.heap v d as) vs ds) (hal : AllAlike ds) (hk : Sortable2 ds) (hu : ∀ d, d ∈ ds → A.units + d.depth < cLine) : SortsAt prog w A s (dataKind s.heap ds) vs := by
  rcases hk with hk | ⟨hk, h0⟩
  · exact SortsAt.data e hal hk hu
  · exact SortsAt_tups e hal hk h0 hu
theorem bound_map2 {β : Type} {bs : List β} {enc : β → PyData} (hu : ∀ b, b ∈ bs → A.units + 2 + (enc b).depth < cLine) : ∀ d, d ∈ bs.map enc → A.in1.in1.units + d.depth < cLine := by
  intro d hd
  obtain ⟨b, hb, rfl⟩ := List.mem_map.mp hd
  exact hu b hb
/-- sorted(xs) -/
theorem sorted_data2 {β : Type} {R : Value → β → Prop} {enc : β → PyData} {bs : List β} {vs : List Value} {l : Addr} {Q : Value → Shared → Prop} (hl : s.heap.IsList l vs.toArray) (e : EachIs R vs bs) (er : EachIs (fun v b => ∃ as, PySem.Reads s.heap v (enc b) as) vs bs) (hal : AllAlike (bs.map enc)) (hk : Sortable2 (bs.map enc)) (hL : bs.length ≤ sizeLine)
    (hu : ∀ b, b ∈ bs → A.units + 2 + (enc b).depth < cLine) (h : ∀ out, out.length = bs.length → EachIs R out (bs.mergeSort (dataLe false enc)) → Q (.ref (s.heap.objs.size + 1)) { s with heap := PyProof.Rows.sortedAll s.heap vs (List.toArray out) }) :
    wpAny (model prog w) A (call (.builtin "sorted") [.ref l]) Q E s := by
  have er' : EachIs (fun v b => ∃ as, PySem.Reads (sortingHeap (copyHeap s.heap vs) (s.heap.objs.size + 1) vs) v (enc b) as) vs bs := er.mono fun _ _ ⟨as, r⟩ => ⟨as, PyProof.Rows.Reads.keeps (fun _ _ => sorting_copy_old) r⟩
  exact sorted_vals hl (SortsAt_data2 (s := { s with heap := sortingHeap (copyHeap s.heap vs) (s.heap.objs.size + 1) vs }) (each_map (R := fun v d => ∃ as, PySem.Reads (sortingHeap (copyHeap s.heap vs) (s.heap.objs.size + 1) vs) v d as) enc er') hal hk (bound_map2 hu)) (by rw [e.length]; exact hL)
    (h _ (by rw [sortVals_length false rfl]; exact e.length) (sortVals_data false e er' hal))
end
end HM

/-! HM, part E: order, sorted, places. -/
namespace HM
open PySem PySem.Spec PyProof.Rows L2
section
variable {X : Cx} {W : WX} {e o a b c : Expr} {es : List Expr} {pos p : Pos} {f fo fa fb : EM D} {fs : EM (List D)}
/-! ### < -/
def D.isTup (d : D) : Bool := match d with
  | .tup _ => true
  | _ => false
def dLt (x y : D) : Option Bool := if x.isTup && x.plain 60 && y.plain 60 && PySem.W.alike (x.toP 60) (y.toP 60) then some (PySem.W.dataLt (x.toP 60) (y.toP 60)) else none
def oLt : O2 := fun x y st => match x, y with
  | .int i, .int j => .ok (.bl (decide (i < j))) st
  | x, y => match dLt x y with
    | some b => .ok (.bl b) st
    | none => .bad
theorem toP_tup {x : D} (h : x.isTup = true) : x.toP 60 ≠ .none := by
  cases x <;> simp [D.isTup] at h <;> simp [D.toP]
theorem m_lt (hu : X.A.units + 65 < cLine) : OpM X W (compareOp .Lt) oLt := fun m st σ H dx dy x y Q hS r1 r2 hP pins s v u I rx ry => by
  unfold oLt at hP
  split at hP
  · exact m_ltI (W := W) m st σ H _ _ x y Q hS r1 r2 hP pins s v u I rx ry
  · split at hP
    · rename_i b hb
      unfold dLt at hb
      split at hb
      · rename_i hc
        cases hb
        simp only [Bool.and_eq_true] at hc
        obtain ⟨⟨⟨h1, h2⟩, h3⟩, h4⟩ := hc
        obtain ⟨a1, a2, a3⟩ := plain_dp 60 dx x h2 r1
        obtain ⟨b1, b2, b3⟩ := plain_dp 60 dy y h3 r2
        obtain ⟨as, ra⟩ := Dp.reads I _ x v a1 rx
        obtain ⟨bs, rb⟩ := Dp.reads I _ y u b1 ry
        exact PySem.W.lt_data ra rb h4 (toP_tup h1) (by omega) ⟨.bl _, H, I, rfl, hP.now hS (.bl _)⟩
      · cases hb
    · exact hP.elim
end

/-! ### sorted -/
section
open PySem.W PySem.Calls
variable {prog : Program} {w : World} {A : Around} {E : Value → Shared → Prop} {s : Shared}
theorem collect_tup {l : Addr} {vs : List Value} {Q : List Value → Shared → Prop} (hl : PyProof.Rows.IsTup s.heap l vs.toArray)
    (h : Q vs { s with heap := (s.heap.push (seqObj "list" #[] 0)).update s.heap.objs.size (Obj.mapSeq (· ++ vs.toArray)) }) (hsz : vs.length ≤ sizeLine) :
    wpAny (model prog w) A (collect (.ref l)) Q E s := by
  obtain ⟨o, ho, hc, n, hd⟩ := id hl
  unfold collect
  refine wpAny_bind (wpAny_runValue (codeAny_builtin entry_proto_collect' ?_))
  show wpAny _ _ (do again (.builtin "list.__iadd__" ⟨[← newList [], .ref l], []⟩)) _ _ s
  refine wpAny_bind (wpAny_newList (wpAny_pure ⟨Code.quiet_builtin _ (by decide +kernel), codeAny_builtin entry_list_iadd' ?_⟩))
  show wpAny _ _ (Builtin.List.listExtendWith (.ref s.heap.objs.size) (.ref l) (.ref s.heap.objs.size)) _ _ { s with heap := s.heap.push (seqObj "list" #[] 0) }
  unfold Builtin.List.listExtendWith
  have ho' : (s.heap.push (seqObj "list" #[] 0)).get? l = some o := Heap.get?_push_of_some _ ho
  refine wpAny_bind (wpAny_typeOf (T := "tuple") ⟨o, ho', hc⟩ ?_)
  have ht : (Value.type "tuple" == Value.type "tuple") = true := by rfl
  rw [if_pos (by rw [ht]; simp)]
  refine wpAny_bind (listItems_at ho' hd ?_)
  refine wpAny_bind (listItems_at (xs := #[]) (n := 0) (Heap.get?_push_size _ rfl) rfl ?_)
  rw [if_neg (by simp)]
  refine wpAny_bind (listUpdate_at (xs := #[]) (n := 0) (Heap.get?_push_size _ rfl) rfl ?_ (Nat.zero_le _) (by show (#[] ++ vs.toArray).size ≤ sizeLine + 1; simp only [Array.size_append, List.size_toArray, List.length_nil]; omega))
  refine wpAny_pure ?_
  show wpAny (model prog w) A (do
      let o ← load s.heap.objs.size
      match o.data with
      | .seq xs _ => pure xs.toList
      | _ => unsupported "internal:collect") Q E { s with heap := (s.heap.push (seqObj "list" #[] 0)).update s.heap.objs.size (Obj.mapSeq (· ++ vs.toArray)) }
  refine wpAny_bind (wpAny_load (get?_update_seq (Heap.get?_push_size _ rfl) _) ?_)
  show wpAny _ _ (pure ((#[] : Array Value) ++ vs.toArray).toList) Q E _
  rw [show ((#[] : Array Value) ++ vs.toArray).toList = vs by simp]
  exact wpAny_pure h
theorem sorted_of_sortT {l : Addr} {vs : List Value} {kw : List (PySem.Str × Value)} {Q : Value → Shared → Prop} (hl : PyProof.Rows.IsTup s.heap l vs.toArray) (hL : vs.length ≤ sizeLine) (ha1 : argsOk "sorted" ⟨[.ref l], kw⟩) (ha2 : ∀ x, argsOk "list.sort" ⟨[.ref x], kw⟩)
    (body : ∀ E' : Value → Shared → Prop, wpAny (model prog w) A.in1.in1 (Builtin.«list.sort» ⟨[.ref (s.heap.objs.size + 1)], kw⟩) (fun f s' => f = .done (.ret .none) ∧ Q (.ref (s.heap.objs.size + 1)) s') E' { s with heap := copyHeap s.heap vs }) :
    wpAny (model prog w) A (call (.builtin "sorted") [.ref l] kw) Q E s := by
  refine call_function_entry_kw kind_sorted plain_sorted entry_sorted ha1 ?_
  unfold Builtin.«sorted»
  refine wpAny_bind (m := checkCount "sorted" 1 1 _) (wpAny_pure ?_)
  refine wpAny_bind (collect_tup hl ?_ hL)
  refine wpAny_bind (wpAny_newList ?_ hL)
  have hsz : ((s.heap.push (seqObj "list" #[] 0)).update s.heap.objs.size (Obj.mapSeq (· ++ vs.toArray))).objs.size = s.heap.objs.size + 1 := by
    rw [Heap.size_update, size_push']
  show wpAny _ _ _ _ _ { s with heap := copyHeap s.heap vs }
  rw [hsz]
  refine wpAny_bind (wpAny_holding (wpAny_call_entry_kw slot_list_sort ⟨_, copyHeap_at s.heap vs, rfl⟩ entry_list_sort ?body (ha2 _)))
  case body =>
    show wpAny (model prog w) A.in1.in1 (Builtin.«list.sort» ⟨[.ref (s.heap.objs.size + 1)], kw⟩) _ _ _
    refine wpAny_mono (body _) (fun f s' hf => ?_) fun _ _ e => e
    obtain ⟨rfl, hq⟩ := hf
    exact ⟨_, rfl, wpAny_pure ⟨_, rfl, hq⟩⟩
theorem bound_mapT {β : Type} {bs : List β} {enc : β → PyData} (hu : ∀ b, b ∈ bs → A.units + 2 + (enc b).depth < cLine) : ∀ d, d ∈ bs.map enc → A.in1.in1.units + d.depth < cLine := by
  intro d hd
  obtain ⟨b, hb, rfl⟩ := List.mem_map.mp hd
  exact hu b hb
theorem sorted_dataT {β : Type} {R : Value → β → Prop} {enc : β → PyData} {bs : List β} {vs : List Value} {l : Addr} {Q : Value → Shared → Prop} (hl : PyProof.Rows.IsTup s.heap l vs.toArray) (e : EachIs R vs bs) (er : EachIs (fun v b => ∃ as, PySem.Reads s.heap v (enc b) as) vs bs) (hal : AllAlike (bs.map enc)) (hk : Sortable2 (bs.map enc)) (hL : bs.length ≤ sizeLine)
    (hu : ∀ b, b ∈ bs → A.units + 2 + (enc b).depth < cLine) (h : ∀ out, out.length = bs.length → EachIs R out (bs.mergeSort (dataLe false enc)) → Q (.ref (s.heap.objs.size + 1)) { s with heap := sortedAll s.heap vs (List.toArray out) }) :
    wpAny (model prog w) A (call (.builtin "sorted") [.ref l]) Q E s := by
  have er' : EachIs (fun v b => ∃ as, PySem.Reads (sortingHeap (copyHeap s.heap vs) (s.heap.objs.size + 1) vs) v (enc b) as) vs bs := er.mono fun _ _ ⟨as, r⟩ => ⟨as, PyProof.Rows.Reads.keeps (fun _ _ => sorting_copy_old) r⟩
  have hL' : vs.length ≤ sizeLine := by rw [e.length]; exact hL
  exact sorted_of_sortT hl hL' (args_sorted1 _) (fun _ => args_list_sort _) fun _ => list_sort_vals (s := { s with heap := copyHeap s.heap vs }) (copyHeap_at s.heap vs)
    (SortsAt_data2 (s := { s with heap := sortingHeap (copyHeap s.heap vs) (s.heap.objs.size + 1) vs }) (each_map (R := fun v d => ∃ as, PySem.Reads (sortingHeap (copyHeap s.heap vs) (s.heap.objs.size + 1) vs) v d as) enc er') hal hk (bound_mapT hu)) hL'
    ⟨rfl, h _ (by rw [sortVals_length false rfl]; exact e.length) (sortVals_data false e er' hal)⟩
end

section
open PySem.W
variable {X : Cx} {W : WX} {e o a b c : Expr} {es : List Expr} {pos p : Pos} {f fo fa fb : EM D} {fs : EM (List D)}
def rSortedD (K : PySem.W.Frag) : List V → Hp → VK → Prop := fun xs H Q => ∃ (a : Addr) (bs : List (D × V)), xs = [.ref a] ∧ (SqL K H a (bs.map (·.2)) ∨ SqT K H a (bs.map (·.2))) ∧ (∀ b ∈ bs, Dp K H b.2 (b.1.toP 60) ∧ (b.1.toP 60).depth ≤ 60) ∧
  AllAlike (bs.map fun b => b.1.toP 60) ∧ Sortable2 (bs.map fun b => b.1.toP 60) ∧ ∀ p, H p = none → Q (.ref p) (upd H p (.lst ((bs.mergeSort (dataLe false fun b => b.1.toP 60)).map (·.2))))
theorem each_of {β : Type} {R : Value → β → Prop} {f : β → V} : ∀ {bs : List β} {us : List Value}, Vals (bs.map f) us → (∀ b ∈ bs, ∀ u, RelV (f b) u → R u b) → EachIs R us bs
  | [], _, r, _ => by
    cases r
    exact .nil
  | b :: bs, _, r, h => by
    cases r with
    | cons r1 r2 => exact .cons (h b (List.mem_cons_self ..) _ r1) (each_of r2 fun b hb => h b (List.mem_cons_of_mem _ hb))
theorem vals_of_each {β : Type} {f : β → V} : ∀ {bs : List β} {us : List Value}, EachIs (fun u b => RelV (f b) u) us bs → Vals (bs.map f) us
  | _, _, .nil => .nil
  | _, _, .cons h t => .cons h (vals_of_each t)
theorem cr_sortedD (hu : X.A.units + 65 < cLine) : CallR X (.builtin "sorted") (rSortedD X.K) := by
  intro pins s σ H vs us Q I r h
  obtain ⟨a, bs, rfl, hs, hb, hal, hk, q⟩ := h
  rw [Vals.ref1 r]
  have main : ∀ its : List Value, Vals (bs.map (·.2)) its → (bs.map (·.2)).length ≤ sizeLine → (∀ Q : Value → Shared → Prop, (∀ out, out.length = bs.length → EachIs (fun u (b : D × V) => RelV b.2 u) out (bs.mergeSort (dataLe false fun b => b.1.toP 60)) → Q (.ref (s.heap.objs.size + 1)) { s with heap := PyProof.Rows.sortedAll s.heap its (List.toArray out) }) →
      wpAny (model X.prog X.w) X.A (call (.builtin "sorted") [.ref a]) Q X.xe s) → wpAny (model X.prog X.w) X.A (call (.builtin "sorted") [.ref a]) (EP X pins σ Q) X.xe s := fun its rv hz go => by
    refine go _ fun out h1 h2 => ?_
    obtain ⟨ep, he'⟩ := PyProof.Rows.sortedAll_at s.heap its out.toArray
    have rv' := vals_of_each (f := fun b : D × V => b.2) h2
    have hlen : ((bs.mergeSort (dataLe false fun b => b.1.toP 60)).map (·.2)).length ≤ sizeLine := by
      rw [List.length_map, List.length_mergeSort]
      rwa [List.length_map] at hz
    exact ⟨.ref _, upd H (s.heap.objs.size + 1) (.lst ((bs.mergeSort (dataLe false fun b => b.1.toP 60)).map (·.2))), I.laid (t' := s.toks) (fun _ _ => PyProof.Rows.sortedAll_old) (Nat.le_succ _) ⟨hlen, out, ep, rv', he'⟩, rfl, q _ (I.hok.fresh (Nat.le_succ _))⟩
  have ee : ∀ its : List Value, Vals (bs.map (·.2)) its → EachIs (fun u (b : D × V) => RelV b.2 u) its bs := fun its rv => each_of (f := fun b : D × V => b.2) rv fun b _ u h => h
  have er : ∀ its : List Value, Vals (bs.map (·.2)) its → EachIs (fun v (b : D × V) => ∃ as, PySem.Reads s.heap v (b.1.toP 60) as) its bs := fun its rv => each_of (f := fun b : D × V => b.2) rv fun b hm u h => Dp.reads I _ _ _ (hb b hm).1 h
  have hd : ∀ b, b ∈ bs → X.A.units + 2 + (b.1.toP 60).depth < cLine := fun b hm => by
    have := (hb b hm).2
    omega
  rcases hs with hs | hs
  · obtain ⟨its, rv, hl, hz⟩ := I.list hs
    exact main its rv hz fun Q hQ => sorted_data2 (enc := fun b : D × V => b.1.toP 60) hl.isList (ee its rv) (er its rv) hal hk (by rwa [List.length_map] at hz) hd hQ
  · obtain ⟨its, rv, hl, hz⟩ := I.tuple hs
    exact main its rv hz fun Q hQ => sorted_dataT (enc := fun b : D × V => b.1.toP 60) hl (ee its rv) (er its rv) hal hk (by rwa [List.length_map] at hz) hd hQ
def sortLeD (a b : D) : Bool := !dataLt (b.toP 60) (a.toP 60)
def sortD (xs : List D) : List D := xs.mergeSort sortLeD
def D.neTup (d : D) : Bool := match d with
  | .tup (_ :: _) => true
  | _ => false
def D.atom (d : D) : Bool := match d with
  | .int _ => true
  | .str _ => true
  | _ => false
def sortable (xs : List D) : Bool := (xs.all (D.plain 60)) && (xs.all fun x => xs.all fun y => alike (x.toP 60) (y.toP 60)) && (xs.all D.neTup || xs.all D.atom || (xs.all D.isTup && xs.any fun x => decide (x = .tup [])))
def gSorted : SM1 := fun xs st => if sortable xs then .ok (.ref st.length) (st ++ [.lst (sortD xs)]) else .bad
theorem rds_zip {K : PySem.W.Frag} {m : List Addr} {H : Hp} : ∀ {ds : List D} {vs : List V}, RDs K m H ds vs → (ds.zip vs).map (·.1) = ds ∧ (ds.zip vs).map (·.2) = vs ∧ ∀ b ∈ ds.zip vs, RD K m H b.1 b.2
  | _, _, .nil => ⟨rfl, rfl, fun _ h => nomatch h⟩
  | _, _, .cons h t => by
    obtain ⟨a1, a2, a3⟩ := rds_zip t
    refine ⟨by simp [a1], by simp [a2], fun b hb => ?_⟩
    rw [List.zip_cons_cons] at hb
    rcases List.mem_cons.mp hb with rfl | hb
    · exact h
    · exact a3 b hb
theorem rds_of {K : PySem.W.Frag} {m : List Addr} {H : Hp} : ∀ {bs : List (D × V)}, (∀ b ∈ bs, RD K m H b.1 b.2) → RDs K m H (bs.map (·.1)) (bs.map (·.2))
  | [], _ => .nil
  | b :: bs, h => .cons (h b (List.mem_cons_self ..)) (rds_of fun b hb => h b (List.mem_cons_of_mem _ hb))
theorem s_sorted (hu : X.A.units + 65 < cLine) : CallS X (.builtin "sorted") gSorted := ⟨_, cr_sortedD hu, fun m st H ds v E Q hS r hP => by
  unfold gSorted at hP
  split at hP
  · rename_i hc
    unfold sortable at hc
    simp only [Bool.and_eq_true, Bool.or_eq_true, List.all_eq_true] at hc
    obtain ⟨⟨h1, h2⟩, h3⟩ := hc
    obtain ⟨a, vs, rfl, q, rs⟩ := r
    obtain ⟨z1, z2, z3⟩ := rds_zip rs
    have hmem : ∀ b ∈ ds.zip vs, b.1 ∈ ds := fun b hb => by
      rw [← z1]
      exact List.mem_map_of_mem hb
    have hmap : (ds.zip vs).map (fun b => b.1.toP 60) = ds.map (D.toP 60) := by
      conv => rhs; rw [← z1]
      rw [List.map_map]
      rfl
    refine ⟨a, ds.zip vs, rfl, by rw [z2]; exact q.imp id PlT.sq, fun b hb => ?_, ?_, ?_, ?_⟩
    · obtain ⟨a1, a2, a3⟩ := plain_dp 60 b.1 b.2 (h1 _ (hmem b hb)) (z3 b hb)
      exact ⟨a1, a3⟩
    · rw [hmap]
      intro d hd d' hd'
      obtain ⟨x, hx, rfl⟩ := List.mem_map.mp hd
      obtain ⟨y, hy, rfl⟩ := List.mem_map.mp hd'
      exact h2 x hx y hy
    · rw [hmap]
      rcases h3 with (h3 | h3) | ⟨h3, h4⟩
      · refine .inl (.inl fun d hd => ?_)
        obtain ⟨x, hx, rfl⟩ := List.mem_map.mp hd
        have := h3 x hx
        unfold D.neTup at this
        split at this
        · exact ⟨_, _, rfl⟩
        · cases this
      · refine .inl (.inr fun d hd => ?_)
        obtain ⟨x, hx, rfl⟩ := List.mem_map.mp hd
        have := h3 x hx
        unfold D.atom at this
        split at this
        · exact ⟨nofun, fun _ => nofun⟩
        · exact ⟨nofun, fun _ => nofun⟩
        · cases this
      · refine .inr ⟨fun d hd => ?_, ?_⟩
        · obtain ⟨x, hx, rfl⟩ := List.mem_map.mp hd
          have := h3 x hx
          unfold D.isTup at this
          split at this
          · exact ⟨_, rfl⟩
          · cases this
        · rw [List.any_eq_true] at h4
          obtain ⟨x, hx, e⟩ := h4
          have e := of_decide_eq_true e
          subst e
          exact List.mem_map.mpr ⟨_, hx, rfl⟩
    · have e : (ds.zip vs).mergeSort (dataLe false fun b => b.1.toP 60) = (ds.zip vs).mergeSort (fun b c => sortLeD b.1 c.1) := rfl
      have e2 : ((ds.zip vs).mergeSort (fun b c => sortLeD b.1 c.1)).map (·.1) = sortD ds := by
        refine (sort_maps (s := sortLeD) (Prod.fst : D × V → D) (fun _ _ _ _ => rfl)).trans ?_
        show ((ds.zip vs).map fun b => b.1).mergeSort sortLeD = sortD ds
        rw [z1]
        rfl
      rw [e]
      have z4 : ∀ b ∈ (ds.zip vs).mergeSort (fun b c => sortLeD b.1 c.1), RD X.K m H b.1 b.2 := fun b hb => z3 b (List.mem_mergeSort.mp hb)
      have z5 := rds_of z4
      rw [e2] at z5
      exact hP.lst hS z5
  · exact hP.elim⟩
end
end HM

/-! HM, part Q: the keys of a dict; sorted of a dict. -/
namespace HM
open PySem PySem.Calls PySem.Spec PyProof.Rows L2 PySem.W
/-- the keys of the dict at a -/
def DKeys (K : KW) (H : Hp) (a : Addr) (vs : List V) : Prop :=
  (∃ us, H a = some (.dK us) ∧ vs = us.map fun u => kV u.1) ∨ ∃ xs, H a = some (.ext (DObj K.w a xs)) ∧ vs = xs.map fun x => V.ref x.2.1
theorem rd_key {K : PySem.W.Frag} {m : List Addr} {H : Hp} (k : Key) : RD K m H (keyD k) (kV k) := by
  cases k with
  | inl i => exact .int i
  | inr x =>
    have e : x = ⟨x.cps.toList.toArray⟩ := by simp
    exact e ▸ .str x.cps.toList
theorem keys_rd1 {K : PySem.W.Frag} {m : List Addr} {H : Hp} : ∀ {kvs : List (D × D)} {us : List (Key × V)}, DRel1 K m H kvs us → RDs K m H (kvs.map (·.1)) (us.map fun u => kV u.1)
  | _, _, .nil => .nil
  | _, _, .cons h t => by
    rw [List.map_cons, List.map_cons, h.1]
    exact .cons (rd_key _) (keys_rd1 t)
theorem keys_rd2 {K : PySem.W.Frag} {m : List Addr} {H : Hp} : ∀ {kvs : List (D × D)} {xs : List (NestedKey × Addr × V)}, DRel2 K m H kvs xs → RDs K m H (kvs.map (·.1)) (xs.map fun x => V.ref x.2.1)
  | _, _, .nil => .nil
  | _, _, .cons h t => .cons h.2.2.1 (keys_rd2 t)
theorem dkeys_of {K : KW} {m : List Addr} {st : Store} {H : Hp} {n : Nat} {kvs : List (D × D)} {v : V} (hS : SS K m st H) (hk : dctAt st n = some kvs) (r : RD K m H (.ref n) v) : ∃ a vs, v = .ref a ∧ DKeys K H a vs ∧ RDs K m H (kvs.map (·.1)) vs := by
  cases r with
  | ref h =>
    rename_i a
    rcases hS.dict hk h with ⟨us, e, rel⟩ | ⟨xs, e, _, rel⟩
    · exact ⟨a, _, rfl, .inl ⟨us, e, rfl⟩, keys_rd1 rel⟩
    · exact ⟨a, _, rfl, .inr ⟨xs, e, rfl⟩, keys_rd2 rel⟩
theorem paired_at {α β : Type} {F : α → β → Prop} : ∀ {l₁ : List α} {l₂ : List β}, Paired F l₁ l₂ → ∀ {j : Nat} {a : α}, l₁[j]? = some a → ∃ b, l₂[j]? = some b ∧ F a b
  | _, _, .nil, _, _, h => by simp at h
  | _, _, .cons r t, 0, _, h => by
    simp at h
    subst h
    exact ⟨_, rfl, r⟩
  | _, _, .cons r t, j + 1, _, h => by
    obtain ⟨b, e, f⟩ := paired_at t (j := j) (by simpa using h)
    exact ⟨b, by simpa using e, f⟩
section
variable {X : Cx} {pins : List (Addr × Obj)} {σ : L2.St} {H : Hp} {s : Shared} {a : Addr} {vs : List V}
theorem collect_keys {T : List Value → Shared → Prop} {E : Value → Shared → Prop} {A : Around} (hh : A.handled = none) (I : Inv X pins σ H s) (c : DKeys X.kw H a vs)
    (h : ∀ (h' : Heap) (tk : Nat) (acc : List Value), (∀ b o, s.heap.get? b = some o → h'.get? b = some o) → Vals vs acc → vs.length ≤ sizeLine → T acc { s with heap := h', toks := tk }) : wpAny (model X.prog X.w) A (collect (.ref a)) T E s := by
  rcases c with ⟨us, e, rfl⟩ | ⟨xs, e, rfl⟩
  · obtain ⟨z, lo, ws, rk, hd⟩ := (show ObjOk X.prog X.w H s.heap a (.dK us) from I.hok a _ e)
    obtain ⟨ep, hat⟩ := hd.dictAt
    have hl : us.length = ws.length := Paired.length rk
    refine PySem.W.kdu_collect (A := A) (PySem.W.kdl_dict (knd := mixKind X.prog X.w) (kvs := ws) (ep := ep) lo) hh hat (by rw [← hl]; exact z) fun h' tk acc hk hacc => ?_
    have el : acc.toList.length = acc.size := by simp
    refine h h' tk acc.toList hk ?_ (by rw [List.length_map]; exact z)
    refine vals_of_at (by rw [List.length_map, el, hacc.1, hl]) fun j x w h1 h2 => ?_
    obtain ⟨k, y, hky, hi⟩ := hacc.2 j w (by rw [← Array.getElem?_toList]; exact h2)
    have e1 : (us.map (·.1))[j]? = some k := by
      rw [KV.keys rk, List.getElem?_map, hky] <;> rfl
    have e2 : (us.map fun kv => kV kv.1)[j]? = some (kV k) := by
      have e3 : (us.map fun kv => kV kv.1) = (us.map (·.1)).map kV := by rw [List.map_map] <;> rfl
      rw [e3, List.getElem?_map, e1] <;> rfl
    rw [e2] at h1
    cases h1
    exact keyIs_rel hi
  · obtain ⟨⟨lo, hz, zs, rel, ob, es, ep, ho, hx, hdt, he, _⟩, _, _⟩ := (show ObjOk X.prog X.w H s.heap a (.ext (DObj X.w a xs)) from I.hok a _ e)
    have l0 : xs.length = zs.length := Paired.length rel
    have l1 : es.size = zs.length := by
      rw [← Array.length_toList, he, List.length_map]
    refine PySem.W.kdu_collect (A := A) (kdl_raw lo hx hdt) hh ho (by omega) fun h' tk acc hk hacc => ?_
    have el : acc.toList.length = acc.size := by simp
    refine h h' tk acc.toList hk ?_ (by rw [List.length_map]; exact hz)
    refine vals_of_at (by rw [List.length_map, el, hacc.1, l1, l0]) fun j x w h1 h2 => ?_
    obtain ⟨en, hen, hv⟩ := hacc.2 j w (by rw [← Array.getElem?_toList]; exact h2)
    rw [List.getElem?_map] at h1
    cases hx : xs[j]? with
    | none => rw [hx] at h1; cases h1
    | some y =>
      rw [hx] at h1
      cases h1
      obtain ⟨q, hq, e1, e2, e3⟩ := paired_at rel hx
      have qe : es.toList[j]? = some (⟨NestedKey.hash X.w q.1, .ref q.2.1, q.2.2⟩ : DictEntry) := by
        rw [he, List.getElem?_map, hq] <;> rfl
      rw [Array.getElem?_toList, hen] at qe
      cases qe
      rw [hv]
      exact congrArg Value.ref e2.symm
theorem sorted_keys {β : Type} {R : Value → β → Prop} {enc : β → PyData} {bs : List β} {A : Around} {E : Value → Shared → Prop} {Q : Value → Shared → Prop}
    (coll : ∀ T : List Value → Shared → Prop, (∀ (h' : Heap) (tk : Nat) (acc : List Value), (∀ b o, s.heap.get? b = some o → h'.get? b = some o) → EachIs R acc bs → EachIs (fun v b => ∃ as, PySem.Reads h' v (enc b) as) acc bs → T acc { s with heap := h', toks := tk }) → wpAny (model X.prog X.w) A.in1 (collect (.ref a)) T E s)
    (hal : AllAlike (bs.map enc)) (hk : Sortable2 (bs.map enc)) (hL : bs.length ≤ sizeLine) (hu : ∀ b, b ∈ bs → A.units + 2 + (enc b).depth < cLine)
    (h : ∀ (h' : Heap) (tk : Nat) (acc out : List Value), (∀ b o, s.heap.get? b = some o → h'.get? b = some o) → out.length = bs.length → EachIs R out (bs.mergeSort (dataLe false enc)) → Q (.ref h'.objs.size) { s with heap := PyProof.Rows.sortedHeap (h'.push (seqObj "list" acc.toArray 0)) h'.objs.size acc out.toArray, toks := tk }) :
    wpAny (model X.prog X.w) A (call (.builtin "sorted") [.ref a]) Q E s := by
  refine Calls.call_function_entry PyProof.Rows.kind_sorted PyProof.Rows.plain_sorted PyProof.Rows.entry_sorted (PyProof.Rows.args_sorted1 _) ?_
  unfold Builtin.«sorted»
  refine wpAny_bind (m := checkCount "sorted" 1 1 _) (wpAny_pure ?_)
  refine wpAny_bind (coll _ fun h' tk acc hk' e er => ?_)
  have hl : acc.length ≤ sizeLine := by rw [e.length]; exact hL
  refine wpAny_bind (wpAny_newList ?_ hl)
  have hoL : (h'.push (seqObj "list" acc.toArray 0)).get? h'.objs.size = some (seqObj "list" acc.toArray 0) := Heap.get?_push_size _ rfl
  show wpAny _ _ _ _ _ { s with heap := h'.push (seqObj "list" acc.toArray 0), toks := tk }
  have er2 : EachIs (fun v b => ∃ as, PySem.Reads (sortingHeap (h'.push (seqObj "list" acc.toArray 0)) h'.objs.size acc) v (enc b) as) acc bs := er.mono fun _ _ ⟨as, r⟩ => ⟨as, PyProof.Rows.Reads.keeps (fun b o hb => sortingHeap_old (Nat.ne_of_lt (Heap.lt_size hb)) (Heap.get?_push_of_some _ hb)) r⟩
  refine wpAny_bind (wpAny_holding (wpAny_call_entry PyProof.Rows.slot_list_sort ⟨_, hoL, rfl⟩ PyProof.Rows.entry_list_sort
    (list_sort_vals (s := { s with heap := h'.push (seqObj "list" acc.toArray 0), toks := tk }) hoL
      (SortsAt_data2 (s := { s with heap := sortingHeap (h'.push (seqObj "list" acc.toArray 0)) h'.objs.size acc, toks := tk }) (each_map (R := fun v d => ∃ as, PySem.Reads (sortingHeap (h'.push (seqObj "list" acc.toArray 0)) h'.objs.size acc) v d as) enc er2) hal hk (bound_map2 hu)) hl ⟨_, rfl, wpAny_pure ⟨_, rfl, ?_⟩⟩)
    (PyProof.Rows.args_list_sort _)))
  exact h h' tk acc _ hk' (by rw [sortVals_length false rfl]; exact e.length) (sortVals_data false e er2 hal)
end
section
variable {X : Cx}
def rSortedK (K : KW) : List V → Hp → VK → Prop := fun xs H Q => ∃ (a : Addr) (bs : List (D × V)), xs = [.ref a] ∧ DKeys K H a (bs.map (·.2)) ∧ (∀ b ∈ bs, Dp K H b.2 (b.1.toP 60) ∧ (b.1.toP 60).depth ≤ 60) ∧
  AllAlike (bs.map fun b => b.1.toP 60) ∧ Sortable2 (bs.map fun b => b.1.toP 60) ∧ ∀ p, H p = none → Q (.ref p) (upd H p (.lst ((bs.mergeSort (dataLe false fun b => b.1.toP 60)).map (·.2))))
theorem cr_sortedK (hc : X.calm = true) (hu : X.A.units + 65 < cLine) : CallR X (.builtin "sorted") (rSortedK X.kw) := by
  intro pins s σ H vs us Q I r h
  obtain ⟨a, bs, rfl, hd, hb, hal, hk, q⟩ := h
  rw [Vals.ref1 r]
  have hz : bs.length ≤ sizeLine := by
    have hm : ∀ {vs : List V}, DKeys X.kw H a vs → vs.length ≤ sizeLine := fun c => by
      rcases c with ⟨us, e, rfl⟩ | ⟨xs, e, rfl⟩
      · obtain ⟨z, _⟩ := (show ObjOk X.prog X.w H s.heap a (.dK us) from I.hok a _ e)
        rw [List.length_map]
        exact z
      · obtain ⟨⟨_, z, _⟩, _, _⟩ := (show ObjOk X.prog X.w H s.heap a (.ext (DObj X.w a xs)) from I.hok a _ e)
        rw [List.length_map]
        exact z
    have := hm hd
    rwa [List.length_map] at this
  refine sorted_keys (X := X) (R := fun u (b : D × V) => RelV b.2 u) (enc := fun b : D × V => b.1.toP 60) (bs := bs) (fun T hT => ?_) hal hk hz (fun b hm => by
    have := (hb b hm).2
    omega) fun h' tk acc out hk' h1 h2 => ?_
  · refine collect_keys (A := X.A.in1) (I.ok.hd hc) I hd fun h' tk acc hk' rv _ => ?_
    refine hT h' tk acc hk' (each_of (f := fun b : D × V => b.2) rv fun b _ u h => h) (each_of (f := fun b : D × V => b.2) rv fun b hm u h => ?_)
    obtain ⟨as, r⟩ := Dp.reads I _ _ _ (hb b hm).1 h
    exact ⟨as, PyProof.Rows.Reads.keeps hk' r⟩
  · have hoL : (h'.push (seqObj "list" acc.toArray 0)).get? h'.objs.size = some (seqObj "list" acc.toArray 0) := Heap.get?_push_size _ rfl
    obtain ⟨ep, he'⟩ := PyProof.Rows.sortedHeap_at (vs := acc) (out := out.toArray) hoL
    have I1 : Inv X pins σ H { s with heap := h', toks := tk } := I.kept hk'
    have rv' := vals_of_each (f := fun b : D × V => b.2) h2
    have hlen : ((bs.mergeSort (dataLe false fun b => b.1.toP 60)).map (·.2)).length ≤ sizeLine := by
      rw [List.length_map, List.length_mergeSort]
      exact hz
    refine ⟨.ref h'.objs.size, upd H h'.objs.size (.lst ((bs.mergeSort (dataLe false fun b => b.1.toP 60)).map (·.2))), I1.laid (t' := tk) (fun b u e => ?_) (Nat.le_refl _) ⟨hlen, out, ep, rv', he'⟩, rfl, q _ (I1.hok.fresh (Nat.le_refl _))⟩
    have hb : b < h'.objs.size := Heap.lt_size e
    rw [PyProof.Rows.sortedHeap_old (Nat.ne_of_lt hb) (by rw [size_push']; exact Nat.lt_succ_of_lt hb)]
    exact Heap.get?_push_of_some _ e
/-- sorted(x), x a list, a tuple or a dict -/
def fSorted : FM := fun ds st => match ds with
  | [d] => match dSeq st d with
    | some xs => gSorted xs st
    | none => match d with
      | .ref n => match dctAt st n with
        | some kvs => gSorted (kvs.map (·.1)) st
        | none => .bad
      | _ => .bad
  | _ => .bad
/-- what sorting asks, of any row of values -/
theorem sorted_ask {K : KW} {m : List Addr} {st : Store} {H : Hp} {ds : List D} {vs : List V} {E : XK} {Q : VK} (hS : SS K m st H) (rs : RDs K m H ds vs) (hP : Pe K E (RD K) m H (gSorted ds st) Q) :
    ∃ bs : List (D × V), bs.map (·.2) = vs ∧ (∀ b ∈ bs, Dp K H b.2 (b.1.toP 60) ∧ (b.1.toP 60).depth ≤ 60) ∧ AllAlike (bs.map fun b => b.1.toP 60) ∧ Sortable2 (bs.map fun b => b.1.toP 60) ∧ ∀ p, H p = none → Q (.ref p) (upd H p (.lst ((bs.mergeSort (dataLe false fun b => b.1.toP 60)).map (·.2)))) := by
  unfold gSorted at hP
  split at hP
  · rename_i hc
    unfold sortable at hc
    simp only [Bool.and_eq_true, Bool.or_eq_true, List.all_eq_true] at hc
    obtain ⟨⟨h1, h2⟩, h3⟩ := hc
    obtain ⟨z1, z2, z3⟩ := rds_zip rs
    have hmem : ∀ b ∈ ds.zip vs, b.1 ∈ ds := fun b hb => by
      rw [← z1]
      exact List.mem_map_of_mem hb
    have hmap : (ds.zip vs).map (fun b => b.1.toP 60) = ds.map (D.toP 60) := by
      conv => rhs; rw [← z1]
      rw [List.map_map]
      rfl
    refine ⟨ds.zip vs, z2, fun b hb => ?_, ?_, ?_, ?_⟩
    · obtain ⟨a1, a2, a3⟩ := plain_dp 60 b.1 b.2 (h1 _ (hmem b hb)) (z3 b hb)
      exact ⟨a1, a3⟩
    · rw [hmap]
      intro d hd d' hd'
      obtain ⟨x, hx, rfl⟩ := List.mem_map.mp hd
      obtain ⟨y, hy, rfl⟩ := List.mem_map.mp hd'
      exact h2 x hx y hy
    · rw [hmap]
      rcases h3 with (h3 | h3) | ⟨h3, h4⟩
      · refine .inl (.inl fun d hd => ?_)
        obtain ⟨x, hx, rfl⟩ := List.mem_map.mp hd
        have := h3 x hx
        unfold D.neTup at this
        split at this
        · exact ⟨_, _, rfl⟩
        · cases this
      · refine .inl (.inr fun d hd => ?_)
        obtain ⟨x, hx, rfl⟩ := List.mem_map.mp hd
        have := h3 x hx
        unfold D.atom at this
        split at this
        · exact ⟨nofun, fun _ => nofun⟩
        · exact ⟨nofun, fun _ => nofun⟩
        · cases this
      · refine .inr ⟨fun d hd => ?_, ?_⟩
        · obtain ⟨x, hx, rfl⟩ := List.mem_map.mp hd
          have := h3 x hx
          unfold D.isTup at this
          split at this
          · exact ⟨_, rfl⟩
          · cases this
        · rw [List.any_eq_true] at h4
          obtain ⟨x, hx, e⟩ := h4
          have e := of_decide_eq_true e
          subst e
          exact List.mem_map.mpr ⟨_, hx, rfl⟩
    · have e : (ds.zip vs).mergeSort (dataLe false fun b => b.1.toP 60) = (ds.zip vs).mergeSort (fun b c => sortLeD b.1 c.1) := rfl
      have e2 : ((ds.zip vs).mergeSort (fun b c => sortLeD b.1 c.1)).map (·.1) = sortD ds := by
        refine (sort_maps (s := sortLeD) (Prod.fst : D × V → D) (fun _ _ _ _ => rfl)).trans ?_
        show ((ds.zip vs).map fun b => b.1).mergeSort sortLeD = sortD ds
        rw [z1]
        rfl
      rw [e]
      have z4 : ∀ b ∈ (ds.zip vs).mergeSort (fun b c => sortLeD b.1 c.1), RD K m H b.1 b.2 := fun b hb => z3 b (List.mem_mergeSort.mp hb)
      have z5 := rds_of z4
      rw [e2] at z5
      exact hP.lst hS z5
  · exact hP.elim
theorem c_sorted (hc : X.calm = true) (hu : X.A.units + 65 < cLine) : CallM X (.builtin "sorted") fSorted :=
  ⟨fun vs H Q => rSortedD X.K vs H Q ∨ rSortedK X.kw vs H Q, fun pins s σ H vs us Q I r h => h.elim (fun h => cr_sortedD hu pins s σ H vs us Q I r h) (fun h => cr_sortedK hc hu pins s σ H vs us Q I r h), fun m st H ds vs E Q hS r hP => by
    unfold fSorted at hP
    split at hP
    · rename_i d
      obtain ⟨v, rfl, rv⟩ := r.one
      split at hP
      · rename_i xs hx
        obtain ⟨a, ws, rfl, hq, rs⟩ := dSeq_read hS hx rv
        obtain ⟨bs, e, h1, h2, h3, h4⟩ := sorted_ask hS rs hP
        exact .inl ⟨a, bs, rfl, by rw [e]; exact hq.imp id PlT.sq, h1, h2, h3, h4⟩
      · split at hP
        · rename_i n
          split at hP
          · rename_i kvs hk
            obtain ⟨a, ws, rfl, hd, rs⟩ := dkeys_of hS hk rv
            obtain ⟨bs, e, h1, h2, h3, h4⟩ := sorted_ask hS rs hP
            exact .inr ⟨a, bs, rfl, by rw [e]; exact hd, h1, h2, h3, h4⟩
          · exact hP.elim
        · exact hP.elim
    · exact hP.elim⟩
end
end HM

/-! HM, part DD: a dict of one pair. -/
namespace HM
open PySem PySem.Spec PyProof.Rows L2
section
variable {X : Cx} {W : WX} {a b : Expr} {pos : Pos} {fa fb : EM D} {A : Around} {E : Value → Shared → Prop} {s : Shared}
theorem wpAny_Dict_one {prog : Program} {w : World} {env : Env} {k v : Expr} {Q : Value → Shared → Prop}
    (h : wpAny (model prog w) A (eval k env) (fun kv s1 => wpAny (model prog w) A (eval v env) (fun vv s2 => wpAny (model prog w) A (dictSet s.heap.objs.size kv vv) (fun _ s3 => Q (.ref s.heap.objs.size) s3) E s2) E s1) E { s with heap := s.heap.push { cls := .type "dict", data := .dict #[] } }) :
    wpAny (model prog w) A (eval (.Dict [some k] [v] pos) env) Q E s := by
  rw [arm_eval_Dict, zip_pairTrees [some k] [v] env pos rfl rfl, dictDisplay_pairs _ (by simp [pairTrees]) (by simp [pairTrees])]
  refine wpAny_bind (wpAny_standAt (wpAny_bind ?_))
  unfold subDict
  refine wpAny_bind (wpAny_alloc (wpAny_bind (wpAny_holding ?_)))
  rw [if_pos (by simp [pairTrees])]
  refine wpAny_bind (pairTrees_cons_walk (wpAny_mono h (fun kv s1 h1 => wpAny_mono h1 (fun vv s2 h2 => pairTrees_nil_walk ?_) fun _ _ e => e) fun _ _ e => e))
  refine wpAny_holding ?_
  rw [List.forIn_cons]
  refine wpAny_bind (wpAny_bind (wpAny_bind (wpAny_mono h2 (fun _ s3 h3 => wpAny_pure ?_) fun _ _ e => e)))
  show wpAny _ _ (forIn [] PUnit.unit _) _ _ _
  rw [List.forIn_nil]
  exact wpAny_pure (wpAny_pure (wpAny_pure (wpAny_pure h3)))
end
section
variable {X : Cx} {pins : List (Addr × Obj)} {σ : L2.St} {H : Hp} {s : Shared} {p : Addr} {A : Around} {E : Value → Shared → Prop} {K : KW} {m m2 : List Addr} {st : Store}
/-- the first pair of a dict -/
theorem dictSet_first {k d : D} {y v : V} {u r : Value} {Q : Unit → Shared → Prop} (hu : A.units + 10 < cLine) (I : Inv X pins σ H s) (e : H p = some (.dK [])) (f : (k.flatK || k.tupQ) = true) (rk : RD X.K m H k y) (rv : RD X.K m H d v) (ru : RelV y u) (rr : RelV v r)
    (h : ∀ (o : HO) (s' : Shared), Inv X pins σ (upd H p o) s' → (∀ m', (∀ (n : Nat) (a : Addr), m[n]? = some a → m'[n]? = some a) → RC X.kw m' (upd H p o) p (.dct [(k, d)])) → Q () s') : wpAny (model X.prog X.w) A (dictSet p u r) Q E s := by
  have mu : Mut (H p) := by rw [e]; exact True.intro
  have kp : ∀ (o : HO) (m' : List Addr), (∀ (n : Nat) (a : Addr), m[n]? = some a → m'[n]? = some a) → Kp X.K m H m' (upd H p o) := fun o m' hm => by
    have z : Kp X.K m H m (upd H p o) := Kp.writeM mu
    exact ⟨fun n a q => hm n a q, z.tup, z.plt, z.fzl⟩
  rw [Bool.or_eq_true] at f
  rcases f with f | f
  · obtain ⟨q, rfl, rfl⟩ := flatK_of f rk
    obtain ⟨z, hd, vs0, r0, dd⟩ := dk_of I.hok e
    cases r0
    refine wpAny_dictSet_pairs (hsz := Nat.zero_le _) (kV_is ru) dd fun h' dd' hs => h (.dK (putK [] q v)) _ ?_ fun m' hm => .inl ⟨_, upd_same, .cons ⟨rfl, rv.kp (kp _ m' hm)⟩ .nil⟩
    have he : ∃ q, h'.get? p = some q := let ⟨q, _, _, hq, _⟩ := dd'; ⟨q, hq⟩
    refine d_write I mu hs he (dk_new (by rw [PySem.sizeLine_eq]; show 1 ≤ _; omega) hd ?_ dd')
    exact .cons ⟨rfl, rr⟩ .nil
  · obtain ⟨b, rfl, z1, z2⟩ := tupQ_of f rk
    cases (show u = Value.ref b from ru)
    obtain ⟨hd, dd⟩ := dk_empty_at I e
    refine wpAny_dictSet_heap (knd := nestedKind X.prog X.w) (hsz := Nat.zero_le _) ?_ ⟨nv_is I z1 rfl, z2⟩ dd fun h' dd' hs => h (.ext (DObj X.w p [(k.nk, b, v)])) _ ?_ fun m' hm => .inr ⟨_, upd_same, by simp, .cons ⟨f, rfl, rk.kp (kp _ m' hm), rv.kp (kp _ m' hm)⟩ .nil⟩
    · show A.units + 8 < cLine
      omega
    have he : ∃ q, h'.get? p = some q := let ⟨q, _, _, hq, _⟩ := dd'; ⟨q, hq⟩
    exact d_write I mu hs he (dobj_ok hd (by rw [PySem.sizeLine_eq]; show 1 ≤ _; omega) (.cons ⟨rfl, rfl, rr⟩ .nil) dd')
/-- an object that the store does not hold is written and becomes the store's -/
theorem Ext.ownW {H0 : Hp} {o : HO} (e : Ext K.F m H0 m2 H) (h0 : H0 p = none) (hp : p ∉ m2) (mu : Mut (H p)) : Ext K.F m H0 (m2 ++ [p]) (upd H p o) where
  pre := fun n a q => by
    have := e.pre n a q
    rw [List.getElem?_append_left (List.getElem?_eq_some_iff.mp this).1]
    exact this
  tup := fun a vs q => (Kp.writeM (K := K.F) (m := m2) mu).tup a vs (e.tup a vs q)
  plt := fun a vs q => (Kp.writeM (K := K.F) (m := m2) mu).plt a vs (e.plt a vs q)
  fzl := fun a vs q => (Kp.writeM (K := K.F) (m := m2) mu).fzl a vs (e.fzl a vs q)
  frm := fun a ob n q => by
    have : a ≠ p := fun z => by rw [z, h0] at q; cases q
    rw [upd_ne this]
    exact e.frm a ob n q
  new := fun a q n => by
    rcases List.mem_append.mp q with q | q
    · exact e.new a q n
    · have z : a = p := by simpa using q
      rw [z]
      exact h0
theorem SS.ownW {o : HO} {c : Cell} (hS : SS K m st H) (hp : p ∉ m) (mu : Mut (H p)) (r : RC K (m ++ [p]) (upd H p o) p c) : SS K (m ++ [p]) (st ++ [c]) (upd H p o) := by
  have s1 : SS K m st (upd H p o) := ⟨hS.len, hS.nd, fun n c a h1 h2 => (hS.cel n c a h1 h2).kp (Kp.writeM mu) fun ob q => by
    have : a ≠ p := fun z => by rw [z] at h2; exact hp (List.mem_of_getElem? h2)
    rw [upd_ne this]
    exact q⟩
  exact s1.grow hp r
end
section
variable {X : Cx} {W : WX} {a b : Expr} {pos : Pos} {fa fb : EM D}
def eDct1 (fk fv : EM D) : EM D := fun τ st => (fk τ st).bind fun k s1 => (fv τ s1).bind fun v s2 => if k.flatK || k.tupQ then .ok (.ref s2.length) (s2 ++ [.dct [(k, v)]]) else .bad
theorem ex_dct1 (hu : X.A.units + 65 < cLine) (hk : Ex X W a fa) (hv : Ex X W b fb) : Ex X W (.Dict [some a] [b] pos) (eDct1 fa fb) := by
  refine ⟨fun m τ st σ H Q hL hS hP pins s I => wpAny_Dict_one ?_⟩
  have hn := I.hok.fresh (Nat.le_refl s.heap.objs.size)
  obtain ⟨p, hp⟩ : ∃ p, p = s.heap.objs.size := ⟨_, rfl⟩
  have I1 := I.laid (a := s.heap.objs.size) (o := .dK []) (h' := s.heap.push { cls := .type "dict", data := .dict #[] }) (t' := s.toks) (fun _ _ q => Heap.get?_push_of_some _ q) (Nat.le_refl _) (dk_empty s.heap I.big)
  rw [← hp] at I1 hn ⊢
  have e0 : Ext X.K m H m (upd H p (.dK [])) := Ext.fresh hn
  have np := hS.notin hn
  unfold eDct1 at hP
  cases h1 : fa τ st with
  | bad => rw [h1] at hP; exact hP.elim
  | exc x s1 =>
    rw [h1] at hP
    refine wpAny_mono (hk.run m τ st σ _ (fun _ _ => False) (hL.mono e0) (hS.fresh hn) ?_ pins _ I1) (fun _ _ h => ?_) fun _ _ h => h
    · rw [h1]
      exact fun m' H' c d e q r => hP m' H' c d (e0.trans e) q r
    · obtain ⟨_, _, _, _, f⟩ := h
      exact f.elim
  | ok k s1 =>
    rw [h1, ER.bind_ok] at hP
    have J1 : ∀ {m1 : List Addr} {H1 : Hp}, Ext X.K m (upd H p (.dK [])) m1 H1 → H1 p = some (.dK []) ∧ p ∉ m1 := fun e => by
      refine ⟨e.frm p _ np upd_same, fun q => ?_⟩
      have := e.new p q np
      rw [upd_same] at this
      cases this
    refine wpAny_mono (hk.run m τ st σ _ (fun y H1 => ∃ m1, Ext X.K m (upd H p (.dK [])) m1 H1 ∧ SS X.kw m1 s1 H1 ∧ RD X.K m1 H1 k y) (hL.mono e0) (hS.fresh hn) ?_ pins _ I1) (fun u t1 hh => ?_) fun _ _ h => h
    · rw [h1]
      exact fun m' H' y e q r => ⟨m', e, q, r⟩
    obtain ⟨y, H1, I2, ru, m1, e1, hS1, rk⟩ := hh
    cases h2 : fb τ s1 with
    | bad => rw [h2] at hP; exact hP.elim
    | exc x s2 =>
      rw [h2] at hP
      refine wpAny_mono (hv.run m1 τ s1 σ H1 (fun _ _ => False) (hL.mono (e0.trans e1)) hS1 ?_ pins _ I2) (fun _ _ h => ?_) fun _ _ h => h
      · rw [h2]
        exact fun m' H' c d e q r => hP m' H' c d ((e0.trans e1).trans e) q r
      · obtain ⟨_, _, _, _, f⟩ := h
        exact f.elim
    | ok v s2 =>
      rw [h2, ER.bind_ok] at hP
      refine wpAny_mono (hv.run m1 τ s1 σ H1 (fun z H2 => ∃ m2, Ext X.K m1 H1 m2 H2 ∧ SS X.kw m2 s2 H2 ∧ RD X.K m2 H2 v z) (hL.mono (e0.trans e1)) hS1 ?_ pins _ I2) (fun w t2 hh => ?_) fun _ _ h => h
      · rw [h2]
        exact fun m' H' y e q r => ⟨m', e, q, r⟩
      obtain ⟨z, H2, I3, rw', m2, e2, hS2, rv⟩ := hh
      obtain ⟨q2, n2⟩ := J1 (e1.trans e2)
      have rk2 := rk.mono e2
      split at hP
      · rename_i hf
        have mu : Mut (H2 p) := by rw [q2]; exact True.intro
        refine dictSet_first (by omega) I3 q2 hf rk2 rv ru rw' fun o t3 I4 rc => ?_
        have pre : ∀ (n : Nat) (a : Addr), m2[n]? = some a → (m2 ++ [p])[n]? = some a := fun n a q => by
          rw [List.getElem?_append_left (List.getElem?_eq_some_iff.mp q).1]
          exact q
        have hS3 := SS.ownW hS2 n2 mu (rc _ pre)
        refine ⟨.ref p, _, I4, rfl, hP _ _ _ (Ext.ownW (K := X.kw) ((e0.trans e1).trans e2) hn n2 mu) hS3 (.ref ?_)⟩
        rw [← hS2.len]
        simp
      · exact hP.elim
end
end HM

/-! HM, part M: min of tuples. -/
namespace HM
open PySem PySem.Spec PyProof.Rows L2
section
open PySem.W PySem.Calls
variable {prog : Program} {w : World} {A : Around} {E : Value → Shared → Prop} {s : Shared}
theorem min_list_ix {l : Addr} {vs : Array Value} {ys : List PyData} {as : List Addr} {Q : Value → Shared → Prop} (hh : A.handled = none) (hl : s.heap.IsList l vs) (hr : ReadsAll s.heap vs.toList ys as) (hn : vs.size = ys.length) (h0 : 0 < ys.length) (ha : AlikeAll ys) (hu : A.units + 1 + PyData.depthAll ys < cLine)
    (h : ∀ v h' tk, vs[argBest (fun i j => PySem.W.dataLt (ys.getD i .none) (ys.getD j .none)) (ys.length - 1)]? = some v → (∀ b o, s.heap.get? b = some o → h'.get? b = some o) → Q v { s with heap := h', toks := tk }) :
    wpAny (model prog w) A (call (.builtin "min") [.ref l]) Q E s := by
  refine call_min_walkH (iter_listW (A := A.in1) hh hl fun s₂ e W st hfp hw hk => ?_)
  refine ⟨_, _, _, _, _, _, _, s.heap, _, rfl, W, st, hfp, by omega, hw, hk, cmpIn_lt (A := A.in1) hr ha (by show A.units + 1 + _ < _; exact hu), fun v s' hP m => ?_⟩
  obtain ⟨h', tk, rfl, hk'⟩ := moved_old e rfl m
  rw [hn] at hP
  exact h v h' tk hP hk'
theorem min_tuple_ix {l : Addr} {vs : Array Value} {ys : List PyData} {as : List Addr} {Q : Value → Shared → Prop} (hh : A.handled = none) (hl : s.heap.IsTuple l vs) (hr : ReadsAll s.heap vs.toList ys as) (hn : vs.size = ys.length) (h0 : 0 < ys.length) (ha : AlikeAll ys) (hu : A.units + 1 + PyData.depthAll ys < cLine)
    (h : ∀ v h' tk, vs[argBest (fun i j => PySem.W.dataLt (ys.getD i .none) (ys.getD j .none)) (ys.length - 1)]? = some v → (∀ b o, s.heap.get? b = some o → h'.get? b = some o) → Q v { s with heap := h', toks := tk }) :
    wpAny (model prog w) A (call (.builtin "min") [.ref l]) Q E s := by
  refine call_min_walkH (iter_tupleW (A := A.in1) hh hl fun s₂ e W st hfp hw hk => ?_)
  refine ⟨_, _, _, _, _, _, _, s.heap, _, rfl, W, st, hfp, by omega, hw, hk, cmpIn_lt (A := A.in1) hr ha (by show A.units + 1 + _ < _; exact hu), fun v s' hP m => ?_⟩
  obtain ⟨h', tk, rfl, hk'⟩ := moved_old e rfl m
  rw [hn] at hP
  exact h v h' tk hP hk'
end
section
open PySem.W PySem.Calls
variable {X : Cx} {W : WX} {e o a b c : Expr} {es : List Expr} {pos p : Pos} {f fo fa fb : EM D} {fs : EM (List D)}
/-- the place of the first of the least -/
def minIx (ds : List D) : Nat := argBest (fun i j => PySem.W.dataLt ((ds.getD i .non).toP 60) ((ds.getD j .non).toP 60)) (ds.length - 1)
def minable (xs : List D) : Bool := xs.all D.isTup && xs.all (D.plain 60) && xs.all fun x => xs.all fun y => PySem.W.alike (x.toP 60) (y.toP 60)
def gMinT : SM1 := fun xs st => match (intsD xs).bind minI with
  | some n => .ok (.int n) st
  | none => match minable xs, xs[minIx xs]? with
    | true, some d => .ok d st
    | _, _ => .bad
def rMinD (K : PySem.W.Frag) : List V → Hp → VK → Prop := fun xs H Q => ∃ (a : Addr) (bs : List (D × V)), xs = [.ref a] ∧ (SqL K H a (bs.map (·.2)) ∨ SqT K H a (bs.map (·.2))) ∧ (∀ b ∈ bs, Dp K H b.2 (b.1.toP 60) ∧ (b.1.toP 60).depth ≤ 60) ∧
  AlikeAll (bs.map fun b => b.1.toP 60) ∧ 0 < bs.length ∧ ∀ b, bs[minIx (bs.map (·.1))]? = some b → Q b.2 H
theorem depthAll_le {n : Nat} : ∀ {ys : List PyData}, (∀ y ∈ ys, y.depth ≤ n) → PyData.depthAll ys ≤ n
  | [], _ => by simp [PyData.depthAll]
  | y :: ys, h => by
    have h1 := h y (List.mem_cons_self ..)
    have h2 := depthAll_le (ys := ys) fun z hz => h z (List.mem_cons_of_mem _ hz)
    simp only [PyData.depthAll]
    omega
theorem cr_minD (hc : X.calm = true) (hu : X.A.units + 65 < cLine) : CallR X (.builtin "min") (rMinD X.K) := by
  intro pins s σ H vs us Q I r h
  obtain ⟨a, bs, rfl, hs, hb, hal, h0, q⟩ := h
  rw [Vals.ref1 r]
  have ee : ∀ its : List Value, Vals (bs.map (·.2)) its → EachIs (fun u (b : D × V) => RelV b.2 u) its bs := fun its rv => each_of (f := fun b : D × V => b.2) rv fun b _ u h => h
  have er : ∀ its : List Value, Vals (bs.map (·.2)) its → EachIs (fun v (b : D × V) => ∃ as, PySem.Reads s.heap v (b.1.toP 60) as) its bs := fun its rv => each_of (f := fun b : D × V => b.2) rv fun b hm u h => Dp.reads I _ _ _ (hb b hm).1 h
  have hd : PyData.depthAll (bs.map fun b => b.1.toP 60) ≤ 60 := depthAll_le fun y hy => by
    obtain ⟨b, hb', rfl⟩ := List.mem_map.mp hy
    exact (hb b hb').2
  have ix : argBest (fun i j => PySem.W.dataLt ((bs.map fun b => b.1.toP 60).getD i .none) ((bs.map fun b => b.1.toP 60).getD j .none)) ((bs.map fun b => b.1.toP 60).length - 1) = minIx (bs.map (·.1)) := by
    unfold minIx
    have g : ∀ i, (bs.map fun b => b.1.toP 60).getD i .none = ((bs.map (·.1)).getD i D.non).toP 60 := fun i => by
      simp only [List.getD_eq_getElem?_getD, List.getElem?_map]
      cases bs[i]? <;> simp [D.toP]
    simp only [g, List.length_map]
  have fin : ∀ its : List Value, Vals (bs.map (·.2)) its → ∀ v h' tk, its.toArray[minIx (bs.map (·.1))]? = some v → (∀ b o, s.heap.get? b = some o → h'.get? b = some o) → EP X pins σ Q v { s with heap := h', toks := tk } := fun its rv v h' tk hv hk => by
    have hv' : its[minIx (bs.map (·.1))]? = some v := by simpa using hv
    have len := EachIs.length (ee its rv)
    have hi := (List.getElem?_eq_some_iff.mp hv').1
    have hb' : bs[minIx (bs.map (·.1))]? = some bs[minIx (bs.map (·.1))] := List.getElem?_eq_getElem (by omega)
    obtain ⟨u, hu', ru⟩ := rv.get (i := minIx (bs.map (·.1))) (x := (bs[minIx (bs.map (·.1))]'(by omega)).2) (by rw [List.getElem?_map, hb']; rfl)
    rw [hv'] at hu'
    cases hu'
    exact ⟨_, H, I.kept hk, ru, q _ hb'⟩
  have sz : ∀ its : List Value, Vals (bs.map (·.2)) its → its.toArray.size = (bs.map fun b => b.1.toP 60).length := fun its rv => by
    have len := EachIs.length (ee its rv)
    simp
    omega
  have l0 : 0 < (bs.map fun b => b.1.toP 60).length := by rw [List.length_map]; exact h0
  rcases hs with hs | hs
  · obtain ⟨its, rv, hl, hz⟩ := I.list hs
    obtain ⟨as, ra⟩ := PySem.W.each_readsAll (fun b : D × V => b.1.toP 60) (er its rv)
    refine min_list_ix (vs := its.toArray) (I.ok.hd hc) hl.isList (by simpa using ra) (sz its rv) l0 hal (by omega) fun v h' tk hv hk => ?_
    rw [ix] at hv
    exact fin its rv v h' tk hv hk
  · obtain ⟨its, rv, hl, hz⟩ := I.tuple hs
    obtain ⟨as, ra⟩ := PySem.W.each_readsAll (fun b : D × V => b.1.toP 60) (er its rv)
    obtain ⟨ob, ho, hcl, n, hd'⟩ := hl
    refine min_tuple_ix (vs := its.toArray) (I.ok.hd hc) ⟨ob, ho, hcl, n, hd'⟩ (by simpa using ra) (sz its rv) l0 hal (by omega) fun v h' tk hv hk => ?_
    rw [ix] at hv
    exact fin its rv v h' tk hv hk
theorem sv_minD (hc : X.calm = true) (hu : X.A.units + 65 < cLine) : CallS X (.builtin "min") gMinT := ⟨_, ((cr_min hc).or (cr_minT hc)).or (cr_minD hc hu), fun m st H ds v E Q hS r hP => by
  obtain ⟨a, vs, rfl, q, rs⟩ := r
  unfold gMinT at hP
  split at hP
  · rename_i k hk
    cases hn : intsD ds with
    | none =>
      rw [hn] at hk
      cases hk
    | some ns =>
      rw [hn] at hk
      have hk : minI ns = some k := hk
      have e := intsD_V rs hn
      subst e
      have fin : ∀ mm, mm ∈ ns → (∀ y, y ∈ ns → mm ≤ y) → Q (.int mm) H := fun mm hm hy => by
        rw [min_uniq hk hm hy]
        exact hP.now hS (.int _)
      rcases q with q | q
      · exact .inl (.inl ⟨a, ns, rfl, q, minI_pos hk, fin⟩)
      · exact .inl (.inr ⟨a, ns, rfl, q.sq, minI_pos hk, fin⟩)
  · split at hP
    · rename_i d hm hd
      unfold minable at hm
      simp only [Bool.and_eq_true, List.all_eq_true] at hm
      obtain ⟨⟨h0, h1⟩, h2⟩ := hm
      obtain ⟨z1, z2, z3⟩ := rds_zip rs
      have hmem : ∀ b ∈ ds.zip vs, b.1 ∈ ds := fun b hb => by
        rw [← z1]
        exact List.mem_map_of_mem hb
      have hmap : (ds.zip vs).map (fun b => b.1.toP 60) = ds.map (D.toP 60) := by
        conv => rhs; rw [← z1]
        rw [List.map_map]
        rfl
      refine .inr ⟨a, ds.zip vs, rfl, by rw [z2]; exact q.imp id PlT.sq, fun b hb => ?_, ?_, ?_, fun b hb => ?_⟩
      · obtain ⟨a1, a2, a3⟩ := plain_dp 60 b.1 b.2 (h1 _ (hmem b hb)) (z3 b hb)
        exact ⟨a1, a3⟩
      · rw [hmap]
        refine ⟨fun d hd d' hd' => ?_, fun d hd => ?_⟩
        · obtain ⟨x, hx, rfl⟩ := List.mem_map.mp hd
          obtain ⟨y, hy, rfl⟩ := List.mem_map.mp hd'
          exact h2 x hx y hy
        · obtain ⟨x, hx, rfl⟩ := List.mem_map.mp hd
          exact toP_tup (h0 x hx)
      · have : (ds.zip vs).length = ds.length := by rw [← z1, List.length_map, z1]
        rw [this]
        have := (List.getElem?_eq_some_iff.mp hd).1
        omega
      · rw [z1] at hb
        have e : b.1 = d := by
          have : ((ds.zip vs).map (·.1))[minIx ds]? = some b.1 := by rw [List.getElem?_map, hb]; rfl
          rw [z1, hd] at this
          exact (Option.some.inj this).symm
        have rb := z3 b (List.mem_of_getElem? hb)
        rw [e] at rb
        exact hP.now hS rb
    · exact hP.elim⟩
/-! ### index -/
def mIndexT : MM := fun d ds st => match d, ds with
  | .tup xs, [.int k] => match intsD xs with
    | some ns => if k ∈ ns then .ok (.int (ns.idxOf k : Nat)) st else .bad
    | none => .bad
  | _, _ => .bad
theorem me_indexT : MethM X "tuple.index" mIndexT := ⟨fun v vs H Q => ∃ (p : Addr) (ns : List Int) (k : Int), v = .ref p ∧ vs = [.int k] ∧ SqT X.K H p (ns.map V.int) ∧ k ∈ ns ∧ Q (.int (ns.idxOf k : Nat)) H,
  fun pins s σ H x xs v us Q I r rs h => by
    obtain ⟨p, ns, k, rfl, rfl, hq, hk, q⟩ := h
    cases r
    obtain ⟨u, rfl, ru⟩ := vals1 rs
    obtain ⟨t, rfl⟩ := ru
    obtain ⟨its, rv, ⟨ob, ho, hc, n, hd⟩, hz⟩ := I.tuple hq
    exact PySem.SeqAt.tuple_index_ints (vs := its) ⟨ob, ho, hc, n, hd⟩ rv.ints hk ⟨.int _, H, I.tok _, ⟨_, rfl⟩, q⟩,
  fun m st H d v ds vs E Q hS r rs hP => by
    unfold mIndexT at hP
    split at hP
    · split at hP
      · rename_i ns hn
        split at hP
        · rename_i hk
          cases r with
          | tup q r2 =>
            obtain ⟨w, rfl, rw'⟩ := rs.one
            cases rw'
            have e := intsD_V r2 hn
            subst e
            exact ⟨_, ns, _, rfl, rfl, q.sq, hk, hP.now hS (.int _)⟩
        · exact hP.elim
      · exact hP.elim
    · exact hP.elim⟩
def mIndexL : MM := fun d ds st => match d, ds with
  | .ref n, [.int k] => match (lstAt st n).bind intsD with
    | some ns => if k ∈ ns then .ok (.int (ns.idxOf k : Nat)) st else .bad
    | none => .bad
  | _, _ => .bad
theorem me_indexL : MethM X "list.index" mIndexL := ⟨fun v vs H Q => ∃ (p : Addr) (ns : List Int) (k : Int), v = .ref p ∧ vs = [.int k] ∧ SqL X.K H p (ns.map V.int) ∧ k ∈ ns ∧ Q (.int (ns.idxOf k : Nat)) H,
  fun pins s σ H x xs v us Q I r rs h => by
    obtain ⟨p, ns, k, rfl, rfl, hq, hk, q⟩ := h
    cases r
    obtain ⟨u, rfl, ru⟩ := vals1 rs
    obtain ⟨t, rfl⟩ := ru
    obtain ⟨its, rv, hl, hz⟩ := I.list hq
    exact PySem.SeqAt.list_index_ints (vs := its) hl.isList rv.ints (by rw [← List.length_map (f := V.int)]; exact hz) hk ⟨.int _, H, I.tok _, ⟨_, rfl⟩, q⟩,
  fun m st H d v ds vs E Q hS r rs hP => by
    unfold mIndexL at hP
    split at hP
    · split at hP
      · rename_i ns hn
        split at hP
        · rename_i hk
          cases r with
          | ref q =>
            obtain ⟨w, rfl, rw'⟩ := rs.one
            cases rw'
            obtain ⟨xs, hx, hn⟩ := Option.bind_eq_some_iff.mp hn
            obtain ⟨us, h1, h2⟩ := hS.list hx q
            have e := intsD_V h2 hn
            subst e
            exact ⟨_, ns, _, rfl, rfl, SqL.of h1, hk, hP.now hS (.int _)⟩
        · exact hP.elim
      · exact hP.elim
    · exact hP.elim⟩
end
end HM

/-! HM, part S: how mirrors are computed (simp). -/
namespace HM
open PySem PySem.Spec PyProof.Rows L2
section
variable {α β : Type} {τ : Sl} {st : Store} {f g h fa fb fc fe fo fi : EM D} {fs : EM (List D)} {ga gb : EM Bool} {i n : Nat} {d : D} {u v : SM}
@[simp] theorem eVar_e (hh : τ[i]? = some (some d)) : eVar i τ st = .ok d st := by unfold eVar; rw [hh]
@[simp] theorem eC_e : eC d τ st = .ok d st := rfl
@[simp] theorem eBin_e {o : O2} : eBin o fa fb τ st = (fa τ st).bind fun x s1 => (fb τ s1).bind fun y s2 => o x y s2 := rfl
@[simp] theorem eUn_e {o : O1} : eUn o fa τ st = (fa τ st).bind o := rfl
@[simp] theorem tBl_e : tBl fa τ st = (fa τ st).bind dBl := rfl
@[simp] theorem dBl_e {b : Bool} : dBl (.bl b) st = .ok b st := rfl
def oTru (d : D) (st : Store) : ER Bool := match dTru st d with
  | some b => .ok b st
  | none => .bad
@[simp] theorem tVal_e : tVal fa τ st = (fa τ st).bind oTru := rfl
@[simp] theorem oTru_bl {b : Bool} : oTru (.bl b) st = .ok b st := rfl
@[simp] theorem oTru_int {k : Int} : oTru (.int k) st = .ok (k != 0) st := rfl
@[simp] theorem oTru_non : oTru .non st = .ok false st := rfl
@[simp] theorem oTru_tup {xs : List D} : oTru (.tup xs) st = .ok (!xs.isEmpty) st := rfl
@[simp] theorem tAnd_e : HM.tAnd ga gb τ st = (ga τ st).bind fun x s1 => if x then gb τ s1 else .ok false s1 := rfl
@[simp] theorem tOr_e : HM.tOr ga gb τ st = (ga τ st).bind fun x s1 => if x then .ok true s1 else gb τ s1 := rfl
@[simp] theorem tNot_e : HM.tNot ga τ st = (ga τ st).bind fun x s1 => .ok (!x) s1 := rfl
@[simp] theorem tYes_e : HM.tYes τ st = .ok true st := rfl
def oAndV (k : Store → ER D) (d : D) (st : Store) : ER D := match dTru st d with
  | some true => k st
  | some false => .ok d st
  | none => .bad
def oOrV (k : Store → ER D) (d : D) (st : Store) : ER D := match dTru st d with
  | some true => .ok d st
  | some false => k st
  | none => .bad
def oNotV (d : D) (st : Store) : ER D := match dTru st d with
  | some b => .ok (.bl !b) st
  | none => .bad
@[simp] theorem eAnd_e : eAnd fa fb τ st = (fa τ st).bind (oAndV (fb τ)) := rfl
@[simp] theorem eOr_e : eOr fa fb τ st = (fa τ st).bind (oOrV (fb τ)) := rfl
@[simp] theorem eNot_e : eNot fa τ st = (fa τ st).bind oNotV := rfl
@[simp] theorem oAndV_bl {k : Store → ER D} {b : Bool} : oAndV k (.bl b) st = if b then k st else .ok (.bl false) st := by cases b <;> rfl
@[simp] theorem oOrV_bl {k : Store → ER D} {b : Bool} : oOrV k (.bl b) st = if b then .ok (.bl true) st else k st := by cases b <;> rfl
@[simp] theorem oNotV_bl {b : Bool} : oNotV (.bl b) st = .ok (.bl !b) st := rfl
@[simp] theorem eIf_e : eIf ga fa fb τ st = (ga τ st).bind fun x s1 => if x then fa τ s1 else fb τ s1 := rfl
@[simp] theorem aNil_e : aNil τ st = .ok [] st := rfl
@[simp] theorem aCons_e : aCons f fs τ st = (f τ st).bind fun x s1 => (fs τ s1).bind fun xs s2 => .ok (x :: xs) s2 := rfl
@[simp] theorem eTup_e : eTup fs τ st = (fs τ st).bind fun xs s1 => if xs.length ≤ 16777216 then .ok (.tup xs) s1 else .bad := rfl
@[simp] theorem eLst_e : eLst fs τ st = (fs τ st).bind fun xs s1 => if xs.length ≤ 16777216 then .ok (.ref s1.length) (s1 ++ [.lst xs]) else .bad := rfl
@[simp] theorem eCall_e {mf : FM} : eCall n mf fs τ st = (fs τ st).bind fun ds s1 => if ds.length = n then mf ds s1 else .bad := rfl
@[simp] theorem eCB_e {mf : FM} : eCB mf fs τ st = (fs τ st).bind mf := rfl
@[simp] theorem eCS_e {g : SM1} : eCS g fs τ st = (fs τ st).bind g := rfl
@[simp] theorem eEl_e : eEl fs τ st = (fs τ st).bind fun ds s1 => .ok (.ref s1.length) (s1 ++ [.lst ds]) := rfl
def oSeq (d : D) (st : Store) : ER (List D) := match dSeq st d with
  | some xs => .ok xs st
  | none => .bad
@[simp] theorem sEx_e : sEx f τ st = (f τ st).bind oSeq := rfl
@[simp] theorem oSeq_tup {xs : List D} : oSeq (.tup xs) st = .ok xs st := rfl
@[simp] theorem oSeq_rol {xs : List D} : oSeq (.rol xs) st = .ok xs st := rfl
@[simp] theorem eChain_e {o o' : O2} : eChain o o' fa fb fc τ st = (fa τ st).bind fun x s1 => (fb τ s1).bind fun y s2 => (o x y s2).bind fun z s3 => match z with
  | .bl true => (fc τ s3).bind fun w s4 => o' y w s4
  | .bl false => .ok (.bl false) s3
  | _ => .bad := rfl
/-! values -/
@[simp] theorem oAdd_int {i j : Int} : oAdd (.int i) (.int j) st = .ok (.int (i + j)) st := rfl
@[simp] theorem oIAdd_int {i j : Int} : oIAdd (.int i) (.int j) st = .ok (.int (i + j)) st := rfl
@[simp] theorem oAdd_str {a b : List Nat} : oAdd (.str a) (.str b) st = if a.length + b.length ≤ 16777216 then .ok (.str (a ++ b)) st else .bad := rfl
@[simp] theorem oAdd_tup {a b : List D} : oAdd (.tup a) (.tup b) st = if a.length + b.length ≤ 16777216 then .ok (.tup (a ++ b)) st else .bad := rfl
@[simp] theorem oInt_e {i j : Int} {k : Int → Int → Int} : oInt k (.int i) (.int j) st = .ok (.int (k i j)) st := rfl
@[simp] theorem oIntC_e {i j : Int} {C : Int → Int → Bool} {k : Int → Int → Int} (hc : C i j = true) : oIntC C k (.int i) (.int j) st = .ok (.int (k i j)) st := by
  show (if C i j = true then _ else _) = _
  rw [if_pos hc]
@[simp] theorem oCmp_e {i j : Int} {k : Int → Int → Bool} : oCmp k (.int i) (.int j) st = .ok (.bl (k i j)) st := rfl
@[simp] theorem oNeg_e {i : Int} : oNeg (.int i) st = .ok (.int (-i)) st := rfl
@[simp] theorem oEq_int {i j : Int} : oEq (.int i) (.int j) st = .ok (.bl (decide (i = j))) st := rfl
@[simp] theorem oNe_int {i j : Int} : oNe (.int i) (.int j) st = .ok (.bl !(decide (i = j))) st := rfl
@[simp] theorem oEq_str {a b : List Nat} : oEq (.str a) (.str b) st = .ok (.bl (decide (a = b))) st := rfl
@[simp] theorem oNe_str {a b : List Nat} : oNe (.str a) (.str b) st = .ok (.bl !(decide (a = b))) st := rfl
@[simp] theorem oEq_bl {a b : Bool} : oEq (.bl a) (.bl b) st = .ok (.bl (decide (a = b))) st := rfl
@[simp] theorem oNe_bl {a b : Bool} : oNe (.bl a) (.bl b) st = .ok (.bl !(decide (a = b))) st := rfl
@[simp] theorem oEq_tup {a b : List D} (ha : (D.tup a).plain 60 = true) (hb : (D.tup b).plain 60 = true) : oEq (.tup a) (.tup b) st = .ok (.bl (decide (a = b))) st := by
  simp [oEq, dEq, D.pd, ha, hb]
@[simp] theorem oNe_tup {a b : List D} (ha : (D.tup a).plain 60 = true) (hb : (D.tup b).plain 60 = true) : oNe (.tup a) (.tup b) st = .ok (.bl !(decide (a = b))) st := by
  simp [oNe, dEq, D.pd, ha, hb]
@[simp] theorem plain_tup {n : Nat} {xs : List D} : (D.tup xs).plain (n + 1) = xs.all (D.plain n) := rfl
@[simp] theorem plain_int {n : Nat} {k : Int} : (D.int k).plain n = true := by cases n <;> rfl
@[simp] theorem plain_non {n : Nat} : D.non.plain n = true := by cases n <;> rfl
@[simp] theorem plain_str {n : Nat} {x : List Nat} : (D.str x).plain n = x.all fun c => decide (c < 1114112) := by cases n <;> rfl
@[simp] theorem oIs_bl {a b : Bool} : oIs (.bl a) (.bl b) st = .ok (.bl (decide (a = b))) st := rfl
@[simp] theorem oIsNot_bl {a b : Bool} : oIsNot (.bl a) (.bl b) st = .ok (.bl !(decide (a = b))) st := rfl
@[simp] theorem oIs_non : oIs .non .non st = .ok (.bl true) st := rfl
@[simp] theorem oIs_int {i : Int} : oIs (.int i) .non st = .ok (.bl false) st := rfl
@[simp] theorem oIs_tup {xs : List D} : oIs (.tup xs) .non st = .ok (.bl false) st := rfl
@[simp] theorem oIsNot_non : oIsNot .non .non st = .ok (.bl false) st := rfl
@[simp] theorem oIsNot_int {i : Int} : oIsNot (.int i) .non st = .ok (.bl true) st := rfl
@[simp] theorem oIsNot_tup {xs : List D} : oIsNot (.tup xs) .non st = .ok (.bl true) st := rfl
def ofO (st : Store) : Option D → ER D
  | some d => .ok d st
  | none => .bad
@[simp] theorem ofO_some : ofO st (some d) = .ok d st := rfl
@[simp] theorem oIx_tup {xs : List D} {k : Int} : oIx (.tup xs) (.int k) st = ofO st (atI xs k) := by
  unfold oIx oIxS ofO
  simp only <;> (split <;> simp_all)
theorem oIx_ref {xs : List D} {m : Nat} {k : Int} (hh : lstAt st m = some xs) : oIx (.ref m) (.int k) st = ofO st (atI xs k) := by
  unfold oIx oIxS ofO
  simp only [dct_lst hh, hh] <;> (split <;> simp_all)
/-- d[k] -/
theorem oIx_dct {kvs : List (D × D)} {m : Nat} {k d : D} (hh : dctAt st m = some kvs) (hf : keyFit kvs k = true) (hg : dGet kvs k = some d) : oIx (.ref m) k st = .ok d st := by
  unfold oIx
  simp only [hh, hf, hg, if_true]
@[simp] theorem oLt_int {i j : Int} : oLt (.int i) (.int j) st = .ok (.bl (decide (i < j))) st := rfl
@[simp] theorem eDct_e : eDct τ st = .ok (.ref st.length) (st ++ [.dct []]) := rfl
@[simp] theorem atI_0 {α : Type} {x : α} {xs : List α} : atI (x :: xs) 0 = some x := by simp [atI, ixN]
@[simp] theorem atI_1 {α : Type} {x y : α} {xs : List α} : atI (x :: y :: xs) 1 = some y := atI_nat (j := 1) rfl
@[simp] theorem atI_2 {α : Type} {x y z : α} {xs : List α} : atI (x :: y :: z :: xs) 2 = some z := atI_nat (j := 2) rfl
@[simp] theorem atI_3 {α : Type} {x y z w : α} {xs : List α} : atI (x :: y :: z :: w :: xs) 3 = some w := atI_nat (j := 3) rfl
/-! built-ins -/
@[simp] theorem fInt_int {i : Int} : fInt [.int i] st = .ok (.int i) st := rfl
@[simp] theorem fInt_bl {b : Bool} : fInt [.bl b] st = .ok (.int (if b then 1 else 0)) st := rfl
@[simp] theorem fAbs_e {i : Int} : fAbs [.int i] st = .ok (.int (i.natAbs : Nat)) st := rfl
@[simp] theorem fGcd_e {i j : Int} : fGcd [.int i, .int j] st = .ok (.int (Nat.gcd i.natAbs j.natAbs : Nat)) st := rfl
@[simp] theorem fLen_tup {xs : List D} : fLen [.tup xs] st = .ok (.int xs.length) st := rfl
@[simp] theorem fLen_rol {xs : List D} : fLen [.rol xs] st = .ok (.int xs.length) st := rfl
theorem fLen_ref {xs : List D} {m : Nat} (hh : lstAt st m = some xs) : fLen [.ref m] st = .ok (.int xs.length) st := by simp [fLen, fLenS, dSeq, hh, dct_lst hh]
theorem fLen_dct {kvs : List (D × D)} {m : Nat} (hh : dctAt st m = some kvs) : fLen [.ref m] st = .ok (.int kvs.length) st := by simp [fLen, hh]
@[simp] theorem fTuple_tup {xs : List D} : fTuple [.tup xs] st = .ok (.tup xs) st := rfl
theorem fTuple_ref {xs : List D} {m : Nat} (hh : lstAt st m = some xs) : fTuple [.ref m] st = .ok (.tup xs) st := by simp [fTuple, dSeq, hh]
@[simp] theorem gTuple_e {xs : List D} : gTuple xs st = .ok (.tup xs) st := rfl
@[simp] theorem gLen_e {xs : List D} : gLen xs st = .ok (.int xs.length) st := rfl
@[simp] theorem fMin2_e {i j : Int} : fMin2 [.int i, .int j] st = .ok (.int (if j < i then j else i)) st := rfl
@[simp] theorem fMax2_e {i j : Int} : fMax2 [.int i, .int j] st = .ok (.int (if j > i then j else i)) st := rfl
theorem fIsi_e {t c : String} {b : Bool} (h1 : dTy st d = some t) (h2 : isiT t c = some b) : fIsi [d, .ty c] st = .ok (.bl b) st := by simp [fIsi, h1, h2]
theorem isi1 : isiT "int" "int" = some true := by decide +kernel
theorem isi2 : isiT "int" "bool" = some false := by decide +kernel
theorem isi3 : isiT "bool" "int" = some true := by decide +kernel
theorem isi4 : isiT "bool" "bool" = some true := by decide +kernel
theorem isi5 : isiT "tuple" "tuple" = some true := by decide +kernel
theorem isi6 : isiT "tuple" "int" = some false := by decide +kernel
theorem isi7 : isiT "str" "str" = some true := by decide +kernel
theorem isi8 : isiT "str" "int" = some false := by decide +kernel
theorem isi9 : isiT "NoneType" "int" = some false := by decide +kernel
@[simp] theorem fIsi_ii {i : Int} : fIsi [.int i, .ty "int"] st = .ok (.bl true) st := fIsi_e rfl isi1
@[simp] theorem fIsi_ib {i : Int} : fIsi [.int i, .ty "bool"] st = .ok (.bl false) st := fIsi_e rfl isi2
@[simp] theorem fIsi_bi {i : Bool} : fIsi [.bl i, .ty "int"] st = .ok (.bl true) st := fIsi_e rfl isi3
@[simp] theorem fIsi_bb {i : Bool} : fIsi [.bl i, .ty "bool"] st = .ok (.bl true) st := fIsi_e rfl isi4
@[simp] theorem fIsi_tt {xs : List D} : fIsi [.tup xs, .ty "tuple"] st = .ok (.bl true) st := fIsi_e rfl isi5
@[simp] theorem fIsi_ti {xs : List D} : fIsi [.tup xs, .ty "int"] st = .ok (.bl false) st := fIsi_e rfl isi6
@[simp] theorem fIsi_ss {x : List Nat} : fIsi [.str x, .ty "str"] st = .ok (.bl true) st := fIsi_e rfl isi7
@[simp] theorem fIsi_si {x : List Nat} : fIsi [.str x, .ty "int"] st = .ok (.bl false) st := fIsi_e rfl isi8
@[simp] theorem fIsi_ni : fIsi [.non, .ty "int"] st = .ok (.bl false) st := fIsi_e rfl isi9
/-! statements -/
def SR.seq (r : SR) (k : SM) : SR := match r with
  | .nx τ s => k τ s
  | r => r
@[simp] theorem seq_nx {k : SM} : (SR.nx τ st).seq k = k τ st := rfl
@[simp] theorem seq_rt {k : SM} : (SR.rt d st).seq k = .rt d st := rfl
@[simp] theorem seq_bad {k : SM} : SR.bad.seq k = .bad := rfl
@[simp] theorem seq_exc {x : Xc} {k : SM} : (SR.exc x τ st).seq k = .exc x τ st := rfl
@[simp] theorem seq_bk {k : SM} : (SR.bk τ st).seq k = .bk τ st := rfl
@[simp] theorem seq_ct {k : SM} : (SR.ct τ st).seq k = .ct τ st := rfl
@[simp] theorem sSeq_e : sSeq u v τ st = (u τ st).seq v := by
  unfold sSeq SR.seq
  rfl
@[simp] theorem sNil_e : sNil τ st = .nx τ st := rfl
@[simp] theorem sIf_e : sIf ga u v τ st = bindE (ga τ st) τ fun b s1 => if b then u τ s1 else v τ s1 := rfl
@[simp] theorem sSet_e : sSet i fe τ st = bindE (fe τ st) τ fun d s1 => .nx (τ.set i (some d)) s1 := rfl
@[simp] theorem sRet_e : sRet fe τ st = bindE (fe τ st) τ fun d s1 => .rt d s1 := rfl
@[simp] theorem sRetN_e : sRetN τ st = .rt .non st := rfl
@[simp] theorem sExpr_e : sExpr fe τ st = bindE (fe τ st) τ fun _ s1 => .nx τ s1 := rfl
@[simp] theorem sRaise_e {x : Xc} : sRaise x τ st = .exc x τ st := rfl
@[simp] theorem sBrk_e : sBrk τ st = .bk τ st := rfl
@[simp] theorem sCnt_e : sCnt τ st = .ct τ st := rfl
@[simp] theorem bindE_bind {r : ER α} {k : α → Store → ER β} {k' : β → Store → SR} : bindE (r.bind k) τ k' = bindE r τ fun a s => bindE (k a s) τ k' := by cases r <;> rfl
@[simp] theorem bind_bind {γ : Type} {r : ER α} {k : α → Store → ER β} {k' : β → Store → ER γ} : (r.bind k).bind k' = r.bind fun a s => (k a s).bind k' := by cases r <;> rfl
@[simp] theorem bind_ite {c : Prop} [Decidable c] {r r' : ER α} {k : α → Store → ER β} : (if c then r else r').bind k = if c then r.bind k else r'.bind k := by split <;> rfl
@[simp] theorem bindE_ite {c : Prop} [Decidable c] {r r' : ER α} {k : α → Store → SR} : bindE (if c then r else r') τ k = if c then bindE r τ k else bindE r' τ k := by split <;> rfl
def SR.fin : SR → ER D
  | .nx _ s => .ok .non s
  | .rt d s => .ok d s
  | .exc x _ s => .exc x s
  | _ => .bad
@[simp] theorem fin_nx : (SR.nx τ st).fin = .ok .non st := rfl
@[simp] theorem fin_rt : (SR.rt d st).fin = .ok d st := rfl
@[simp] theorem fin_exc {x : Xc} : (SR.exc x τ st).fin = .exc x st := rfl
@[simp] theorem fin_bad : SR.bad.fin = .bad := rfl
theorem runB_e {ds : List D} : runB n u ds st = (u (ent n ds) st).fin := rfl
@[simp] theorem fin_ite {c : Prop} [Decidable c] {r r' : SR} : (if c then r else r').fin = if c then r.fin else r'.fin := by split <;> rfl
@[simp] theorem seq_ite {c : Prop} [Decidable c] {r r' : SR} {k : SM} : (if c then r else r').seq k = if c then r.seq k else r'.seq k := by split <;> rfl
@[simp] theorem ent_0 : ent n [] = List.replicate n none := by simp [ent]
@[simp] theorem ent_cons {x : D} {xs : List D} : ent (n + 1) (x :: xs) = some x :: ent n xs := by
  simp [ent]
end
end HM

/-! HM, part T: lists written to, loops, the draws' store. -/
namespace HM
open PySem PySem.Spec PyProof.Rows L2
section
variable {α β : Type} {τ : Sl} {st : Store} {f g h fa fb fc fe fo fi : EM D} {fs : EM (List D)} {ga gb : EM Bool} {i n m : Nat} {d v : D} {xs ys : List D} {u w : SM}
theorem lstAt_set (hh : lstAt st n = some xs) : lstAt (st.set n (.lst ys)) n = some ys := by
  have : n < st.length := by
    unfold lstAt at hh
    split at hh
    · rename_i e
      exact (List.getElem?_eq_some_iff.mp e).1
    · cases hh
  simp [lstAt, this]
theorem lstAt_ne {c : Cell} (hh : m ≠ n) : lstAt (st.set n c) m = lstAt st m := by
  unfold lstAt
  rw [List.getElem?_set_ne (Ne.symm hh)]
theorem oSet_ref {k : Int} {j : Nat} (hh : lstAt st m = some xs) (hj : ixN xs.length k = some j) : oSet (.ref m) (.int k) v st = some (st.set m (.lst (xs.set j v))) := by
  simp [oSet, oSetS, dct_lst hh, hh, hj]
theorem oSet_dct {kvs : List (D × D)} {k : D} (hh : dctAt st m = some kvs) (hf : keyFit kvs k = true) (hl : kvs.length < 16777216) : oSet (.ref m) k v st = some (st.set m (.dct (dPut kvs k v))) := by
  simp [oSet, hh, hf, hl]
theorem oGetL_ref {k : Int} (hh : lstAt st m = some xs) : oGetL (.ref m) (.int k) st = ofO st (atI xs k) := by
  unfold oGetL oGetLS ofO
  simp only [dct_lst hh, hh] <;> (split <;> simp_all)
def ofS (τ : Sl) : Option Store → SR
  | some s => .nx τ s
  | none => .bad
@[simp] theorem ofS_some : ofS τ (some st) = .nx τ st := rfl
@[simp] theorem sSub_e : sSub fo fi fe τ st = bindE (fe τ st) τ fun v s1 => bindE (fo τ s1) τ fun o s2 => bindE (fi τ s2) τ fun i s3 => ofS τ (oSet o i v s3) := by
  unfold sSub ofS
  rfl
@[simp] theorem sAugS_e {o : O2} : sAugS o fo fi fe τ st = bindE (fo τ st) τ fun x s1 => bindE (fi τ s1) τ fun i s2 => bindE (oGetL x i s2) τ fun y s3 => bindE (fe τ s3) τ fun z s4 => bindE (o y z s4) τ fun v s5 => ofS τ (oSet x i v s5) := by
  unfold sAugS ofS
  rfl
theorem sAug_e {o : O2} (hh : τ[i]? = some (some d)) : sAug i o fe τ st = bindE (fe τ st) τ fun y s1 => bindE (o d y s1) τ fun z s2 => .nx (τ.set i (some z)) s2 := by
  unfold sAug
  rw [hh]
def ofA (set : D → Sl → Option Sl) (τ : Sl) (d : D) (st : Store) : SR := match set d τ with
  | some τ1 => .nx τ1 st
  | none => .bad
@[simp] theorem sAsg_e {set : D → Sl → Option Sl} : sAsg set fe τ st = bindE (fe τ st) τ (ofA set τ) := rfl
@[simp] theorem okMul_l {i j : Int} (hh : i.natAbs < 18446744073709551616) : okMul i j = true := decide_eq_true (.inl (.inl hh))
@[simp] theorem okMul_r {i j : Int} (hh : j.natAbs < 18446744073709551616) : okMul i j = true := decide_eq_true (.inl (.inr hh))
theorem okMod_of {i j : Int} (hh : j ≠ 0) : okMod i j = true := decide_eq_true hh
theorem okDiv_of {i j : Int} (hh : j ≠ 0) (h2 : j.natAbs.log2 < 9000) : okDiv i j = true := decide_eq_true ⟨hh, h2⟩
theorem log2_le {x k : Nat} (h : x < 2 ^ k) : x.log2 ≤ k := by
  by_cases z : x = 0
  · subst z
    exact Nat.zero_le _
  · exact Nat.le_of_lt ((Nat.log2_lt z).mpr h)
/-! for loops -/
theorem sFor_e {fi : EM Sq} {set : D → Sl → Option Sl} : sFor fi set u τ st = bindE (fi τ st) τ fun q s1 => forL q set u q.items τ s1 := rfl
def ofQ (st : Store) : Option Sq → ER Sq
  | some q => .ok q st
  | none => .bad
@[simp] theorem ofQ_some {q : Sq} : ofQ st (some q) = .ok q st := rfl
@[simp] theorem iEx_e : iEx f τ st = (f τ st).bind fun d s1 => ofQ s1 (dSq s1 d) := by
  unfold iEx ofQ
  rfl
@[simp] theorem dSq_tup : dSq st (.tup xs) = some (.fix xs) := rfl
@[simp] theorem dSq_rol : dSq st (.rol xs) = some (.fix xs) := rfl
theorem dSq_ref (hh : lstAt st n = some xs) : dSq st (.ref n) = some (.cell n xs) := by simp [dSq, hh]
@[simp] theorem items_fix : (Sq.fix xs).items = xs := rfl
@[simp] theorem items_cell : (Sq.cell n xs).items = xs := rfl
@[simp] theorem iEl_e : iEl fs τ st = (fs τ st).bind fun xs s1 => .ok (.fix xs) s1 := rfl
def rg1 (d : D) (st : Store) : ER Sq := match d with
  | .int j => if okRng j then .ok (.fix (rng 0 j)) st else .bad
  | _ => .bad
def rg2 (d e : D) (st : Store) : ER Sq := match d, e with
  | .int i, .int j => if okRng i && okRng j then .ok (.fix (rng i j)) st else .bad
  | _, _ => .bad
@[simp] theorem iRg1_e : iRg1 f τ st = (f τ st).bind rg1 := rfl
@[simp] theorem iRg2_e : iRg2 fa fb τ st = (fa τ st).bind fun d s1 => (fb τ s1).bind fun e s2 => rg2 d e s2 := rfl
theorem okRng_of {j : Int} (hh : j.natAbs < 4611686018427387904) : okRng j = true := decide_eq_true hh
theorem rg1_int {j : Int} (hh : j.natAbs < 4611686018427387904) : rg1 (.int j) st = .ok (.fix (rng 0 j)) st := by simp [rg1, okRng_of hh]
theorem rg2_int {i j : Int} (hi : i.natAbs < 4611686018427387904) (hh : j.natAbs < 4611686018427387904) : rg2 (.int i) (.int j) st = .ok (.fix (rng i j)) st := by simp [rg2, okRng_of hh, okRng_of hi]
/-- a loop, by an invariant -/
theorem for_inv {set : D → Sl → Option Sl} {q : Sq} (P : Nat → Sl → Store → Prop) (hc : ∀ k τ st, P k τ st → q.chk st = true) :
    ∀ (xs : List D) (k : Nat) (τ : Sl) (st : Store), P k τ st →
    (∀ i d τ st, xs[i]? = some d → P (k + i) τ st → ∃ τ1, set d τ = some τ1 ∧ ∃ τ2 s2, (u τ1 st = .nx τ2 s2 ∨ u τ1 st = .ct τ2 s2) ∧ P (k + i + 1) τ2 s2) →
    ∃ τ' st', forL q set u xs τ st = .nx τ' st' ∧ P (k + xs.length) τ' st'
  | [], k, τ, st, h0, _ => ⟨τ, st, by
      unfold forL
      rw [if_pos (hc _ _ _ h0)], h0⟩
  | d :: ds, k, τ, st, h0, hs => by
    obtain ⟨τ1, e1, τ2, s2, e2, h2⟩ := hs 0 d τ st rfl h0
    obtain ⟨τ', st', e3, h3⟩ := for_inv (q := q) P hc ds (k + 1) τ2 s2 h2 fun i d τ st hi hp => by
      have := hs (i + 1) d τ st hi (by rwa [show k + (i + 1) = k + 1 + i by omega])
      rwa [show k + (i + 1) + 1 = k + 1 + i + 1 by omega] at this
    refine ⟨τ', st', ?_, ?_⟩
    · unfold forL
      rw [if_pos (hc _ _ _ h0), e1]
      rcases e2 with e2 | e2 <;> simp only [e2, e3]
    · rw [List.length_cons]
      rwa [show k + (ds.length + 1) = k + 1 + ds.length by omega]
/-! comprehensions -/
def lc1 (own : List Nat) (set : D → Sl → Option Sl) (ft : EM Bool) (fe : EM D) (τ : Sl) (q : Sq) (st : Store) : ER (List D) := if q.items.length ≤ 16777216 then compL q set ft fe (wipeD τ own) q.items [] st else .bad
theorem lComp_e {own : List Nat} {fi : EM Sq} {set : D → Sl → Option Sl} {ft : EM Bool} : lComp own fi set ft fe τ st = (fi τ st).bind (lc1 own set ft fe τ) := rfl
/-- a comprehension without tests -/
theorem comp_inv {set : D → Sl → Option Sl} {q : Sq} (P : List D → Store → Prop) (hc : ∀ acc st, P acc st → q.chk st = true) :
    ∀ (xs acc : List D) (st : Store), P acc st →
    (∀ i d acc' st, xs[i]? = some d → acc'.length = acc.length + i → P acc' st → ∃ τ1, set d τ = some τ1 ∧ ∃ x s2, fe τ1 st = .ok x s2 ∧ P (acc' ++ [x]) s2) →
    ∃ ys st', compL q set tYes fe τ xs acc st = .ok ys st' ∧ P ys st' ∧ ys.length = acc.length + xs.length
  | [], acc, st, h0, _ => ⟨acc, st, by
      unfold compL
      rw [if_pos (hc _ _ h0)], h0, rfl⟩
  | d :: ds, acc, st, h0, hs => by
    obtain ⟨τ1, e1, x, s2, e2, h2⟩ := hs 0 d acc st rfl rfl h0
    obtain ⟨ys, st', e3, h3, h4⟩ := comp_inv (q := q) P hc ds (acc ++ [x]) s2 h2 fun i d acc' st hi ha hp => hs (i + 1) d acc' st hi (by simp at ha; omega) hp
    refine ⟨ys, st', ?_, h3, by simp at h4; simp; omega⟩
    unfold compL
    rw [if_pos (hc _ _ h0), e1]
    simp only [tYes, ER.bindN_ok, if_true, e2]
    exact e3
end
/-! the draws' store: cell 0 holds the script's numbers, cell 1 the place -/
structure DS (ns : List Int) (st : Store) : Prop where
  c0 : lstAt st 0 = some (ns.map D.int)
  c1 : ∃ p h q : Int, 0 ≤ p ∧ lstAt st 1 = some [.ref 0, .int p, .int h, .int q]
/-- what a draw may change -/
structure Fr (a b : Store) : Prop where
  len : a.length ≤ b.length
  at' : ∀ n, n ≠ 1 → n < a.length → b[n]? = a[n]?
theorem Fr.refl {a : Store} : Fr a a := ⟨Nat.le_refl _, fun _ _ _ => rfl⟩
theorem Fr.trans {a b c : Store} (x : Fr a b) (y : Fr b c) : Fr a c := ⟨Nat.le_trans x.len y.len, fun n h1 h2 => (y.at' n h1 (Nat.lt_of_lt_of_le h2 x.len)).trans (x.at' n h1 h2)⟩
theorem Fr.lst {a b : Store} {n : Nat} {xs : List D} (x : Fr a b) (h : lstAt a n = some xs) (hn : n ≠ 1) : lstAt b n = some xs := by
  have := x.at' n hn (lstAt_lt h)
  unfold lstAt at h ⊢
  rwa [this]
theorem Fr.app {a : Store} {c : Cell} : Fr a (a ++ [c]) := ⟨by simp, fun n _ h => by rw [List.getElem?_append_left h]⟩
theorem DS.app {ns : List Int} {st : Store} {c : Cell} (h : DS ns st) : DS ns (st ++ [c]) := by
  obtain ⟨c0, p, hh, q, hp, c1⟩ := h
  exact ⟨by rw [lstAt_left (lstAt_lt c0)]; exact c0, p, hh, q, hp, by rw [lstAt_left (lstAt_lt c1)]; exact c1⟩
end HM

/-! HM, part U: how the mirrors of parts 10 to 12 are computed. -/
namespace HM
open PySem PySem.Spec PyProof.Rows L2
section
variable {τ : Sl} {st : Store} {f g fo fi : EM D} {fs : EM (List D)} {fl fh : EM (Option Int)} {i n m : Nat} {d v x : D} {xs ys : List D}
@[simp] theorem eM_e {T : String} {g : MM} : eM T g fo fs τ st = (fo τ st).bind fun d s1 => if okT T s1 d then (fs τ s1).bind fun ds s2 => g d ds s2 else .bad := rfl
theorem okT_ref (hh : lstAt st n = some xs) : okT "list" st (.ref n) = true := by simp [okT, hh]
@[simp] theorem okT_str {z : List Nat} : okT "str" st (.str z) = true := rfl
theorem mAppend_ref (hh : lstAt st n = some xs) (hl : xs.length < 16777216) : mAppend (.ref n) [x] st = .ok .non (st.set n (.lst (xs ++ [x]))) := by simp [mAppend, hh, hl]
theorem mInsert_ref {k : Nat} (hh : lstAt st n = some xs) (hl : xs.length < 16777216) (hk : k < 9223372036854775808) : mInsert (.ref n) [.int k, x] st = .ok .non (st.set n (.lst (xs.take k ++ [x] ++ xs.drop k))) := by
  have h2 : okIx (k : Int) = true := decide_eq_true (by omega)
  simp [mInsert, hh, hl, h2]
theorem mExtend_ref (hh : lstAt st n = some xs) (h2 : lstAt st m = some ys) (hl : xs.length + ys.length ≤ 16777216) : mExtend (.ref n) [.ref m] st = .ok .non (st.set n (.lst (xs ++ ys))) := by simp [mExtend, hh, h2, hl]
theorem mPop_ref (hh : lstAt st n = some (xs ++ [x])) : mPop (.ref n) [] st = .ok x (st.set n (.lst xs)) := by simp [mPop, hh]
theorem mJoin_tup {a : List Nat} {ys : List (List Nat)} (hl : (ys.map List.length).sum + ys.length * a.length ≤ 16777216) : mJoin (.str a) [.tup (ys.map D.str)] st = .ok (.str (joinD a ys)) st := by
  simp [mJoin, dSeq, strsD_map, hl]
theorem mJoin_ref {a : List Nat} {ys : List (List Nat)} (hh : lstAt st n = some (ys.map D.str)) (hl : (ys.map List.length).sum + ys.length * a.length ≤ 16777216) : mJoin (.str a) [.ref n] st = .ok (.str (joinD a ys)) st := by
  simp [mJoin, dSeq, hh, strsD_map, hl]
def ofB (st : Store) : Option Bool → ER D
  | some b => .ok (.bl b) st
  | none => .bad
@[simp] theorem ofB_some {b : Bool} : ofB st (some b) = .ok (.bl b) st := rfl
@[simp] theorem oIn_e : oIn x v st = ofB st (dIn x v st) := by
  unfold oIn ofB
  rfl
@[simp] theorem oNotIn_e : oNotIn x v st = ofB st ((dIn x v st).map fun b => !b) := by
  unfold oNotIn ofB
  cases dIn x v st <;> rfl
@[simp] theorem dIn_sign {c : Nat} {z : List Nat} : dIn (.str [c]) (.str z) st = some (decide (c ∈ z)) := rfl
theorem dIn_S (hy : dSeq st v = some ys) : dIn x v st = dInS x v st := by
  unfold dIn
  cases v with
  | ref n => simp only [dct_lst (show lstAt st n = some ys from hy)]
  | _ => rfl
theorem dIn_dct {kvs : List (D × D)} (hh : dctAt st n = some kvs) (hf : keyFit kvs x = true) : dIn x (.ref n) st = some (dGet kvs x).isSome := by
  unfold dIn
  simp only [hh, hf, if_true]
theorem dIn_flat (hy : dSeq st v = some ys) (h1 : x.flat = true) (h2 : ys.all D.flat = true) : dIn x v st = some (ys.any fun y => eqF y x) := by
  rw [dIn_S hy]
  unfold dInS
  split
  · rename_i c z
    cases hy
  · simp [hy, h1, h2]
@[simp] theorem dSeq_tup : dSeq st (.tup xs) = some xs := rfl
@[simp] theorem dSeq_rol : dSeq st (.rol xs) = some xs := rfl
theorem dSeq_ref (hh : lstAt st n = some xs) : dSeq st (.ref n) = some xs := hh
@[simp] theorem flat_int {k : Int} : (D.int k).flat = true := rfl
@[simp] theorem flat_str {k : List Nat} : (D.str k).flat = true := rfl
@[simp] theorem flat_bl {k : Bool} : (D.bl k).flat = true := rfl
@[simp] theorem flat_non : D.non.flat = true := rfl
@[simp] theorem eqF_int {a b : Int} : eqF (.int a) (.int b) = decide (a = b) := rfl
@[simp] theorem eqF_str {a b : List Nat} : eqF (.str a) (.str b) = decide (a = b) := rfl
@[simp] theorem dIn_tup {k : Int} : dIn (.int k) (.tup ys) st = if ys.all D.flat then some (ys.any fun y => eqF y (.int k)) else if ys.all (D.plain 59) then some (decide (D.int k ∈ ys)) else none := by
  simp [dIn, dInS, dSeq] <;> rfl
@[simp] theorem eSl_e : eSl f fl fh τ st = (f τ st).bind fun d s1 => (fl τ s1).bind fun l s2 => (fh τ s2).bind fun h s3 => dCut d l h s3 := rfl
@[simp] theorem oNone_e : oNone τ st = .ok none st := rfl
def ofI (d : D) (st : Store) : ER (Option Int) := match d with
  | .int i => .ok (some i) st
  | _ => .bad
@[simp] theorem ofI_int {k : Int} : ofI (.int k) st = .ok (some k) st := rfl
@[simp] theorem oSome_e : oSome f τ st = (f τ st).bind ofI := rfl
theorem sIx_n {n d k : Nat} : HT.sIx n d (some (k : Int)) = min k n := HT.sIx_nat n d k
@[simp] theorem sIx_0 {n d : Nat} : HT.sIx n d none = d := rfl
theorem dCut_str {z : List Nat} {lo hi : Option Int} (hz : z.length ≤ 16777216) : dCut (.str z) lo hi st = .ok (.str (cutD z lo hi)) st := by simp [dCut, hz]
theorem dCut_ref {lo hi : Option Int} (hh : lstAt st n = some xs) : dCut (.ref n) lo hi st = .ok (.ref st.length) (st ++ [.lst (cutD xs lo hi)]) := by simp [dCut, hh]
theorem cutD_nn {α : Type} {zs : List α} {a b : Nat} : cutD zs (some (a : Int)) (some (b : Int)) = (zs.drop (min a zs.length)).take (min b zs.length - min a zs.length) := by
  unfold cutD
  rw [sIx_n, sIx_n]
theorem cutD_to {α : Type} {zs : List α} {b : Nat} : cutD zs none (some (b : Int)) = zs.take b := by
  unfold cutD
  rw [sIx_n, sIx_0, List.drop_zero, Nat.sub_zero]
  exact PySem.W.kmk_take_min ..
theorem cutD_from {α : Type} {zs : List α} {a : Nat} : cutD zs (some (a : Int)) none = zs.drop a := by
  unfold cutD
  rw [sIx_n, sIx_0]
  rw [show zs.drop (min a zs.length) = zs.drop a from PySem.W.kmk_drop_min ..]
  refine List.take_of_length_le ?_
  rw [List.length_drop]
  omega
theorem gSum_ints {ns : List Int} : gSum (ns.map D.int) st = .ok (.int ns.sum) st := by simp [gSum, intsD_map]
theorem gAllB_bls {bs : List Bool} : gAllB (bs.map D.bl) st = .ok (.bl (bs.all id)) st := by simp [gAllB, blsD_map]
theorem gAnyB_bls {bs : List Bool} : gAnyB (bs.map D.bl) st = .ok (.bl (bs.any id)) st := by simp [gAnyB, blsD_map]
@[simp] theorem oMul_int {a b : Int} (hc : okMul a b = true) : oMul (.int a) (.int b) st = .ok (.int (a * b)) st := by simp [oMul, hc]
theorem oMul_str {z : List Nat} {k : Int} (h2 : 2 ≤ k) (hz : k ≤ 16777216) (hl : z.length * k.toNat ≤ 16777216) : oMul (.str z) (.int k) st = .ok (.str (repD k.toNat z)) st := by
  simp [oMul, h2, hz, hl]
theorem fLcm_W {a b : Int} (ha : a.natAbs < 2 ^ 9000) (hb : b.natAbs < 2 ^ 9000) : fLcm [.int a, .int b] st = .ok (.int (Nat.lcm a.natAbs b.natAbs : Nat)) st := by
  unfold fLcm
  simp only [decide_eq_true ha, decide_eq_true hb, Bool.and_self, if_true]
theorem fLcm_e {a b : Int} (ha : a.natAbs < 18446744073709551616) (hb : b.natAbs < 18446744073709551616) : fLcm [.int a, .int b] st = .ok (.int (Nat.lcm a.natAbs b.natAbs : Nat)) st :=
  fLcm_W (Nat.lt_of_lt_of_le ha (Nat.pow_le_pow_right (n := 2) (i := 64) (by decide) (by decide))) (Nat.lt_of_lt_of_le hb (Nat.pow_le_pow_right (n := 2) (i := 64) (by decide) (by decide)))
theorem fList_tup : fList [.tup xs] st = .ok (.ref st.length) (st ++ [.lst xs]) := rfl
theorem fList_ref (hh : lstAt st n = some xs) : fList [.ref n] st = .ok (.ref st.length) (st ++ [.lst xs]) := by simp [fList, dSeq, hh]
theorem sExL_e : sExL f τ st = (f τ st).bind fun d s1 => match dSeqL s1 d with
  | some xs => .ok xs s1
  | none => .bad := rfl
theorem oAdd_ref (hh : lstAt st n = some xs) (h2 : lstAt st m = some ys) (hl : xs.length + ys.length ≤ 16777216) : oAdd (.ref n) (.ref m) st = .ok (.ref st.length) (st ++ [.lst (xs ++ ys)]) := by simp [oAdd, hh, h2, hl]
theorem oIx_str {z : List Nat} {k : Nat} {c : Nat} (hz : z.length ≤ 16777216) (hk : z[k]? = some c) : oIx (.str z) (.int k) st = .ok (.str [c]) st := by
  have := atI_nat (xs := z) (j := k) (v := c) hk
  simp [oIx, oIxS, hz, this]
theorem fLen_str {z : List Nat} (hz : z.length ≤ 16777216) : fLen [.str z] st = .ok (.int z.length) st := by simp [fLen, fLenS, hz]
end
/-- a while loop, by an invariant with a measure -/
theorem while_inv {g : EM Bool} {u : SM} (P : Nat → Sl → Store → Prop) (Done : Sl → Store → Prop)
    (hs : ∀ n τ st, P n τ st → (∃ s1, g τ st = .ok false s1 ∧ Done τ s1) ∨ (∃ s1, g τ st = .ok true s1 ∧ ∃ τ2 s2, (u τ s1 = .nx τ2 s2 ∨ u τ s1 = .ct τ2 s2) ∧ ∃ m, m < n ∧ P m τ2 s2)) :
    ∀ (k n : Nat) (τ : Sl) (st : Store), n < k → P n τ st → ∃ τ' st', whileN g u k τ st = .nx τ' st' ∧ Done τ' st'
  | 0, _, _, _, h, _ => absurd h (Nat.not_lt_zero _)
  | k + 1, n, τ, st, h, hp => by
    unfold whileN
    rcases hs n τ st hp with ⟨s1, e, hd⟩ | ⟨s1, e, τ2, s2, e2, m, hm, hp2⟩
    · rw [e, bindE_ok, if_neg Bool.false_ne_true]
      exact ⟨τ, s1, rfl, hd⟩
    · rw [e, bindE_ok, if_pos rfl]
      obtain ⟨τ', st', e3, hd⟩ := while_inv P Done hs k m τ2 s2 (by omega) hp2
      refine ⟨τ', st', ?_, hd⟩
      rcases e2 with e2 | e2 <;> simp only [e2] <;> exact e3
/-- a comprehension that reads alone -/
theorem comp_map {α : Type} {q : Sq} {set : D → Sl → Option Sl} {fe : EM D} {τ : Sl} {st : Store} (hq : q.chk st = true) (g h : α → D) : ∀ (xs : List α) (acc : List D), (∀ a ∈ xs, ∃ τ1, set (g a) τ = some τ1 ∧ fe τ1 st = .ok (h a) st) → compL q set tYes fe τ (xs.map g) acc st = .ok (acc ++ xs.map h) st
  | [], acc, _ => by
    rw [List.map_nil, List.map_nil, List.append_nil]
    unfold compL
    rw [if_pos hq]
  | a :: xs, acc, hs => by
    obtain ⟨τ1, e1, e2⟩ := hs a (List.mem_cons_self ..)
    rw [List.map_cons]
    unfold compL
    rw [if_pos hq, e1]
    simp only [tYes, ER.bindN_ok, if_true, e2]
    rw [comp_map hq g h xs (acc ++ [h a]) fun b hb => hs b (List.mem_cons_of_mem _ hb), List.map_cons, List.append_assoc]
    rfl
/-- a loop that folds -/
theorem for_fold {α β : Type} {q : Sq} {set : D → Sl → Option Sl} {u : SM} {st : Store} (hq : q.chk st = true) (g : α → D) (F : β → α → β) (E : β → Option D → Sl) (I : β → Prop) : ∀ (xs : List α) (b : β) (t : Option D), I b →
    (∀ b t a, a ∈ xs → I b → I (F b a) ∧ ∃ τ1, set (g a) (E b t) = some τ1 ∧ u τ1 st = .nx (E (F b a) (some (g a))) st) → (∃ t', forL q set u (xs.map g) (E b t) st = .nx (E (xs.foldl F b) t') st) ∧ I (xs.foldl F b)
  | [], b, t, hI, _ => ⟨⟨t, by rw [List.map_nil, forL, if_pos hq]; rfl⟩, hI⟩
  | a :: xs, b, t, hI, hs => by
    obtain ⟨h1, τ1, e1, e2⟩ := hs b t a (List.mem_cons_self ..) hI
    obtain ⟨⟨t', e3⟩, h3⟩ := for_fold hq g F E I xs (F b a) (some (g a)) h1 fun b t a ha => hs b t a (List.mem_cons_of_mem _ ha)
    refine ⟨⟨t', ?_⟩, h3⟩
    rw [List.map_cons, forL, if_pos hq, e1]
    simp only [e2]
    exact e3
end HM

/-! HM, part V: growth of stores, comprehensions with tests, keyword calls. -/
namespace HM
open PySem PySem.Spec PyProof.Rows L2
section
variable {τ : Sl} {st : Store} {fs fk : EM (List D)} {n k np : Nat} {is : List Nat} {mf : FM}
@[simp] theorem eCallK_e : eCallK n k np is mf fs fk τ st = (fs τ st).bind fun ds s1 => (fk τ s1).bind fun es s2 => if ds.length = n ∧ es.length = k ∧ (arr is (ds ++ es)).length = np then mf (arr is (ds ++ es)) s2 else .bad := rfl
end
/-- cells are added alone -/
structure Gr (a b : Store) : Prop where
  ex : ∃ l, b = a ++ l
theorem Gr.refl {a : Store} : Gr a a := ⟨[], by simp⟩
theorem Gr.app {a : Store} {c : Cell} : Gr a (a ++ [c]) := ⟨[c], rfl⟩
theorem Gr.trans {a b c : Store} (x : Gr a b) (y : Gr b c) : Gr a c := by
  obtain ⟨l, rfl⟩ := x.ex
  obtain ⟨m, rfl⟩ := y.ex
  exact ⟨l ++ m, by simp⟩
theorem Gr.lst {a b : Store} {n : Nat} {xs : List D} (x : Gr a b) (h : lstAt a n = some xs) : lstAt b n = some xs := by
  obtain ⟨l, rfl⟩ := x.ex
  rw [lstAt_left (lstAt_lt h)]
  exact h
theorem Gr.fr {a b : Store} (x : Gr a b) : Fr a b := by
  obtain ⟨l, rfl⟩ := x.ex
  exact ⟨by simp, fun n _ h => by rw [List.getElem?_append_left h]⟩
theorem Gr.ds {a b : Store} {ns : List Int} (x : Gr a b) (H : DS ns a) : DS ns b := by
  obtain ⟨c0, p, h, q, hp, c1⟩ := H
  exact ⟨x.lst c0, p, h, q, hp, x.lst c1⟩
/-- the last cell is written -/
theorem Gr.put {a b : Store} {m : Nat} {c : Cell} (x : Gr a b) (h : a.length ≤ m) : Gr a (b.set m c) := by
  obtain ⟨l, rfl⟩ := x.ex
  exact ⟨l.set (m - a.length) c, List.set_append_right m c h⟩
theorem Gr.len {a b : Store} (x : Gr a b) : a.length ≤ b.length := by
  obtain ⟨l, rfl⟩ := x.ex
  simp
theorem DS.put2 {ns : List Int} {s : Store} {m : Nat} {c : Cell} (H : DS ns s) (h0 : m ≠ 0) (h1 : m ≠ 1) : DS ns (s.set m c) := by
  obtain ⟨c0, p, h, q, hp, c1⟩ := H
  exact ⟨by rw [lstAt_ne (Ne.symm h0)]; exact c0, p, h, q, hp, by rw [lstAt_ne (Ne.symm h1)]; exact c1⟩
theorem Fr.put2 {st s : Store} {m : Nat} {c : Cell} (F : Fr st s) (h : st.length ≤ m) : Fr st (s.set m c) :=
  ⟨by rw [List.length_set]; exact F.len, fun n h1 h2 => by rw [List.getElem?_set_ne (by omega)]; exact F.at' n h1 h2⟩
theorem DS.len {ns : List Int} {s : Store} (H : DS ns s) : 2 ≤ s.length := by
  obtain ⟨p, h, q, _, c1⟩ := H.c1
  exact lstAt_lt c1
theorem rng_eq (n : Nat) : rng 0 n = (List.range n).map fun k => D.int (k : Nat) := by
  unfold rng
  simp
theorem rng_mem {n : Nat} {i : Nat} {d : D} (h : (rng 0 n)[i]? = some d) : ∃ k : Nat, k < n ∧ d = .int k := by
  rw [rng_eq, List.getElem?_map] at h
  cases hx : (List.range n)[i]? with
  | none => rw [hx] at h; cases h
  | some a =>
    have := List.mem_range.mp (List.mem_of_getElem? hx)
    rw [hx] at h
    exact ⟨a, this, (Option.some.inj h).symm⟩
@[simp] theorem iZip_e {fa fb : EM D} {τ : Sl} {st : Store} : iZip fa fb τ st = (fa τ st).bind fun d s1 => (fb τ s1).bind fun e s2 => zip2 d e s2 := rfl
@[simp] theorem zip2_tup {xs ys : List D} {st : Store} : zip2 (.tup xs) (.tup ys) st = .ok (.fix (zipD xs ys)) st := rfl
def okRg (k : Int → Int → Store → ER D) (d : D) (st : Store) : ER D := match d with
  | .int j => k 0 j st
  | _ => .bad
@[simp] theorem eRg1_e {k : Int → Int → Store → ER D} {fa : EM D} {τ : Sl} {st : Store} : eRg1 k fa τ st = (fa τ st).bind (okRg k) := rfl
@[simp] theorem okRg_int {k : Int → Int → Store → ER D} {j : Int} {st : Store} : okRg k (.int j) st = k 0 j st := rfl
theorem rng_len {n : Nat} : (rng 0 (n : Nat)).length = n := by
  unfold rng
  simp
theorem lstAt_new {a : Store} {xs : List D} : lstAt (a ++ [.lst xs]) a.length = some xs := by simp [lstAt]
/-- a comprehension with a test -/
theorem comp_gen {q : Sq} {set : D → Sl → Option Sl} {ft : EM Bool} {fe : EM D} {τ : Sl} (P : Nat → List D → Store → Prop) (hc : ∀ k acc st, P k acc st → q.chk st = true) :
    ∀ (xs : List D) (k : Nat) (acc : List D) (st : Store), P k acc st →
    (∀ (i : Nat) (d : D) (acc' : List D) (st : Store), xs[i]? = some d → P (k + i) acc' st → ∃ τ1, set d τ = some τ1 ∧ ∃ b s1, ft τ1 st = .ok b s1 ∧ (b = false → P (k + i + 1) acc' s1) ∧ (b = true → ∃ x s2, fe τ1 s1 = .ok x s2 ∧ P (k + i + 1) (acc' ++ [x]) s2)) →
    ∃ ys st', compL q set ft fe τ xs acc st = .ok ys st' ∧ P (k + xs.length) ys st'
  | [], k, acc, st, h0, _ => ⟨acc, st, by
      unfold compL
      rw [if_pos (hc _ _ _ h0)], h0⟩
  | d :: ds, k, acc, st, h0, hs => by
    obtain ⟨τ1, e1, b, s1, e2, h2, h3⟩ := hs 0 d acc st rfl h0
    have next : ∀ acc s, P (k + 1) acc s → ∃ ys st', compL q set ft fe τ ds acc s = .ok ys st' ∧ P (k + (d :: ds).length) ys st' := fun acc s h => by
      rw [List.length_cons, show k + (ds.length + 1) = k + 1 + ds.length by omega]
      refine comp_gen P hc ds (k + 1) acc s h fun i d acc' st hi hp => ?_
      rw [show k + 1 + i = k + (i + 1) by omega] at hp ⊢
      exact hs (i + 1) d acc' st hi hp
    unfold compL
    rw [if_pos (hc _ _ _ h0), e1]
    simp only [e2, ER.bindN_ok]
    cases b with
    | false => exact next _ _ (h2 rfl)
    | true =>
      obtain ⟨x, s2, e3, h4⟩ := h3 rfl
      simp only [if_true, e3, ER.bindN_ok]
      exact next _ _ h4
/-- a comprehension with a test that reads alone -/
theorem comp_fil {α : Type} {q : Sq} {set : D → Sl → Option Sl} {ft : EM Bool} {fe : EM D} {τ : Sl} {st : Store} (hq : q.chk st = true) (g h : α → D) (p : α → Bool) : ∀ (xs : List α) (acc : List D), (∀ a ∈ xs, ∃ τ1, set (g a) τ = some τ1 ∧ ft τ1 st = .ok (p a) st ∧ (p a = true → fe τ1 st = .ok (h a) st)) → compL q set ft fe τ (xs.map g) acc st = .ok (acc ++ (xs.filter p).map h) st
  | [], acc, _ => by
    rw [List.map_nil, List.filter_nil, List.map_nil, List.append_nil]
    unfold compL
    rw [if_pos hq]
  | a :: xs, acc, hs => by
    obtain ⟨τ1, e1, e2, e3⟩ := hs a (List.mem_cons_self ..)
    have ih := fun acc => comp_fil hq g h p xs acc fun b hb => hs b (List.mem_cons_of_mem _ hb)
    rw [List.map_cons, List.filter_cons]
    unfold compL
    rw [if_pos hq, e1]
    simp only [e2, ER.bindN_ok]
    cases hp : p a with
    | false => simp only [Bool.false_eq_true, if_false]; exact ih acc
    | true =>
      simp only [if_true, e3 hp, ER.bindN_ok]
      rw [ih, List.map_cons, List.append_assoc]
      rfl
theorem forL_nil {set : D → Sl → Option Sl} {u : SM} {q : Sq} {τ : Sl} {st : Store} (hq : q.chk st = true) : forL q set u [] τ st = .nx τ st := by
  rw [forL, if_pos hq]
theorem forL_nx {set : D → Sl → Option Sl} {u : SM} {q : Sq} {τ τ1 τ2 : Sl} {st s2 : Store} {d : D} {ds : List D} (hq : q.chk st = true) (h1 : set d τ = some τ1) (h2 : u τ1 st = .nx τ2 s2) : forL q set u (d :: ds) τ st = forL q set u ds τ2 s2 := by
  rw [forL, if_pos hq, h1]
  simp only [h2]
theorem forL_ct {set : D → Sl → Option Sl} {u : SM} {q : Sq} {τ τ1 τ2 : Sl} {st s2 : Store} {d : D} {ds : List D} (hq : q.chk st = true) (h1 : set d τ = some τ1) (h2 : u τ1 st = .ct τ2 s2) : forL q set u (d :: ds) τ st = forL q set u ds τ2 s2 := by
  rw [forL, if_pos hq, h1]
  simp only [h2]
theorem forL_rt {set : D → Sl → Option Sl} {u : SM} {q : Sq} {τ τ1 : Sl} {st s2 : Store} {d x : D} {ds : List D} (hq : q.chk st = true) (h1 : set d τ = some τ1) (h2 : u τ1 st = .rt x s2) : forL q set u (d :: ds) τ st = .rt x s2 := by
  rw [forL, if_pos hq, h1]
  simp only [h2]
theorem forL_bk {set : D → Sl → Option Sl} {u : SM} {q : Sq} {τ τ1 τ2 : Sl} {st s2 : Store} {d : D} {ds : List D} (hq : q.chk st = true) (h1 : set d τ = some τ1) (h2 : u τ1 st = .bk τ2 s2) : forL q set u (d :: ds) τ st = .nx τ2 s2 := by
  rw [forL, if_pos hq, h1]
  simp only [h2]
theorem map_mem {α : Type} {f : α → D} {xs : List α} {i : Nat} {d : D} (h : (xs.map f)[i]? = some d) : ∃ a ∈ xs, d = f a := by
  rw [List.getElem?_map] at h
  cases hx : xs[i]? with
  | none => simp [hx] at h
  | some a => exact ⟨a, List.mem_of_getElem? hx, by simpa [hx] using h.symm⟩
theorem any_eqF {cs : List Int} {k : Int} : ((cs.map D.int).any fun y => eqF y (.int k)) = decide (k ∈ cs) := by
  induction cs with
  | nil => rfl
  | cons c cs ih =>
    rw [List.map_cons, List.any_cons, ih]
    by_cases h : k = c <;> simp [h, eq_comm]
theorem dIn_ints {cs : List Int} {k : Int} {st : Store} : dIn (.int k) (.tup (cs.map D.int)) st = some (decide (k ∈ cs)) := by
  rw [dIn_tup, if_pos, any_eqF]
  rw [List.all_eq_true]
  intro x hx
  obtain ⟨c, _, rfl⟩ := List.mem_map.mp hx
  rfl
end HM

/-! HM, part W: what holds behind a run. -/
namespace HM
open PySem PySem.Spec PyProof.Rows L2
section
variable {α β : Type} {r : ER α} {Q Q' : α → Store → Prop} {st : Store} {τ : Sl}
def W (r : ER α) (Q : α → Store → Prop) : Prop := match r with
  | .ok a s => Q a s
  | _ => False
def WS (r : SR) (N : Sl → Store → Prop) (R : D → Store → Prop) (B C : Sl → Store → Prop) : Prop := match r with
  | .nx τ s => N τ s
  | .rt d s => R d s
  | .bk τ s => B τ s
  | .ct τ s => C τ s
  | _ => False
theorem W.ex (h : W r Q) : ∃ a s, r = .ok a s ∧ Q a s := by
  cases r with
  | ok a s => exact ⟨a, s, rfl, h⟩
  | _ => exact h.elim
theorem W.of {a : α} {s : Store} (h : r = .ok a s) (q : Q a s) : W r Q := by rw [h]; exact q
theorem W.mono (h : W r Q) (i : ∀ a s, Q a s → Q' a s) : W r Q' := by
  cases r with
  | ok a s => exact i a s h
  | _ => exact h.elim
@[simp] theorem W_ok {a : α} {s : Store} : W (.ok a s) Q = Q a s := rfl
@[simp] theorem W_bad : W (.bad : ER α) Q = False := rfl
@[simp] theorem W_bind {k : α → Store → ER β} {Q : β → Store → Prop} : W (r.bind k) Q = W r fun a s => W (k a s) Q := by cases r <;> rfl
theorem W_ite {c : Prop} [Decidable c] {r' : ER α} : W (if c then r else r') Q = if c then W r Q else W r' Q := by split <;> rfl
section
variable {N : Sl → Store → Prop} {R : D → Store → Prop} {B C : Sl → Store → Prop}
@[simp] theorem WS_nx : WS (.nx τ st) N R B C = N τ st := rfl
@[simp] theorem WS_rt {d : D} : WS (.rt d st) N R B C = R d st := rfl
@[simp] theorem WS_bk : WS (.bk τ st) N R B C = B τ st := rfl
@[simp] theorem WS_ct : WS (.ct τ st) N R B C = C τ st := rfl
@[simp] theorem WS_bindE {k : α → Store → SR} : WS (bindE r τ k) N R B C = W r fun a s => WS (k a s) N R B C := by cases r <;> rfl
@[simp] theorem WS_seq {s : SR} {v : SM} : WS (s.seq v) N R B C = WS s (fun τ st => WS (v τ st) N R B C) R B C := by cases s <;> rfl
theorem WS_ite {c : Prop} [Decidable c] {a b : SR} : WS (if c then a else b) N R B C = if c then WS a N R B C else WS b N R B C := by split <;> rfl
@[simp] theorem W_fin {s : SR} {Q : D → Store → Prop} : W s.fin Q = WS s (fun _ st => Q .non st) Q (fun _ _ => False) (fun _ _ => False) := by cases s <;> rfl
theorem WS.mono {s : SR} {N' : Sl → Store → Prop} {R' : D → Store → Prop} {B' C' : Sl → Store → Prop} (h : WS s N R B C) (n : ∀ τ st, N τ st → N' τ st) (r : ∀ d st, R d st → R' d st) (b : ∀ τ st, B τ st → B' τ st) (c : ∀ τ st, C τ st → C' τ st) : WS s N' R' B' C' := by
  cases s with
  | nx τ s => exact n _ _ h
  | rt d s => exact r _ _ h
  | bk τ s => exact b _ _ h
  | ct τ s => exact c _ _ h
  | _ => exact h.elim
/-- a for loop -/
theorem ws_for {q : Sq} {set : D → Sl → Option Sl} {u : SM} (P : Nat → Sl → Store → Prop) (hc : ∀ k τ st, P k τ st → q.chk st = true) :
    ∀ (xs : List D) (k : Nat) (τ : Sl) (st : Store), P k τ st →
    (∀ i d τ st, xs[i]? = some d → P (k + i) τ st → ∃ τ1, set d τ = some τ1 ∧ WS (u τ1 st) (P (k + i + 1)) R N (P (k + i + 1))) →
    (∀ τ st, P (k + xs.length) τ st → N τ st) → WS (forL q set u xs τ st) N R B C
  | [], k, τ, st, h0, _, hN => by
    unfold forL
    rw [if_pos (hc _ _ _ h0)]
    exact hN _ _ h0
  | d :: ds, k, τ, st, h0, hs, hN => by
    obtain ⟨τ1, e1, h1⟩ := hs 0 d τ st rfl h0
    have rest := fun τ st h => ws_for (q := q) (set := set) (u := u) P hc ds (k + 1) τ st h (fun i d τ st hi hp => by
      have := hs (i + 1) d τ st hi (by rwa [show k + (i + 1) = k + 1 + i by omega])
      rwa [show k + (i + 1) + 1 = k + 1 + i + 1 by omega] at this) (fun τ st h => hN τ st (by rw [List.length_cons]; rwa [show k + (ds.length + 1) = k + 1 + ds.length by omega]))
    unfold forL
    rw [if_pos (hc _ _ _ h0), e1]
    simp only
    generalize u τ1 st = r at h1
    cases r with
    | nx τ s => exact rest τ s h1
    | ct τ s => exact rest τ s h1
    | bk τ s => exact h1
    | rt d s => exact h1
    | _ => exact h1.elim
/-- a for loop over given items -/
theorem ws_for0 {q : Sq} {set : D → Sl → Option Sl} {u : SM} {xs : List D} (P : Nat → Sl → Store → Prop) (hc : ∀ k τ st, P k τ st → q.chk st = true) (h0 : P 0 τ st)
    (hs : ∀ i d τ st, xs[i]? = some d → P i τ st → ∃ τ1, set d τ = some τ1 ∧ WS (u τ1 st) (P (i + 1)) R N (P (i + 1)))
    (hN : ∀ τ st, P xs.length τ st → N τ st) : WS (forL q set u xs τ st) N R B C :=
  ws_for P hc xs 0 τ st h0 (fun i d τ st hi hp => by
    rw [Nat.zero_add] at hp ⊢
    exact hs i d τ st hi hp) (fun τ st h => hN τ st (by rwa [Nat.zero_add] at h))
/-- a while loop -/
theorem ws_while {g : EM Bool} {u : SM} (P : Nat → Sl → Store → Prop)
    (hs : ∀ n τ st, P n τ st → W (g τ st) fun b s1 => if b then WS (u τ s1) (fun τ s => ∃ m, m < n ∧ P m τ s) R N (fun τ s => ∃ m, m < n ∧ P m τ s) else N τ s1) :
    ∀ (k n : Nat) (τ : Sl) (st : Store), n < k → P n τ st → WS (whileN g u k τ st) N R B C
  | 0, _, _, _, h, _ => absurd h (Nat.not_lt_zero _)
  | k + 1, n, τ, st, h, hp => by
    unfold whileN
    obtain ⟨b, s1, e, h1⟩ := (hs n τ st hp).ex
    rw [e, bindE_ok]
    cases b with
    | false => exact h1
    | true =>
      rw [if_pos rfl] at h1 ⊢
      generalize u τ s1 = r at h1
      cases r with
      | nx τ s =>
        obtain ⟨m, hm, hp2⟩ := h1
        exact ws_while P hs k m τ s (by omega) hp2
      | ct τ s =>
        obtain ⟨m, hm, hp2⟩ := h1
        exact ws_while P hs k m τ s (by omega) hp2
      | bk τ s => exact h1
      | rt d s => exact h1
      | _ => exact h1.elim
end
/-- a comprehension -/
theorem w_comp {q : Sq} {set : D → Sl → Option Sl} {ft : EM Bool} {fe : EM D} {Q : List D → Store → Prop} (P : Nat → List D → Store → Prop) (hc : ∀ k acc st, P k acc st → q.chk st = true) :
    ∀ (xs : List D) (k : Nat) (acc : List D) (st : Store), P k acc st →
    (∀ (i : Nat) (d : D) (acc' : List D) (st : Store), xs[i]? = some d → P (k + i) acc' st → ∃ τ1, set d τ = some τ1 ∧ W (ft τ1 st) fun b s1 => if b then W (fe τ1 s1) fun x s2 => P (k + i + 1) (acc' ++ [x]) s2 else P (k + i + 1) acc' s1) →
    (∀ acc st, P (k + xs.length) acc st → Q acc st) → W (compL q set ft fe τ xs acc st) Q
  | [], k, acc, st, h0, _, hQ => by
    unfold compL
    rw [if_pos (hc _ _ _ h0)]
    exact hQ _ _ h0
  | d :: ds, k, acc, st, h0, hs, hQ => by
    obtain ⟨τ1, e1, h1⟩ := hs 0 d acc st rfl h0
    obtain ⟨b, s1, e2, h2⟩ := h1.ex
    have rest := fun acc st h => w_comp (q := q) (set := set) (ft := ft) (fe := fe) P hc ds (k + 1) acc st h (fun i d acc' st hi hp => by
      have := hs (i + 1) d acc' st hi (by rwa [show k + (i + 1) = k + 1 + i by omega])
      rwa [show k + (i + 1) + 1 = k + 1 + i + 1 by omega] at this) (fun acc st h => hQ acc st (by rw [List.length_cons]; rwa [show k + (ds.length + 1) = k + 1 + ds.length by omega]))
    unfold compL
    rw [if_pos (hc _ _ _ h0), e1]
    simp only [e2, ER.bindN_ok]
    cases b with
    | false => exact rest _ _ h2
    | true =>
      rw [if_pos rfl] at h2
      obtain ⟨x, s2, e3, h3⟩ := h2.ex
      simp only [if_true, e3, ER.bindN_ok]
      exact rest _ _ h3
theorem w_comp0 {q : Sq} {set : D → Sl → Option Sl} {ft : EM Bool} {fe : EM D} {Q : List D → Store → Prop} {xs : List D} (P : Nat → List D → Store → Prop) (hc : ∀ k acc st, P k acc st → q.chk st = true) (h0 : P 0 [] st)
    (hs : ∀ (i : Nat) (d : D) (acc : List D) (st : Store), xs[i]? = some d → P i acc st → ∃ τ1, set d τ = some τ1 ∧ W (ft τ1 st) fun b s1 => if b then W (fe τ1 s1) fun x s2 => P (i + 1) (acc ++ [x]) s2 else P (i + 1) acc s1)
    (hQ : ∀ acc st, P xs.length acc st → Q acc st) : W (compL q set ft fe τ xs [] st) Q :=
  w_comp P hc xs 0 [] st h0 (fun i d acc st hi hp => by
    rw [Nat.zero_add] at hp ⊢
    exact hs i d acc st hi hp) (fun acc st h => hQ acc st (by rwa [Nat.zero_add] at h))
theorem w_lc {own : List Nat} {set : D → Sl → Option Sl} {ft : EM Bool} {fe : EM D} {q : Sq} {Q : List D → Store → Prop} (hl : q.items.length ≤ 16777216) (h : W (compL q set ft fe (wipeD τ own) q.items [] st) Q) : W (lc1 own set ft fe τ q st) Q := by
  unfold lc1
  rw [if_pos hl]
  exact h
/-- a comprehension that reads alone -/
theorem w_map {α : Type} {q : Sq} {set : D → Sl → Option Sl} {fe : EM D} {Q : List D → Store → Prop} {ds : List D} (g h : α → D) (xs : List α) (hd : ds = xs.map g) (hq : q.chk st = true) (hs : ∀ a ∈ xs, ∃ τ1, set (g a) τ = some τ1 ∧ W (fe τ1 st) fun d s => d = h a ∧ s = st) (hQ : Q (xs.map h) st) :
    W (compL q set tYes fe τ ds [] st) Q := by
  subst hd
  have e := comp_map (set := set) (fe := fe) (τ := τ) hq g h xs [] (fun a ha => by
    obtain ⟨τ1, e1, hw⟩ := hs a ha
    obtain ⟨d, s, e2, e3, e4⟩ := hw.ex
    rw [e3, e4] at e2
    exact ⟨τ1, e1, e2⟩)
  rw [e]
  exact hQ
/-- a comprehension with a test that reads alone -/
theorem w_fil {α : Type} {q : Sq} {set : D → Sl → Option Sl} {ft : EM Bool} {fe : EM D} {Q : List D → Store → Prop} {ds : List D} (g h : α → D) (p : α → Bool) (xs : List α) (hd : ds = xs.map g) (hq : q.chk st = true)
    (hs : ∀ a ∈ xs, ∃ τ1, set (g a) τ = some τ1 ∧ W (ft τ1 st) fun b s => b = p a ∧ s = st ∧ (b = true → W (fe τ1 st) fun d s => d = h a ∧ s = st)) (hQ : Q ((xs.filter p).map h) st) :
    W (compL q set ft fe τ ds [] st) Q := by
  subst hd
  have e := comp_fil (set := set) (ft := ft) (fe := fe) (τ := τ) hq g h p xs [] (fun a ha => by
    obtain ⟨τ1, e1, hw⟩ := hs a ha
    obtain ⟨b, s, e2, e3, e4, h3⟩ := hw.ex
    rw [e3, e4] at e2
    refine ⟨τ1, e1, e2, fun hb => ?_⟩
    obtain ⟨d, s, e5, e6, e7⟩ := (h3 (e3.trans hb)).ex
    rw [e6, e7] at e5
    exact e5)
  rw [e]
  exact hQ
/-- a loop that folds, the store as it is -/
theorem ws_fold {α β : Type} {q : Sq} {set : D → Sl → Option Sl} {u : SM} {ds : List D} {N : Sl → Store → Prop} {R : D → Store → Prop} {B C : Sl → Store → Prop} (g : α → D) (F : β → α → β) (E : β → Option D → Sl) (xs : List α) (b0 : β) (t0 : Option D) (hd : ds = xs.map g) (hτ : τ = E b0 t0) (hq : q.chk st = true)
    (hs : ∀ b t a, a ∈ xs → ∃ τ1, set (g a) (E b t) = some τ1 ∧ WS (u τ1 st) (fun τ s => (∃ t, τ = E (F b a) t) ∧ s = st) R (fun _ _ => False) (fun τ s => (∃ t, τ = E (F b a) t) ∧ s = st))
    (hN : ∀ t, N (E (xs.foldl F b0) t) st) : WS (forL q set u ds τ st) N R B C := by
  subst hd hτ
  induction xs generalizing b0 t0 with
  | nil =>
    rw [List.map_nil, forL, if_pos hq]
    exact hN t0
  | cons a xs ih =>
    obtain ⟨τ1, e1, h1⟩ := hs b0 t0 a (List.mem_cons_self ..)
    rw [List.map_cons, forL, if_pos hq, e1]
    simp only
    have go : ∀ τ s, ((∃ t, τ = E (F b0 a) t) ∧ s = st) → WS (forL q set u (xs.map g) τ s) N R B C := fun τ s h => by
      obtain ⟨⟨t, rfl⟩, rfl⟩ := h
      exact ih (F b0 a) t (fun b t a' ha => hs b t a' (List.mem_cons_of_mem _ ha)) hN
    generalize u τ1 st = r at h1
    cases r with
    | nx τ s => exact go τ s h1
    | ct τ s => exact go τ s h1
    | rt d s => exact h1
    | _ => exact h1.elim
end
theorem rng_at {n i : Nat} {d : D} (h : (rng 0 (n : Nat))[i]? = some d) : i < n ∧ d = .int (i : Nat) := by
  have hin : i < n := by
    have := (List.getElem?_eq_some_iff.mp h).1
    rwa [rng_len] at this
  rw [rng_eq, List.getElem?_map, List.getElem?_range hin] at h
  exact ⟨hin, (Option.some.inj h).symm⟩
section
variable {q : Sq} {set : D → Sl → Option Sl} {u : SM} {τ : Sl} {st : Store} {N : Sl → Store → Prop} {R : D → Store → Prop} {B C : Sl → Store → Prop} {ft : EM Bool} {fe : EM D} {Q : List D → Store → Prop}
/-- over range(n) -/
theorem ws_rng {n : Nat} (P : Nat → Sl → Store → Prop) (hc : ∀ k τ st, P k τ st → q.chk st = true) (h0 : P 0 τ st)
    (hs : ∀ i τ st, i < n → P i τ st → ∃ τ1, set (.int (i : Nat)) τ = some τ1 ∧ WS (u τ1 st) (P (i + 1)) R N (P (i + 1)))
    (hN : ∀ τ st, P n τ st → N τ st) : WS (forL q set u (rng 0 (n : Nat)) τ st) N R B C :=
  ws_for0 P hc h0 (fun i d τ st hi hp => by
    obtain ⟨hin, rfl⟩ := rng_at hi
    exact hs i τ st hin hp) (fun τ st h => hN τ st (by rwa [rng_len] at h))
theorem w_rng {n : Nat} (P : Nat → List D → Store → Prop) (hc : ∀ k acc st, P k acc st → q.chk st = true) (h0 : P 0 [] st)
    (hs : ∀ (i : Nat) (acc : List D) (st : Store), i < n → P i acc st → ∃ τ1, set (.int (i : Nat)) τ = some τ1 ∧ W (ft τ1 st) fun b s1 => if b then W (fe τ1 s1) fun x s2 => P (i + 1) (acc ++ [x]) s2 else P (i + 1) acc s1)
    (hQ : ∀ acc st, P n acc st → Q acc st) : W (compL q set ft fe τ (rng 0 (n : Nat)) [] st) Q :=
  w_comp0 P hc h0 (fun i d acc st hi hp => by
    obtain ⟨hin, rfl⟩ := rng_at hi
    exact hs i acc st hin hp) (fun acc st h => hQ acc st (by rwa [rng_len] at h))
/-- over things that are told by others -/
theorem ws_map {α : Type} {ds : List D} (g : α → D) (xs : List α) (hd : ds = xs.map g) (P : Nat → Sl → Store → Prop) (hc : ∀ k τ st, P k τ st → q.chk st = true) (h0 : P 0 τ st)
    (hs : ∀ i a τ st, xs[i]? = some a → P i τ st → ∃ τ1, set (g a) τ = some τ1 ∧ WS (u τ1 st) (P (i + 1)) R N (P (i + 1)))
    (hN : ∀ τ st, P xs.length τ st → N τ st) : WS (forL q set u ds τ st) N R B C :=
  ws_for0 P hc h0 (fun i d τ st hi hp => by
    rw [hd, List.getElem?_map] at hi
    cases hx : xs[i]? with
    | none => rw [hx] at hi; cases hi
    | some a =>
      rw [hx] at hi
      cases hi
      exact hs i a τ st hx hp) (fun τ st h => hN τ st (by rwa [hd, List.length_map] at h))
theorem w_mapc {α : Type} {ds : List D} (g : α → D) (xs : List α) (hd : ds = xs.map g) (P : Nat → List D → Store → Prop) (hc : ∀ k acc st, P k acc st → q.chk st = true) (h0 : P 0 [] st)
    (hs : ∀ (i : Nat) (a : α) (acc : List D) (st : Store), xs[i]? = some a → P i acc st → ∃ τ1, set (g a) τ = some τ1 ∧ W (ft τ1 st) fun b s1 => if b then W (fe τ1 s1) fun x s2 => P (i + 1) (acc ++ [x]) s2 else P (i + 1) acc s1)
    (hQ : ∀ acc st, P xs.length acc st → Q acc st) : W (compL q set ft fe τ ds [] st) Q :=
  w_comp0 P hc h0 (fun i d acc st hi hp => by
    rw [hd, List.getElem?_map] at hi
    cases hx : xs[i]? with
    | none => rw [hx] at hi; cases hi
    | some a =>
      rw [hx] at hi
      cases hi
      exact hs i a acc st hx hp) (fun acc st h => hQ acc st (by rwa [hd, List.length_map] at h))
end
section
variable {q : Sq} {set : D → Sl → Option Sl} {u : SM} {τ : Sl} {st : Store} {N : Sl → Store → Prop} {R : D → Store → Prop} {B C : Sl → Store → Prop}
/-- a loop that returns False at the first that fails -/
theorem ws_all {α : Type} (g : α → D) (p : α → Bool) (I : Sl → Prop) (J : Store → Prop) (hc : ∀ st, J st → q.chk st = true) : ∀ (xs : List α) (ds : List D) (τ : Sl) (st : Store), ds = xs.map g → I τ → J st →
    (∀ a ∈ xs, ∀ τ st, I τ → J st → ∃ τ1, set (g a) τ = some τ1 ∧ WS (u τ1 st) (fun τ s => p a = true ∧ I τ ∧ J s) (fun d s => p a = false ∧ d = .bl false ∧ J s) (fun _ _ => False) (fun τ s => p a = true ∧ I τ ∧ J s)) →
    (∀ τ s, xs.all p = true → I τ → J s → N τ s) → (∀ s, xs.all p = false → J s → R (.bl false) s) → WS (forL q set u ds τ st) N R B C
  | [], ds, τ, st, hd, h0, j0, _, kN, _ => by
    subst hd
    rw [List.map_nil, forL, if_pos (hc st j0)]
    exact kN τ st rfl h0 j0
  | a :: xs, ds, τ, st, hd, h0, j0, hs, kN, kR => by
    subst hd
    obtain ⟨τ1, e1, h1⟩ := hs a (List.mem_cons_self ..) τ st h0 j0
    rw [List.map_cons, forL, if_pos (hc st j0), e1]
    simp only
    have go : ∀ τ s, (p a = true ∧ I τ ∧ J s) → WS (forL q set u (xs.map g) τ s) N R B C := fun τ s ⟨hp, h2, h3⟩ =>
      ws_all g p I J hc xs _ τ s rfl h2 h3 (fun b hb => hs b (List.mem_cons_of_mem _ hb)) (fun τ s h => kN τ s (by rw [List.all_cons, hp, h]; rfl)) (fun s h => kR s (by rw [List.all_cons, hp, h]; rfl))
    generalize u τ1 st = r at h1
    cases r with
    | nx τ s => exact go τ s h1
    | ct τ s => exact go τ s h1
    | rt d s =>
      obtain ⟨hp, rfl, h3⟩ := h1
      exact kR s (by rw [List.all_cons, hp]; rfl) h3
    | _ => exact h1.elim
theorem ws_allR {n : Nat} (p : Nat → Bool) (I : Sl → Prop) (J : Store → Prop) (hc : ∀ st, J st → q.chk st = true) (h0 : I τ) (j0 : J st)
    (hs : ∀ a, a < n → ∀ τ st, I τ → J st → ∃ τ1, set (.int (a : Nat)) τ = some τ1 ∧ WS (u τ1 st) (fun τ s => p a = true ∧ I τ ∧ J s) (fun d s => p a = false ∧ d = .bl false ∧ J s) (fun _ _ => False) (fun τ s => p a = true ∧ I τ ∧ J s))
    (kN : ∀ τ s, (List.range n).all p = true → I τ → J s → N τ s) (kR : ∀ s, (List.range n).all p = false → J s → R (.bl false) s) : WS (forL q set u (rng 0 (n : Nat)) τ st) N R B C :=
  ws_all (fun k : Nat => D.int k) p I J hc (List.range n) _ τ st (rng_eq n) h0 j0 (fun a ha => hs a (List.mem_range.mp ha)) kN kR
theorem WS.cut {r : SR} {N' : Sl → Store → Prop} (h : WS r N' R B C) (k : ∀ τ s, N' τ s → N τ s) : WS r N R B C := h.mono k (fun _ _ h => h) (fun _ _ h => h) (fun _ _ h => h)
end
/-! dicts -/
theorem dGet_put {kvs : List (D × D)} {k k' v : D} : dGet (dPut kvs k v) k' = if k' = k then some v else dGet kvs k' := by
  have h1 : ∀ kvs : List (D × D), dGet (kvs.map fun p => if p.1 = k then (p.1, v) else p) k' = (dGet kvs k').map fun x => if k' = k then v else x := fun kvs => by
    unfold dGet
    induction kvs with
    | nil => rfl
    | cons p kvs ih =>
      rw [List.map_cons]
      by_cases e : p.1 = k'
      · rw [List.find?_cons_of_pos (by split <;> simpa using e), List.find?_cons_of_pos (by simpa using e)]
        by_cases e2 : p.1 = k
        · have : k' = k := by rw [← e, e2]
          simp [e2, this]
        · have : ¬ k' = k := by rw [← e]; exact e2
          simp [e2, this]
      · rw [List.find?_cons_of_neg (by split <;> simpa using e), List.find?_cons_of_neg (by simpa using e)]
        exact ih
  unfold dPut
  split
  · rename_i h
    rw [h1]
    by_cases e : k' = k
    · obtain ⟨x, hx⟩ := Option.isSome_iff_exists.mp h
      subst e
      simp [hx]
    · rw [if_neg e]
      cases dGet kvs k' <;> simp [e]
  · rename_i h
    unfold dGet at h ⊢
    rw [List.find?_append]
    by_cases e : k' = k
    · subst e
      have : kvs.find? (fun p => decide (p.1 = k')) = none := by
        cases hz : kvs.find? (fun p => decide (p.1 = k')) with
        | none => rfl
        | some x => rw [hz] at h; exact absurd rfl h
      simp [this]
    · rw [if_neg e]
      cases hz : kvs.find? (fun p => decide (p.1 = k')) with
      | some x => simp
      | none => simp [Ne.symm e]
theorem dPut_keys {kvs : List (D × D)} {k v : D} {p : D → Bool} (h : (kvs.all fun q => p q.1) = true) (hk : p k = true) : ((dPut kvs k v).all fun q => p q.1) = true := by
  unfold dPut
  rw [List.all_eq_true] at h
  split
  · rw [List.all_eq_true]
    intro x hx
    obtain ⟨y, hy, rfl⟩ := List.mem_map.mp hx
    have := h y hy
    split <;> exact this
  · rw [List.all_append, List.all_eq_true.mpr h]
    simpa using hk
theorem dPut_len {kvs : List (D × D)} {k v : D} : (dPut kvs k v).length ≤ kvs.length + 1 := by
  unfold dPut
  split <;> simp
theorem keyFit_tup {kvs : List (D × D)} {k : D} (h : (kvs.all fun q => q.1.tupQ) = true) (hk : k.tupQ = true) : keyFit kvs k = true := by simp [keyFit, h, hk]
theorem keyFit_flat {kvs : List (D × D)} {k : D} (h : (kvs.all fun q => q.1.flatK) = true) (hk : k.flatK = true) : keyFit kvs k = true := by simp [keyFit, h, hk]
theorem dctAt_new {a : Store} {kvs : List (D × D)} : dctAt (a ++ [.dct kvs]) a.length = some kvs := by simp [dctAt]
theorem dctAt_lt {st : Store} {n : Nat} {kvs : List (D × D)} (h : dctAt st n = some kvs) : n < st.length := by
  unfold dctAt at h
  split at h
  · rename_i e
    exact (List.getElem?_eq_some_iff.mp e).1
  · cases h
theorem dctAt_set {st : Store} {n : Nat} {kvs kvs' : List (D × D)} (h : dctAt st n = some kvs) : dctAt (st.set n (.dct kvs')) n = some kvs' := by
  have := dctAt_lt h
  simp [dctAt, this]
theorem dctAt_ne {st : Store} {n m : Nat} {c : Cell} (h : m ≠ n) : dctAt (st.set n c) m = dctAt st m := by
  unfold dctAt
  rw [List.getElem?_set_ne (Ne.symm h)]
theorem Gr.dct {a b : Store} {n : Nat} {kvs : List (D × D)} (x : Gr a b) (h : dctAt a n = some kvs) : dctAt b n = some kvs := by
  obtain ⟨l, rfl⟩ := x.ex
  unfold dctAt at h ⊢
  rw [List.getElem?_append_left (dctAt_lt (kvs := kvs) (by unfold dctAt; exact h))]
  exact h
theorem Fr.dct {a b : Store} {n : Nat} {kvs : List (D × D)} (x : Fr a b) (h : dctAt a n = some kvs) (hn : n ≠ 1) : dctAt b n = some kvs := by
  have := x.at' n hn (dctAt_lt h)
  unfold dctAt at h ⊢
  rwa [this]
section
variable {g : EM Bool} {u v w : SM} {τ : Sl} {st s1 : Store} {N : Sl → Store → Prop} {R : D → Store → Prop} {B C : Sl → Store → Prop}
theorem ws_skip (h : g τ st = .ok false st) (k : WS (w τ st) N R B C) : WS (sSeq (sIf g u sNil) w τ st) N R B C := by
  rw [sSeq_e, WS_seq, sIf_e, h]
  simpa using k
theorem ws_take (h : g τ st = .ok true st) (k : WS (u τ st) (fun τ s => WS (w τ s) N R B C) R B C) : WS (sSeq (sIf g u v) w τ st) N R B C := by
  rw [sSeq_e, WS_seq, sIf_e, h]
  simpa using k
theorem ws_else (h : g τ st = .ok false st) (k : WS (v τ st) (fun τ s => WS (w τ s) N R B C) R B C) : WS (sSeq (sIf g u v) w τ st) N R B C := by
  rw [sSeq_e, WS_seq, sIf_e, h]
  simpa using k
/-- one statement, then the rest -/
theorem ws_cons {N' : Sl → Store → Prop} (h : WS (u τ st) N' R B C) (k : ∀ τ s, N' τ s → WS (w τ s) N R B C) : WS (sSeq u w τ st) N R B C := by
  rw [sSeq_e, WS_seq]
  exact h.cut k
end
end HM

/-! HM, part X: texts split. -/
namespace HM
open PySem PySem.Spec PyProof.Rows L2
section
variable {X : Cx}
theorem strs_rds {K : KW} {m : List Addr} {H : Hp} : ∀ ys : List Str, RDs K m H (ys.map fun y => D.str y.cps.toList) (ys.map V.str)
  | [] => .nil
  | y :: ys => .cons (.str y.cps.toList) (strs_rds ys)
def mSplit : MM := fun d ds st => match d, ds with
  | .str a, [.str b] => if b ≠ [] ∧ a.length + 2 ≤ 16777216 then .ok (.ref st.length) (st ++ [.lst ((Txt.split ⟨a.toArray⟩ ⟨b.toArray⟩).map fun y => D.str y.cps.toList)]) else .bad
  | _, _ => .bad
theorem me_split : MethM X "str.split" mSplit := ⟨_, mt_split, fun m st H d v ds vs E Q hS r rs hP => by
  unfold mSplit at hP
  split at hP
  · rename_i a b
    split at hP
    · rename_i hc
      cases r
      obtain ⟨u, rfl, ru⟩ := rs.one
      cases ru
      refine ⟨_, _, rfl, rfl, ?_, ?_, hP.lst hS (strs_rds _)⟩
      · cases b with
        | nil => exact absurd rfl hc.1
        | cons x b => rfl
      · rw [PySem.sizeLine_eq]
        exact hc.2
    · exact hP.elim
  · exact hP.elim⟩
end
/-! ### dict(pairs) -/
section
variable {X : Cx} {pins : List (Addr × Obj)} {σ : L2.St} {H : Hp} {s : Shared} {a : Addr} {xs : List V}
theorem plain_seq (I : Inv X pins σ H s) (h : PlT X.K H a xs) : ∃ its : List Value, Vals xs its ∧ PlainSeq "tuple" s.heap a its.toArray ∧ xs.length ≤ sizeLine := by
  obtain ⟨its, r, pl, hz⟩ := I.tuple h.sq
  obtain ⟨ob, ho, hc, n, hd⟩ := pl
  rcases h with ⟨o, hn, h⟩ | ⟨o, its', n', hk, hc', hn, hs, hz', r'⟩
  · have z : s.heap.get? a = some o := (I.hok a _ h).1
    rw [z] at ho
    cases ho
    exact ⟨its, r, ⟨ob, n, z, hc, hn, hd⟩, hz⟩
  · have z := I.kIn a o hk
    rw [z] at ho
    cases ho
    exact ⟨its, r, ⟨ob, n, z, hc, hn, hd⟩, hz⟩
theorem pairs2 (I : Inv X pins σ H s) : ∀ {ps : List Addr} {kvs : List (Key × V)}, Paired (fun p kv => SqT X.K H p [kV kv.1, kv.2]) ps kvs →
    ∃ (prs : List (Key × Value)) (qs : List (Value × Value)), KV kvs prs ∧ prs.length = ps.length ∧ qs.length = ps.length ∧ ∀ (j : Nat) (q : Value × Value), qs[j]? = some q → ∃ (b : Addr) (k : Key), ps[j]? = some b ∧ prs[j]? = some (k, q.2) ∧ IsTup s.heap b #[q.1, q.2] ∧ (mixKind X.prog X.w).is k q.1 = true
  | _, _, .nil => ⟨[], [], .nil, rfl, rfl, fun j q e => by simp at e⟩
  | _, _, .cons (a := p) (b := kv) h t => by
    obtain ⟨prs, qs, r, hl, hl2, hp⟩ := pairs2 I t
    obtain ⟨its, rv, ht, _⟩ := I.tuple h
    obtain ⟨u, y, ei, ru, ry⟩ := vals2 rv
    subst ei
    refine ⟨(kv.1, y) :: prs, (u, y) :: qs, .cons ⟨rfl, ry⟩ r, by rw [List.length_cons, List.length_cons, hl], by rw [List.length_cons, List.length_cons, hl2], fun j q e => ?_⟩
    cases j with
    | zero =>
      have e' : (u, y) = q := Option.some.inj e
      subst e'
      exact ⟨p, kv.1, rfl, rfl, ht, kV_is ru⟩
    | succ j =>
      obtain ⟨b, k', e1, e2, e3⟩ := hp j q (by simpa using e)
      exact ⟨b, k', by simpa using e1, by simpa using e2, e3⟩
theorem call_dictT (hcalm : X.calm = true) : CallR X (.type "dict") (fun xs H Q => ∃ (a : Addr) (ps : List Addr) (kvs : List (Key × V)), xs = [.ref a] ∧ PlT X.K H a (ps.map V.ref) ∧ Paired (fun p kv => SqT X.K H p [kV kv.1, kv.2]) ps kvs ∧
    ∀ p, H p = none → Q (.ref p) (upd H p (.dK (mergeK [] kvs)))) := by
  intro pins s σ H xs us Q I r q
  obtain ⟨a, ps, kvs, rfl, hq, hp, q⟩ := q
  obtain ⟨u, rfl, rx⟩ := vals1 r
  cases rx
  obtain ⟨its, rv, pl, hz⟩ := plain_seq I hq
  have ei := refs_at rv
  subst ei
  rw [List.length_map] at hz
  obtain ⟨prs, qs, rel, hl, hl2, hpr⟩ := pairs2 I hp
  have P := PairArg.tuple (prog := X.prog) (w := X.w) a (ps.map Value.ref).toArray (fun j => ps.getD j 0) qs
  refine PySem.call_dict_pairs (knd := mixKind X.prog X.w) (kvs := prs) P (I.ok.hd hcalm) ⟨pl, by simp [hl2], fun j k v e => ?_⟩ ⟨by rw [hl, hl2], fun j k v e => ?_⟩ (by rw [hl2]; exact hz) fun h' tk hd' k => ?_
  · obtain ⟨b, k', e1, e2, e3, e4⟩ := hpr j _ e
    obtain ⟨o, ho, hc, n, hd⟩ := e3
    exact ⟨by simp [e1], .inl (by simp only [List.getD_eq_getElem?_getD, e1]; exact ⟨o, ho, hc, n, hd⟩)⟩
  · obtain ⟨b, k', e1, e2, e3, e4⟩ := hpr j _ e
    exact ⟨k', e2, e4⟩
  · have hm : (s.heap.objs.size == sysModules) = false := beq_eq_false_iff_ne.mpr (Nat.ne_of_gt I.big)
    have hlen : (mergeK [] kvs).length ≤ sizeLine := by
      refine Nat.le_trans (length_mergeK kvs []) ?_
      rw [List.length_nil, Nat.zero_add, rel.length, hl]
      exact hz
    exact ⟨.ref s.heap.objs.size, upd H s.heap.objs.size (.dK (mergeK [] kvs)), I.laid (t' := tk) (fun b o e => k b o (fun z => nomatch z) e) (Nat.le_refl _) (show ObjOk X.prog X.w _ _ _ (.dK (mergeK [] kvs)) from ⟨hlen, hm, merged [] prs, KV.merge rel .nil, hd'⟩), rfl, q _ (I.hok.fresh (Nat.le_refl _))⟩
end
section
variable {K : PySem.W.Frag} {m : List Addr} {H : Hp}
theorem DRel1.put {kvs : List (D × D)} {us : List (Key × V)} (q : DRel1 K m H kvs us) {d : D} {v : V} (rv : RD K m H d v) (w : Key) : DRel1 K m H (dPut kvs (keyD w) d) (putK us w v) := by
  unfold dPut putK
  have ea : (dGet kvs (keyD w)).isSome = (us.any fun kv => decide (kv.1 = w)) := by
    have z := get1 q w
    rw [valV_any]
    cases h1 : dGet kvs (keyD w) <;> cases h2 : valV us w <;> rw [h1, h2] at z <;> first | rfl | exact z.elim
  rw [ea]
  split
  · have go : ∀ {kvs us}, DRel1 K m H kvs us → DRel1 K m H (kvs.map fun p => if p.1 = keyD w then (p.1, d) else p) (us.map fun kv => if kv.1 = w then (kv.1, v) else kv) := fun {kvs us} r => by
      induction r with
      | nil => exact .nil
      | @cons p u ps us h t ih =>
        refine .cons ?_ ih
        simp only []
        by_cases e : u.1 = w
        · rw [if_pos e, if_pos (by rw [h.1, e])]
          exact ⟨h.1, rv⟩
        · rw [if_neg e, if_neg (by rw [h.1]; exact fun z => e (keyD_inj z))]
          exact h
    exact go q
  · exact Paired.snoc q ⟨rfl, rv⟩
def mergeD (acc ps : List (D × D)) : List (D × D) := ps.foldl (fun acc p => dPut acc p.1 p.2) acc
theorem DRel1.merge {ps : List (D × D)} {kvs : List (Key × V)} (r : DRel1 K m H ps kvs) : ∀ {acc : List (D × D)} {us : List (Key × V)}, DRel1 K m H acc us → DRel1 K m H (mergeD acc ps) (mergeK us kvs) := by
  induction r with
  | nil => exact fun q => q
  | @cons p q ps kvs h t ih =>
    intro acc us z
    have e := ih (z.put h.2 q.1)
    rw [← h.1] at e
    exact e
/-- a pair whose first is a number or a text -/
def pairD (d : D) : Option (D × D) := match d with
  | .tup [k, v] => if k.flatK then some (k, v) else none
  | _ => none
def pairsD : List D → Option (List (D × D))
  | [] => some []
  | d :: ds => match pairD d, pairsD ds with
    | some p, some ps => some (p :: ps)
    | _, _ => none
theorem pairsD_read : ∀ {ds : List D} {vs : List V} {ps : List (D × D)}, RDs K m H ds vs → pairsD ds = some ps → ∃ (as : List Addr) (kvs : List (Key × V)), vs = as.map V.ref ∧ Paired (fun p kv => SqT K H p [kV kv.1, kv.2]) as kvs ∧ DRel1 K m H ps kvs
  | _, _, _, .nil, e => by
    cases e
    exact ⟨[], [], rfl, .nil, .nil⟩
  | _, _, _, .cons (d := d) r rs, e => by
    unfold pairsD at e
    split at e
    · rename_i p ps hp hps
      cases e
      obtain ⟨as, kvs, rfl, q1, q2⟩ := pairsD_read rs hps
      unfold pairD at hp
      split at hp
      · rename_i k v
        split at hp
        · rename_i hf
          cases hp
          cases r with
          | tup sq r2 =>
            cases r2 with
            | cons rk r3 =>
              cases r3 with
              | cons rv r4 =>
                cases r4
                obtain ⟨w, e1, e2⟩ := flatK_of hf rk
                subst e2
                exact ⟨_ :: as, (w, _) :: kvs, rfl, .cons sq.sq q1, .cons ⟨e1, rv⟩ q2⟩
        · cases hp
      · cases hp
    · cases e
end
section
variable {X : Cx}
def gDict : SM1 := fun ds st => match pairsD ds with
  | some ps => .ok (.ref st.length) (st ++ [.dct (mergeD [] ps)])
  | none => .bad
theorem s_dict (hc : X.calm = true) : CallS X (.type "dict") gDict := ⟨_, (call_dictP hc).or (call_dictT hc), fun m st H ds v E Q hS r hP => by
  obtain ⟨a, vs, rfl, q, rs⟩ := r
  unfold gDict at hP
  split at hP
  · rename_i ps hps
    obtain ⟨as, kvs, rfl, q1, q2⟩ := pairsD_read rs hps
    have fin : ∀ p, H p = none → Q (.ref p) (upd H p (.dK (mergeK [] kvs))) := fun p hp => by
      refine hP (m ++ [p]) _ _ (Ext.app hp) (hS.app hp (.inl ⟨_, upd_same, DRel1.kp (DRel1.merge q2 .nil) (Ext.app hp).toKp⟩)) (.ref ?_)
      rw [← hS.len]
      simp
    rcases q with q | q
    · exact .inl ⟨a, as, kvs, rfl, q, q1, fin⟩
    · exact .inr ⟨a, as, kvs, rfl, q, q1, fin⟩
  · exact hP.elim⟩
end
theorem bt_dict : bootBuiltins "dict" = some (.type "dict") := by decide +kernel
end HM

/-! HM, part Y: more of what holds behind a run. -/
namespace HM
open PySem PySem.Spec PyProof.Rows L2
/-- what is to hold is kept from the simplifier -/
theorem W.opq {α : Type} {r : ER α} {Q : α → Store → Prop} (h : ∀ Q' : α → Store → Prop, (∀ a s, Q a s → Q' a s) → W r Q') : W r Q := h Q fun _ _ h => h
section
variable {g : EM Bool} {u v w : SM} {τ : Sl} {st s1 : Store} {N : Sl → Store → Prop} {R : D → Store → Prop} {B C : Sl → Store → Prop}
/-- an if whose test changes the store -/
theorem ws_ifd (P : Bool → Store → Prop) (h : W (g τ st) P) (k1 : ∀ s, P true s → WS (u τ s) N R B C) (k2 : ∀ s, P false s → WS (v τ s) N R B C) : WS (sIf g u v τ st) N R B C := by
  rw [sIf_e, WS_bindE]
  refine h.mono fun b s hp => ?_
  cases b with
  | true => exact k1 s hp
  | false => exact k2 s hp
/-- a test that must be passed: if not g: return False -/
theorem ws_must {f : EM D} (P : Store → Prop) (h : W (f τ st) fun d s => d = .bl true ∧ P s) (k : ∀ s, P s → N τ s) : WS (sIf (HM.tNot (tVal f)) u sNil τ st) N R B C := by
  rw [sIf_e, WS_bindE, tNot_e, tVal_e]
  rw [W_bind, W_bind]
  refine h.mono fun d s hp => ?_
  obtain ⟨rfl, hp⟩ := hp
  simpa using k s hp
theorem ws_forD {fi : EM Sq} {set : D → Sl → Option Sl} (P : Sq → Store → Prop) (h : W (fi τ st) P) (k : ∀ q s, P q s → WS (forL q set u q.items τ s) N R B C) : WS (sFor fi set u τ st) N R B C := by
  rw [sFor_e, WS_bindE]
  exact h.mono k
theorem ws_set {i : Nat} {f : EM D} (h : W (f τ st) fun d s => N (τ.set i (some d)) s) : WS (sSet i f τ st) N R B C := by
  rw [sSet_e, WS_bindE]
  exact h
theorem ws_ret {f : EM D} (h : W (f τ st) R) : WS (sRet f τ st) N R B C := by
  rw [sRet_e, WS_bindE]
  exact h
theorem ws_expr {f : EM D} (h : W (f τ st) fun _ s => N τ s) : WS (sExpr f τ st) N R B C := by
  rw [sExpr_e, WS_bindE]
  exact h
/-- a name bound to a comprehension's list -/
theorem ws_setLc {i : Nat} {own : List Nat} {fi : EM Sq} {set : D → Sl → Option Sl} {ft : EM Bool} {fe : EM D} (P : Sq → Store → Prop) (h : W (fi τ st) P) (hl : ∀ q s, P q s → q.items.length ≤ 16777216)
    (k : ∀ q s, P q s → W (compL q set ft fe (wipeD τ own) q.items [] s) fun ys s1 => N (τ.set i (some (.ref s1.length))) (s1 ++ [.lst ys])) : WS (sSet i (eEl (lComp own fi set ft fe)) τ st) N R B C := by
  refine ws_set ?_
  rw [eEl_e, W_bind, lComp_e, W_bind]
  refine h.mono fun q s hp => w_lc (hl q s hp) ?_
  exact k q s hp
end
section
variable {q : Sq} {set : D → Sl → Option Sl} {u : SM} {N : Sl → Store → Prop} {R : D → Store → Prop} {B C : Sl → Store → Prop}
/-- a loop that returns the first that fits -/
theorem ws_find {α : Type} (g : α → D) (p : α → Bool) (I : Sl → Prop) (J : Store → Prop) (hc : ∀ st, J st → q.chk st = true) : ∀ (xs : List α) (ds : List D) (τ : Sl) (st : Store), ds = xs.map g → I τ → J st →
    (∀ a ∈ xs, ∀ τ st, I τ → J st → ∃ τ1, set (g a) τ = some τ1 ∧ WS (u τ1 st) (fun τ s => p a = false ∧ I τ ∧ J s) (fun d s => p a = true ∧ d = g a ∧ J s) (fun _ _ => False) (fun τ s => p a = false ∧ I τ ∧ J s)) →
    (∀ τ s, xs.find? p = none → I τ → J s → N τ s) → (∀ a s, xs.find? p = some a → J s → R (g a) s) → WS (forL q set u ds τ st) N R B C
  | [], ds, τ, st, hd, h0, j0, _, kN, _ => by
    subst hd
    rw [List.map_nil, forL, if_pos (hc st j0)]
    exact kN τ st rfl h0 j0
  | a :: xs, ds, τ, st, hd, h0, j0, hs, kN, kR => by
    subst hd
    obtain ⟨τ1, e1, h1⟩ := hs a (List.mem_cons_self ..) τ st h0 j0
    rw [List.map_cons, forL, if_pos (hc st j0), e1]
    simp only
    have go : ∀ τ s, (p a = false ∧ I τ ∧ J s) → WS (forL q set u (xs.map g) τ s) N R B C := fun τ s ⟨hp, h2, h3⟩ =>
      ws_find g p I J hc xs _ τ s rfl h2 h3 (fun b hb => hs b (List.mem_cons_of_mem _ hb)) (fun τ s h => kN τ s (by rw [List.find?_cons_of_neg (by rw [hp]; decide)]; exact h)) (fun a' s h => kR a' s (by rw [List.find?_cons_of_neg (by rw [hp]; decide)]; exact h))
    generalize u τ1 st = r at h1
    cases r with
    | nx τ s => exact go τ s h1
    | ct τ s => exact go τ s h1
    | rt d s =>
      obtain ⟨hp, rfl, h3⟩ := h1
      exact kR a s (by rw [List.find?_cons_of_pos hp]) h3
    | _ => exact h1.elim
end
/-! dicts of one pair; sorted -/
section
variable {τ : Sl} {st : Store} {f g : EM D} {n : Nat} {xs : List D} {kvs : List (D × D)}
@[simp] theorem eDct1_e : eDct1 f g τ st = (f τ st).bind fun k s1 => (g τ s1).bind fun v s2 => if k.flatK || k.tupQ then .ok (.ref s2.length) (s2 ++ [.dct [(k, v)]]) else .bad := rfl
theorem fSorted_ref (h : lstAt st n = some xs) : fSorted [.ref n] st = gSorted xs st := by simp [fSorted, dSeq, h]
@[simp] theorem fSorted_tup : fSorted [.tup xs] st = gSorted xs st := rfl
theorem fSorted_dct (h : dctAt st n = some kvs) : fSorted [.ref n] st = gSorted (kvs.map (·.1)) st := by
  have := lst_dct h
  simp [fSorted, dSeq, this, h]
end
end HM

namespace K71
open PySem PySem.Spec PyProof.Rows L2 HM
def top (i : Nat) : Stmt := PySem.Challenge.pw_closedratios_k71_whole_best_sets.main.body.getD i (.Pass ⟨0, 0, 0, 0⟩)
abbrev s_ratio : Stmt := top 3
abbrev s_times : Stmt := top 4
abbrev s_is_below : Stmt := top 5
abbrev s_is_changed : Stmt := top 7
abbrev s_changed_factors : Stmt := top 8
abbrev s_load : Stmt := top 9
abbrev s_first_burst : Stmt := top 10
abbrev s_is_fitting : Stmt := top 11
abbrev s_first_free : Stmt := top 13
abbrev s_longer_sets : Stmt := top 14
abbrev s_all_sets : Stmt := top 15
abbrev s_larger_sets : Stmt := top 16
abbrev s_lesser_sets : Stmt := top 17
abbrev s_fitting_sets : Stmt := top 19
abbrev s_noted : Stmt := top 20
abbrev s_is_greatest : Stmt := top 21
abbrev s_is_least : Stmt := top 22
abbrev s_greatest_sets : Stmt := top 23
abbrev s_bars_of : Stmt := top 24
abbrev s_gain_of : Stmt := top 25
abbrev s_best_set : Stmt := top 26
abbrev s__law_begin : Stmt := top 28
abbrev s__law_draw : Stmt := top 29
abbrev s__law_pick : Stmt := top 30
abbrev s__law_rare : Stmt := top 31
abbrev s__law_is_int : Stmt := top 32
abbrev s__law_is_ints : Stmt := top 33
abbrev s__law_is_rows : Stmt := top 34
abbrev s__law_gcd : Stmt := top 35
abbrev s__law_f : Stmt := top 36
abbrev s__law_plus : Stmt := top 37
abbrev s__law_minus : Stmt := top 38
abbrev s__law_all_edits : Stmt := top 39
abbrev s__law_near : Stmt := top 40
abbrev s__law_factor : Stmt := top 41
abbrev s__law_poll : Stmt := top 42
abbrev s__law_is_changed : Stmt := top 43
abbrev s__law_products : Stmt := top 44
abbrev s__law_burst : Stmt := top 45
abbrev s__law_sets : Stmt := top 46
abbrev s__law_fitting : Stmt := top 47
abbrev s__law_limit : Stmt := top 48
abbrev s__law_lies : Stmt := top 49
abbrev s__law_prizes : Stmt := top 50
abbrev s__law_sum : Stmt := top 51
abbrev s__law_is_better : Stmt := top 52
abbrev s__law_is_best : Stmt := top 53
abbrev s__law_is_shown : Stmt := top 54
abbrev s__law_changed : Stmt := top 55
abbrev s_law : Stmt := top 56
def q_ONE : D := .tup [.int 1, .int 1]
def N_ratio : List PySem.Str := ["n", "d", "common"]
theorem sc_ratio : FnScope N_ratio ["n", "d"] (defScope s_ratio) := ⟨rfl, rfl, rfl, by decide +kernel, rfl, by decide +kernel, by decide +kernel⟩
def m_ratio : SM := (sSeq (sIf (tBl (eBin oEq (eVar 1) (eC (.int 0)))) (sRaise ⟨.ty "ZeroDivisionError", []⟩) sNil)
    (sSeq (sSet 2 (eCB fGcd (aCons (eVar 0) (aCons (eVar 1) aNil))))
    (sSeq (sIf (tBl (eBin oLt (eVar 1) (eC (.int 0)))) (sSet 2 (eUn oNeg (eVar 2))) sNil)
    (sRet (eTup (aCons (eBin oDiv (eVar 0) (eVar 2)) (aCons (eBin oDiv (eVar 1) (eVar 2)) aNil)))))))
theorem ok_ratio {P : Program} {w : World} {K : PySem.W.Frag} {mg : PySem.Str → Option Value} {base : Heap} {f : Addr} {fd : FuncData} (F : FnP K "ratio" s_ratio f fd) (gx : mg "ratio" = some (.ref f)) (g_gcd : mg "gcd" = some (.builtin "math.gcd")) (z_ZeroDivisionError : mg "ZeroDivisionError" = none) :
    Cal P w K mg base "ratio" 1 ["n", "d"] (runB 3 (m_ratio)) :=
  cal_mk (k := 0) F sc_ratio gx (fun _ _ _ _ _ _ us hl => match us, hl with | [_, _], _ => rfl) fun cdv A outer s H E hr tk hp =>
    (sx_cons (sx_if (et_cmp (m_eq hr.units) (xv 1) ex_int (nomark _)) (sx_one (sx_raiseB (by rfl) tk exb_ZeroDivisionError (by rfl) z_ZeroDivisionError boot_ZeroDivisionError)) sx_nil)
    (sx_cons (sx_set sc_ratio.nd (ex_callF c_gcd (by rfl) g_gcd (ea_cons (xv 0) (ea_cons (xv 1) ea_nil))))
    (sx_cons (sx_if (et_cmp (m_lt hr.units65) (xv 1) ex_int (nomark _)) (sx_one (sx_set sc_ratio.nd (ex_un m_neg (xv 2)))) sx_nil)
    (sx_one (sx_ret (ex_tup (ea_cons (ex_op m_div (xv 0) (xv 2)) (ea_cons (ex_op m_div (xv 1) (xv 2)) ea_nil))))))))
def N_times : List PySem.Str := ["x", "y"]
theorem sc_times : FnScope N_times ["x", "y"] (defScope s_times) := ⟨rfl, rfl, rfl, by decide +kernel, rfl, by decide +kernel, by decide +kernel⟩
def m_times (f_ratio : FM) : SM := (sRet (eCall 2 f_ratio (aCons (eBin oMul (eBin oIx (eVar 0) (eC (.int 0))) (eBin oIx (eVar 1) (eC (.int 0)))) (aCons (eBin oMul (eBin oIx (eVar 0) (eC (.int 1))) (eBin oIx (eVar 1) (eC (.int 1)))) aNil))))
theorem ok_times {P : Program} {w : World} {K : PySem.W.Frag} {mg : PySem.Str → Option Value} {base : Heap} {f : Addr} {fd : FuncData} {f_ratio : FM} (F : FnP K "times" s_times f fd) (gx : mg "times" = some (.ref f)) (c_ratio : Cal P w K mg base "ratio" 1 ["n", "d"] f_ratio) :
    Cal P w K mg base "times" 2 ["x", "y"] (runB 2 (m_times f_ratio)) :=
  cal_mk (k := 1) F sc_times gx (fun _ _ _ _ _ _ us hl => match us, hl with | [_, _], _ => rfl) fun cdv A outer s H E hr tk hp =>
    (sx_one (sx_ret (ex_c1 c_ratio tk hr (by decide) (ea_cons (ex_op m_mul (ex_ix (m_ix hr.units65) (xv 0) ex_int) (ex_ix (m_ix hr.units65) (xv 1) ex_int)) (ea_cons (ex_op m_mul (ex_ix (m_ix hr.units65) (xv 0) ex_int) (ex_ix (m_ix hr.units65) (xv 1) ex_int)) ea_nil)))))
def N_is_below : List PySem.Str := ["x", "y"]
theorem sc_is_below : FnScope N_is_below ["x", "y"] (defScope s_is_below) := ⟨rfl, rfl, rfl, by decide +kernel, rfl, by decide +kernel, by decide +kernel⟩
def m_is_below : SM := (sRet (eBin oLt (eBin oMul (eBin oIx (eVar 0) (eC (.int 0))) (eBin oIx (eVar 1) (eC (.int 1)))) (eBin oMul (eBin oIx (eVar 1) (eC (.int 0))) (eBin oIx (eVar 0) (eC (.int 1))))))
theorem ok_is_below {P : Program} {w : World} {K : PySem.W.Frag} {mg : PySem.Str → Option Value} {base : Heap} {f : Addr} {fd : FuncData} (F : FnP K "is_below" s_is_below f fd) (gx : mg "is_below" = some (.ref f))  :
    Cal P w K mg base "is_below" 1 ["x", "y"] (runB 2 (m_is_below)) :=
  cal_mk (k := 0) F sc_is_below gx (fun _ _ _ _ _ _ us hl => match us, hl with | [_, _], _ => rfl) fun cdv A outer s H E hr tk hp =>
    (sx_one (sx_ret (ex_cmp (m_lt hr.units65) (ex_op m_mul (ex_ix (m_ix hr.units65) (xv 0) ex_int) (ex_ix (m_ix hr.units65) (xv 1) ex_int)) (ex_op m_mul (ex_ix (m_ix hr.units65) (xv 1) ex_int) (ex_ix (m_ix hr.units65) (xv 0) ex_int)) (nomark _))))
def N_is_changed : List PySem.Str := ["edit", "kinds"]
theorem sc_is_changed : FnScope N_is_changed ["edit", "kinds"] (defScope s_is_changed) := ⟨rfl, rfl, rfl, by decide +kernel, rfl, by decide +kernel, by decide +kernel⟩
def m_is_changed : SM := (sSeq (sIf (tBl (eBin oEq (eBin oIx (eVar 0) (eC (.int 0))) (eC (.str [116, 117, 114, 110])))) (sRet (eBin oNe (eBin oIn (eBin oIx (eVar 0) (eC (.int 1))) (eVar 1)) (eBin oIn (eBin oIx (eVar 0) (eC (.int 2))) (eVar 1)))) sNil)
    (sRet (eBin oIn (eBin oIx (eVar 0) (eC (.int 1))) (eVar 1))))
theorem ok_is_changed {P : Program} {w : World} {K : PySem.W.Frag} {mg : PySem.Str → Option Value} {base : Heap} {f : Addr} {fd : FuncData} (F : FnP K "is_changed" s_is_changed f fd) (gx : mg "is_changed" = some (.ref f))  :
    Cal P w K mg base "is_changed" 1 ["edit", "kinds"] (runB 2 (m_is_changed)) :=
  cal_mk (k := 0) F sc_is_changed gx (fun _ _ _ _ _ _ us hl => match us, hl with | [_, _], _ => rfl) fun cdv A outer s H E hr tk hp =>
    (sx_cons (sx_if (et_cmp (m_eq hr.units) (ex_ix (m_ix hr.units65) (xv 0) ex_int) (ex_strc [116, 117, 114, 110] (by decide +kernel)) (nomark _)) (sx_one (sx_ret (ex_cmp (m_ne hr.units) (ex_cmp (m_in hr.units65) (ex_ix (m_ix hr.units65) (xv 0) ex_int) (xv 1) (by rfl)) (ex_cmp (m_in hr.units65) (ex_ix (m_ix hr.units65) (xv 0) ex_int) (xv 1) (by rfl)) (nomark _)))) sx_nil)
    (sx_one (sx_ret (ex_cmp (m_in hr.units65) (ex_ix (m_ix hr.units65) (xv 0) ex_int) (xv 1) (by rfl)))))
def N_changed_factors : List PySem.Str := ["edit", "questions", "chosen", "found", "number", "kinds", "factor"]
theorem sc_changed_factors : FnScope N_changed_factors ["edit", "questions", "chosen"] (defScope s_changed_factors) := ⟨rfl, rfl, rfl, by decide +kernel, rfl, by decide +kernel, by decide +kernel⟩
def m_changed_factors (f_is_changed : FM) : SM := (sSeq (sSet 3 (eLst aNil))
    (sSeq (sFor (iEx (eVar 2)) (gN 4) (sSeq (sAsg (gT 2 (gCs 5 (gCs 6 gNil0))) (eBin oIx (eVar 1) (eVar 4)))
    (sIf (tVal (eCall 2 f_is_changed (aCons (eVar 0) (aCons (eVar 5) aNil)))) (sExpr (eM "list" mAppend (eVar 3) (aCons (eVar 6) aNil))) sNil)))
    (sRet (eVar 3))))
theorem ok_changed_factors {P : Program} {w : World} {K : PySem.W.Frag} {mg : PySem.Str → Option Value} {base : Heap} {f : Addr} {fd : FuncData} {f_is_changed : FM} (F : FnP K "changed_factors" s_changed_factors f fd) (gx : mg "changed_factors" = some (.ref f)) (c_is_changed : Cal P w K mg base "is_changed" 1 ["edit", "kinds"] f_is_changed) :
    Cal P w K mg base "changed_factors" 2 ["edit", "questions", "chosen"] (runB 7 (m_changed_factors f_is_changed)) :=
  cal_mk (k := 1) F sc_changed_factors gx (fun _ _ _ _ _ _ us hl => match us, hl with | [_, _, _], _ => rfl) fun cdv A outer s H E hr tk hp =>
    (sx_cons (sx_set sc_changed_factors.nd (ex_lst ea_nil))
    (sx_cons (sx_for hp (by rfl) (ei_ex (xv 2)) (eg_name sc_changed_factors.nd) (sx_cons (sx_asg (ex_ix (m_ix hr.units65) (xv 1) (xv 4)) (eg_tup (by rfl) (egs_cons sc_changed_factors.nd (egs_cons sc_changed_factors.nd egs_nil))))
    (sx_one (sx_if (et_val (ex_c1 c_is_changed tk hr (by decide) (ea_cons (xv 0) (ea_cons (xv 5) ea_nil)))) (sx_one (sx_expr (ex_m PySem.F.plainAttrs_list PySem.F.slot_list_append PySem.F.type_list_append me_append (xv 3) (ea_cons (xv 6) ea_nil)))) sx_nil))))
    (sx_one (sx_ret (xv 3)))))
def N_load : List PySem.Str := ["edit", "questions", "chosen", "product", "factor"]
theorem sc_load : FnScope N_load ["edit", "questions", "chosen"] (defScope s_load) := ⟨rfl, rfl, rfl, by decide +kernel, rfl, by decide +kernel, by decide +kernel⟩
def m_load (f_changed_factors : FM) (f_times : FM) : SM := (sSeq (sSet 3 (eC q_ONE))
    (sSeq (sFor (iEx (eCall 3 f_changed_factors (aCons (eVar 0) (aCons (eVar 1) (aCons (eVar 2) aNil))))) (gN 4) (sSet 3 (eCall 2 f_times (aCons (eVar 3) (aCons (eVar 4) aNil)))))
    (sRet (eVar 3))))
theorem ok_load {P : Program} {w : World} {K : PySem.W.Frag} {mg : PySem.Str → Option Value} {base : Heap} {f : Addr} {fd : FuncData} {f_changed_factors f_times : FM} (F : FnP K "load" s_load f fd) (gx : mg "load" = some (.ref f)) (c_changed_factors : Cal P w K mg base "changed_factors" 2 ["edit", "questions", "chosen"] f_changed_factors) (c_times : Cal P w K mg base "times" 2 ["x", "y"] f_times) (k_ONE : Con K mg "ONE" q_ONE) :
    Cal P w K mg base "load" 3 ["edit", "questions", "chosen"] (runB 5 (m_load f_changed_factors f_times)) :=
  cal_mk (k := 2) F sc_load gx (fun _ _ _ _ _ _ us hl => match us, hl with | [_, _, _], _ => rfl) fun cdv A outer s H E hr tk hp =>
    (sx_cons (sx_set sc_load.nd (ex_con k_ONE))
    (sx_cons (sx_for hp (by rfl) (ei_ex (ex_c1 c_changed_factors tk hr (by decide) (ea_cons (xv 0) (ea_cons (xv 1) (ea_cons (xv 2) ea_nil))))) (eg_name sc_load.nd) (sx_one (sx_set sc_load.nd (ex_c1 c_times tk hr (by decide) (ea_cons (xv 3) (ea_cons (xv 4) ea_nil))))))
    (sx_one (sx_ret (xv 3)))))
def N_first_burst : List PySem.Str := ["near", "questions", "budget", "chosen", "edit"]
theorem sc_first_burst : FnScope N_first_burst ["near", "questions", "budget", "chosen"] (defScope s_first_burst) := ⟨rfl, rfl, rfl, by decide +kernel, rfl, by decide +kernel, by decide +kernel⟩
def m_first_burst (f_is_below : FM) (f_load : FM) : SM := (sSeq (sFor (iEx (eVar 0)) (gN 4) (sIf (tVal (eCall 2 f_is_below (aCons (eVar 2) (aCons (eCall 3 f_load (aCons (eVar 4) (aCons (eVar 1) (aCons (eVar 3) aNil)))) aNil)))) (sRet (eVar 4)) sNil))
    (sRet (eC .non)))
theorem ok_first_burst {P : Program} {w : World} {K : PySem.W.Frag} {mg : PySem.Str → Option Value} {base : Heap} {f : Addr} {fd : FuncData} {f_is_below f_load : FM} (F : FnP K "first_burst" s_first_burst f fd) (gx : mg "first_burst" = some (.ref f)) (c_is_below : Cal P w K mg base "is_below" 1 ["x", "y"] f_is_below) (c_load : Cal P w K mg base "load" 3 ["edit", "questions", "chosen"] f_load) :
    Cal P w K mg base "first_burst" 4 ["near", "questions", "budget", "chosen"] (runB 5 (m_first_burst f_is_below f_load)) :=
  cal_mk (k := 3) F sc_first_burst gx (fun _ _ _ _ _ _ us hl => match us, hl with | [_, _, _, _], _ => rfl) fun cdv A outer s H E hr tk hp =>
    (sx_cons (sx_for hp (by rfl) (ei_ex (xv 0)) (eg_name sc_first_burst.nd) (sx_one (sx_if (et_val (ex_c1 c_is_below tk hr (by decide) (ea_cons (xv 2) (ea_cons (ex_c1 c_load tk hr (by decide) (ea_cons (xv 4) (ea_cons (xv 1) (ea_cons (xv 3) ea_nil)))) ea_nil)))) (sx_one (sx_ret (xv 4))) sx_nil)))
    (sx_one (sx_ret ex_non)))
def N_is_fitting : List PySem.Str := ["near", "questions", "budget", "chosen"]
theorem sc_is_fitting : FnScope N_is_fitting ["near", "questions", "budget", "chosen"] (defScope s_is_fitting) := ⟨rfl, rfl, rfl, by decide +kernel, rfl, by decide +kernel, by decide +kernel⟩
def m_is_fitting (f_is_below : FM) (f_first_burst : FM) : SM := (sSeq (sIf (tVal (eCall 2 f_is_below (aCons (eVar 2) (aCons (eC q_ONE) aNil)))) (sRet (eC (.bl false))) sNil)
    (sRet (eBin oIs (eCall 4 f_first_burst (aCons (eVar 0) (aCons (eVar 1) (aCons (eVar 2) (aCons (eVar 3) aNil))))) (eC .non))))
theorem ok_is_fitting {P : Program} {w : World} {K : PySem.W.Frag} {mg : PySem.Str → Option Value} {base : Heap} {f : Addr} {fd : FuncData} {f_is_below f_first_burst : FM} (F : FnP K "is_fitting" s_is_fitting f fd) (gx : mg "is_fitting" = some (.ref f)) (c_is_below : Cal P w K mg base "is_below" 1 ["x", "y"] f_is_below) (c_first_burst : Cal P w K mg base "first_burst" 4 ["near", "questions", "budget", "chosen"] f_first_burst) (k_ONE : Con K mg "ONE" q_ONE) :
    Cal P w K mg base "is_fitting" 5 ["near", "questions", "budget", "chosen"] (runB 4 (m_is_fitting f_is_below f_first_burst)) :=
  cal_mk (k := 4) F sc_is_fitting gx (fun _ _ _ _ _ _ us hl => match us, hl with | [_, _, _, _], _ => rfl) fun cdv A outer s H E hr tk hp =>
    (sx_cons (sx_if (et_val (ex_c1 c_is_below tk hr (by decide) (ea_cons (xv 2) (ea_cons (ex_con k_ONE) ea_nil)))) (sx_one (sx_ret ex_bl)) sx_nil)
    (sx_one (sx_ret (ex_cmp m_is (ex_c1 c_first_burst tk hr (by decide) (ea_cons (xv 0) (ea_cons (xv 1) (ea_cons (xv 2) (ea_cons (xv 3) ea_nil))))) ex_non (nomark _)))))
def N_first_free : List PySem.Str := ["chosen"]
theorem sc_first_free : FnScope N_first_free ["chosen"] (defScope s_first_free) := ⟨rfl, rfl, rfl, by decide +kernel, rfl, by decide +kernel, by decide +kernel⟩
def m_first_free : SM := (sSeq (sIf (tBl (eBin oEq (eCB fLen (aCons (eVar 0) aNil)) (eC (.int 0)))) (sRet (eC (.int 0))) sNil)
    (sRet (eBin oAdd (eBin oIx (eVar 0) (eBin oSub (eCB fLen (aCons (eVar 0) aNil)) (eC (.int 1)))) (eC (.int 1)))))
theorem ok_first_free {P : Program} {w : World} {K : PySem.W.Frag} {mg : PySem.Str → Option Value} {base : Heap} {f : Addr} {fd : FuncData} (F : FnP K "first_free" s_first_free f fd) (gx : mg "first_free" = some (.ref f)) (z_len : mg "len" = none) :
    Cal P w K mg base "first_free" 1 ["chosen"] (runB 1 (m_first_free)) :=
  cal_mk (k := 0) F sc_first_free gx (fun _ _ _ _ _ _ us hl => match us, hl with | [_], _ => rfl) fun cdv A outer s H E hr tk hp =>
    (sx_cons (sx_if (et_cmp (m_eq hr.units) (ex_callB c_len (by rfl) z_len bt_len (ea_cons (xv 0) ea_nil)) ex_int (nomark _)) (sx_one (sx_ret ex_int)) sx_nil)
    (sx_one (sx_ret (ex_op m_add (ex_ix (m_ix hr.units65) (xv 0) (ex_op m_sub (ex_callB c_len (by rfl) z_len bt_len (ea_cons (xv 0) ea_nil)) ex_int)) ex_int))))
def N_longer_sets : List PySem.Str := ["chosen", "many", "number"]
theorem sc_longer_sets : FnScope N_longer_sets ["chosen", "many"] (defScope s_longer_sets) := ⟨rfl, rfl, rfl, by decide +kernel, rfl, by decide +kernel, by decide +kernel⟩
def m_longer_sets (f_first_free : FM) : SM := (sRet (eEl (lComp [2] (iRg2 (eCall 1 f_first_free (aCons (eVar 0) aNil)) (eVar 1)) (gN 2) tYes (eBin oAdd (eVar 0) (eTup (aCons (eVar 2) aNil))))))
theorem ok_longer_sets {P : Program} {w : World} {K : PySem.W.Frag} {mg : PySem.Str → Option Value} {base : Heap} {f : Addr} {fd : FuncData} {f_first_free : FM} (F : FnP K "longer_sets" s_longer_sets f fd) (gx : mg "longer_sets" = some (.ref f)) (c_first_free : Cal P w K mg base "first_free" 1 ["chosen"] f_first_free) (z_range : mg "range" = none) :
    Cal P w K mg base "longer_sets" 2 ["chosen", "many"] (runB 3 (m_longer_sets f_first_free)) :=
  cal_mk (k := 1) F sc_longer_sets gx (fun _ _ _ _ _ _ us hl => match us, hl with | [_, _], _ => rfl) fun cdv A outer s H E hr tk hp =>
    (sx_one (sx_ret (ex_el (el_comp (own := [(("number" : PySem.Str), 2)]) (by rfl) sc_longer_sets.nd (ei_range2 (by rfl) z_range (ex_c1 c_first_free tk hr (by decide) (ea_cons (xv 0) ea_nil)) (xv 1)) (blkOk_by (N := N_longer_sets) (sc := (defScope s_longer_sets)) (by decide +kernel)) (fun _ _ _ _ _ => (eg_name sc_longer_sets.nd)) (fun _ _ _ _ _ => ets_nil) (fun _ _ _ _ _ => (ex_op m_add (xv 0) (ex_tup (ea_cons (xv 2) ea_nil))))))))
def N_all_sets : List PySem.Str := ["many", "found", "at"]
theorem sc_all_sets : FnScope N_all_sets ["many"] (defScope s_all_sets) := ⟨rfl, rfl, rfl, by decide +kernel, rfl, by decide +kernel, by decide +kernel⟩
def m_all_sets (f_longer_sets : FM) : SM := (sSeq (sSet 1 (eLst (aCons (eTup aNil) aNil)))
    (sSeq (sSet 2 (eC (.int 0)))
    (sSeq (whileN (tBl (eBin oLt (eVar 2) (eCB fLen (aCons (eVar 1) aNil)))) (sSeq (sExpr (eM "list" mExtend (eVar 1) (aCons (eCall 2 f_longer_sets (aCons (eBin oIx (eVar 1) (eVar 2)) (aCons (eVar 0) aNil))) aNil)))
    (sSet 2 (eBin oAdd (eVar 2) (eC (.int 1))))) big)
    (sRet (eVar 1)))))
theorem ok_all_sets {P : Program} {w : World} {K : PySem.W.Frag} {mg : PySem.Str → Option Value} {base : Heap} {f : Addr} {fd : FuncData} {f_longer_sets : FM} (F : FnP K "all_sets" s_all_sets f fd) (gx : mg "all_sets" = some (.ref f)) (c_longer_sets : Cal P w K mg base "longer_sets" 2 ["chosen", "many"] f_longer_sets) (z_len : mg "len" = none) :
    Cal P w K mg base "all_sets" 3 ["many"] (runB 3 (m_all_sets f_longer_sets)) :=
  cal_mk (k := 2) F sc_all_sets gx (fun _ _ _ _ _ _ us hl => match us, hl with | [_], _ => rfl) fun cdv A outer s H E hr tk hp =>
    (sx_cons (sx_set sc_all_sets.nd (ex_lst (ea_cons (ex_tup ea_nil) ea_nil)))
    (sx_cons (sx_set sc_all_sets.nd ex_int)
    (sx_cons (sx_while big hp (et_cmp (m_lt hr.units65) (xv 2) (ex_callB c_len (by rfl) z_len bt_len (ea_cons (xv 1) ea_nil)) (nomark _)) (sx_cons (sx_expr (ex_m PySem.F.plainAttrs_list PySem.F.slot_list_extend PySem.F.type_list_extend me_extend (xv 1) (ea_cons (ex_c1 c_longer_sets tk hr (by decide) (ea_cons (ex_ix (m_ix hr.units65) (xv 1) (xv 2)) (ea_cons (xv 0) ea_nil))) ea_nil)))
    (sx_one (sx_set sc_all_sets.nd (ex_op m_add (xv 2) ex_int)))))
    (sx_one (sx_ret (xv 1))))))
def N_larger_sets : List PySem.Str := ["chosen", "many", "number"]
theorem sc_larger_sets : FnScope N_larger_sets ["chosen", "many"] (defScope s_larger_sets) := ⟨rfl, rfl, rfl, by decide +kernel, rfl, by decide +kernel, by decide +kernel⟩
def m_larger_sets : SM := (sRet (eEl (lComp [2] (iRg1 (eVar 1)) (gN 2) (tBl (eBin oNotIn (eVar 2) (eVar 0))) (eCB fTuple (aCons (eCB fSorted (aCons (eBin oAdd (eVar 0) (eTup (aCons (eVar 2) aNil))) aNil)) aNil)))))
theorem ok_larger_sets {P : Program} {w : World} {K : PySem.W.Frag} {mg : PySem.Str → Option Value} {base : Heap} {f : Addr} {fd : FuncData} (F : FnP K "larger_sets" s_larger_sets f fd) (gx : mg "larger_sets" = some (.ref f)) (z_range : mg "range" = none) (z_sorted : mg "sorted" = none) (z_tuple : mg "tuple" = none) :
    Cal P w K mg base "larger_sets" 1 ["chosen", "many"] (runB 3 (m_larger_sets)) :=
  cal_mk (k := 0) F sc_larger_sets gx (fun _ _ _ _ _ _ us hl => match us, hl with | [_, _], _ => rfl) fun cdv A outer s H E hr tk hp =>
    (sx_one (sx_ret (ex_el (el_comp (own := [(("number" : PySem.Str), 2)]) (by rfl) sc_larger_sets.nd (ei_range1 (by rfl) z_range (xv 1)) (blkOk_by (N := N_larger_sets) (sc := (defScope s_larger_sets)) (by decide +kernel)) (fun _ _ _ _ _ => (eg_name sc_larger_sets.nd)) (fun _ _ _ _ _ => (ets_one (et_cmp (m_notin hr.units65) (xv 2) (xv 0) (by rfl)))) (fun _ _ _ _ _ => (ex_callT c_tuple (by rfl) z_tuple bt_tuple (ea_cons (ex_callB (c_sorted (by rfl) hr.units65) (by rfl) z_sorted bt_sorted (ea_cons (ex_op m_add (xv 0) (ex_tup (ea_cons (xv 2) ea_nil))) ea_nil)) ea_nil)))))))
def N_lesser_sets : List PySem.Str := ["chosen", "at"]
theorem sc_lesser_sets : FnScope N_lesser_sets ["chosen"] (defScope s_lesser_sets) := ⟨rfl, rfl, rfl, by decide +kernel, rfl, by decide +kernel, by decide +kernel⟩
def m_lesser_sets : SM := (sRet (eEl (lComp [1] (iRg1 (eCB fLen (aCons (eVar 0) aNil))) (gN 1) tYes (eBin oAdd (eSl (eVar 0) oNone (oSome (eVar 1))) (eSl (eVar 0) (oSome (eBin oAdd (eVar 1) (eC (.int 1)))) oNone)))))
theorem ok_lesser_sets {P : Program} {w : World} {K : PySem.W.Frag} {mg : PySem.Str → Option Value} {base : Heap} {f : Addr} {fd : FuncData} (F : FnP K "lesser_sets" s_lesser_sets f fd) (gx : mg "lesser_sets" = some (.ref f)) (z_range : mg "range" = none) (z_len : mg "len" = none) :
    Cal P w K mg base "lesser_sets" 1 ["chosen"] (runB 2 (m_lesser_sets)) :=
  cal_mk (k := 0) F sc_lesser_sets gx (fun _ _ _ _ _ _ us hl => match us, hl with | [_], _ => rfl) fun cdv A outer s H E hr tk hp =>
    (sx_one (sx_ret (ex_el (el_comp (own := [(("at" : PySem.Str), 1)]) (by rfl) sc_lesser_sets.nd (ei_range1 (by rfl) z_range (ex_callB c_len (by rfl) z_len bt_len (ea_cons (xv 0) ea_nil))) (blkOk_by (N := N_lesser_sets) (sc := (defScope s_lesser_sets)) (by decide +kernel)) (fun _ _ _ _ _ => (eg_name sc_lesser_sets.nd)) (fun _ _ _ _ _ => ets_nil) (fun _ _ _ _ _ => (ex_op m_add (ex_sl (xv 0) eo_none (eo_some (xv 1))) (ex_sl (xv 0) (eo_some (ex_op m_add (xv 1) ex_int)) eo_none)))))))
def N_fitting_sets : List PySem.Str := ["near", "questions", "budget", "found", "at", "chosen"]
theorem sc_fitting_sets : FnScope N_fitting_sets ["near", "questions", "budget"] (defScope s_fitting_sets) := ⟨rfl, rfl, rfl, by decide +kernel, rfl, by decide +kernel, by decide +kernel⟩
def m_fitting_sets (f_is_below : FM) (f_longer_sets : FM) (f_is_fitting : FM) : SM := (sSeq (sIf (tVal (eCall 2 f_is_below (aCons (eVar 2) (aCons (eC q_ONE) aNil)))) (sRet (eLst aNil)) sNil)
    (sSeq (sSet 3 (eLst (aCons (eTup aNil) aNil)))
    (sSeq (sSet 4 (eC (.int 0)))
    (sSeq (whileN (tBl (eBin oLt (eVar 4) (eCB fLen (aCons (eVar 3) aNil)))) (sSeq (sFor (iEx (eCall 2 f_longer_sets (aCons (eBin oIx (eVar 3) (eVar 4)) (aCons (eCB fLen (aCons (eVar 1) aNil)) aNil)))) (gN 5) (sIf (tVal (eCall 4 f_is_fitting (aCons (eVar 0) (aCons (eVar 1) (aCons (eVar 2) (aCons (eVar 5) aNil)))))) (sExpr (eM "list" mAppend (eVar 3) (aCons (eVar 5) aNil))) sNil))
    (sSet 4 (eBin oAdd (eVar 4) (eC (.int 1))))) big)
    (sRet (eCB fSorted (aCons (eVar 3) aNil)))))))
theorem ok_fitting_sets {P : Program} {w : World} {K : PySem.W.Frag} {mg : PySem.Str → Option Value} {base : Heap} {f : Addr} {fd : FuncData} {f_is_below f_longer_sets f_is_fitting : FM} (F : FnP K "fitting_sets" s_fitting_sets f fd) (gx : mg "fitting_sets" = some (.ref f)) (c_is_below : Cal P w K mg base "is_below" 1 ["x", "y"] f_is_below) (c_longer_sets : Cal P w K mg base "longer_sets" 2 ["chosen", "many"] f_longer_sets) (c_is_fitting : Cal P w K mg base "is_fitting" 5 ["near", "questions", "budget", "chosen"] f_is_fitting) (k_ONE : Con K mg "ONE" q_ONE) (z_len : mg "len" = none) (z_sorted : mg "sorted" = none) :
    Cal P w K mg base "fitting_sets" 6 ["near", "questions", "budget"] (runB 6 (m_fitting_sets f_is_below f_longer_sets f_is_fitting)) :=
  cal_mk (k := 5) F sc_fitting_sets gx (fun _ _ _ _ _ _ us hl => match us, hl with | [_, _, _], _ => rfl) fun cdv A outer s H E hr tk hp =>
    (sx_cons (sx_if (et_val (ex_c1 c_is_below tk hr (by decide) (ea_cons (xv 2) (ea_cons (ex_con k_ONE) ea_nil)))) (sx_one (sx_ret (ex_lst ea_nil))) sx_nil)
    (sx_cons (sx_set sc_fitting_sets.nd (ex_lst (ea_cons (ex_tup ea_nil) ea_nil)))
    (sx_cons (sx_set sc_fitting_sets.nd ex_int)
    (sx_cons (sx_while big hp (et_cmp (m_lt hr.units65) (xv 4) (ex_callB c_len (by rfl) z_len bt_len (ea_cons (xv 3) ea_nil)) (nomark _)) (sx_cons (sx_for hp (by rfl) (ei_ex (ex_c1 c_longer_sets tk hr (by decide) (ea_cons (ex_ix (m_ix hr.units65) (xv 3) (xv 4)) (ea_cons (ex_callB c_len (by rfl) z_len bt_len (ea_cons (xv 1) ea_nil)) ea_nil)))) (eg_name sc_fitting_sets.nd) (sx_one (sx_if (et_val (ex_c1 c_is_fitting tk hr (by decide) (ea_cons (xv 0) (ea_cons (xv 1) (ea_cons (xv 2) (ea_cons (xv 5) ea_nil)))))) (sx_one (sx_expr (ex_m PySem.F.plainAttrs_list PySem.F.slot_list_append PySem.F.type_list_append me_append (xv 3) (ea_cons (xv 5) ea_nil)))) sx_nil)))
    (sx_one (sx_set sc_fitting_sets.nd (ex_op m_add (xv 4) ex_int)))))
    (sx_one (sx_ret (ex_callB (c_sorted (by rfl) hr.units65) (by rfl) z_sorted bt_sorted (ea_cons (xv 3) ea_nil))))))))
def N_noted : List PySem.Str := ["sets", "found", "chosen"]
theorem sc_noted : FnScope N_noted ["sets"] (defScope s_noted) := ⟨rfl, rfl, rfl, by decide +kernel, rfl, by decide +kernel, by decide +kernel⟩
def m_noted : SM := (sSeq (sSet 1 eDct)
    (sSeq (sFor (iEx (eVar 0)) (gN 2) (sSub (eVar 1) (eVar 2) (eC (.bl true))))
    (sRet (eVar 1))))
theorem ok_noted {P : Program} {w : World} {K : PySem.W.Frag} {mg : PySem.Str → Option Value} {base : Heap} {f : Addr} {fd : FuncData} (F : FnP K "noted" s_noted f fd) (gx : mg "noted" = some (.ref f))  :
    Cal P w K mg base "noted" 1 ["sets"] (runB 3 (m_noted)) :=
  cal_mk (k := 0) F sc_noted gx (fun _ _ _ _ _ _ us hl => match us, hl with | [_], _ => rfl) fun cdv A outer s H E hr tk hp =>
    (sx_cons (sx_set sc_noted.nd ex_dct)
    (sx_cons (sx_for hp (by rfl) (ei_ex (xv 0)) (eg_name sc_noted.nd) (sx_one (sx_sub hr.units65 ex_bl (xv 1) (xv 2))))
    (sx_one (sx_ret (xv 1)))))
def N_is_greatest : List PySem.Str := ["inside", "chosen", "many", "larger"]
theorem sc_is_greatest : FnScope N_is_greatest ["inside", "chosen", "many"] (defScope s_is_greatest) := ⟨rfl, rfl, rfl, by decide +kernel, rfl, by decide +kernel, by decide +kernel⟩
def m_is_greatest (f_larger_sets : FM) : SM := (sSeq (sFor (iEx (eCall 2 f_larger_sets (aCons (eVar 1) (aCons (eVar 2) aNil)))) (gN 3) (sIf (tBl (eBin oIn (eVar 3) (eVar 0))) (sRet (eC (.bl false))) sNil))
    (sRet (eC (.bl true))))
theorem ok_is_greatest {P : Program} {w : World} {K : PySem.W.Frag} {mg : PySem.Str → Option Value} {base : Heap} {f : Addr} {fd : FuncData} {f_larger_sets : FM} (F : FnP K "is_greatest" s_is_greatest f fd) (gx : mg "is_greatest" = some (.ref f)) (c_larger_sets : Cal P w K mg base "larger_sets" 1 ["chosen", "many"] f_larger_sets) :
    Cal P w K mg base "is_greatest" 2 ["inside", "chosen", "many"] (runB 4 (m_is_greatest f_larger_sets)) :=
  cal_mk (k := 1) F sc_is_greatest gx (fun _ _ _ _ _ _ us hl => match us, hl with | [_, _, _], _ => rfl) fun cdv A outer s H E hr tk hp =>
    (sx_cons (sx_for hp (by rfl) (ei_ex (ex_c1 c_larger_sets tk hr (by decide) (ea_cons (xv 1) (ea_cons (xv 2) ea_nil)))) (eg_name sc_is_greatest.nd) (sx_one (sx_if (et_cmp (m_in hr.units65) (xv 3) (xv 0) (by rfl)) (sx_one (sx_ret ex_bl)) sx_nil)))
    (sx_one (sx_ret ex_bl)))
def N_is_least : List PySem.Str := ["inside", "chosen", "fewer"]
theorem sc_is_least : FnScope N_is_least ["inside", "chosen"] (defScope s_is_least) := ⟨rfl, rfl, rfl, by decide +kernel, rfl, by decide +kernel, by decide +kernel⟩
def m_is_least (f_lesser_sets : FM) : SM := (sSeq (sFor (iEx (eCall 1 f_lesser_sets (aCons (eVar 1) aNil))) (gN 2) (sIf (tBl (eBin oNotIn (eVar 2) (eVar 0))) (sRet (eC (.bl false))) sNil))
    (sRet (eC (.bl true))))
theorem ok_is_least {P : Program} {w : World} {K : PySem.W.Frag} {mg : PySem.Str → Option Value} {base : Heap} {f : Addr} {fd : FuncData} {f_lesser_sets : FM} (F : FnP K "is_least" s_is_least f fd) (gx : mg "is_least" = some (.ref f)) (c_lesser_sets : Cal P w K mg base "lesser_sets" 1 ["chosen"] f_lesser_sets) :
    Cal P w K mg base "is_least" 2 ["inside", "chosen"] (runB 3 (m_is_least f_lesser_sets)) :=
  cal_mk (k := 1) F sc_is_least gx (fun _ _ _ _ _ _ us hl => match us, hl with | [_, _], _ => rfl) fun cdv A outer s H E hr tk hp =>
    (sx_cons (sx_for hp (by rfl) (ei_ex (ex_c1 c_lesser_sets tk hr (by decide) (ea_cons (xv 1) ea_nil))) (eg_name sc_is_least.nd) (sx_one (sx_if (et_cmp (m_notin hr.units65) (xv 2) (xv 0) (by rfl)) (sx_one (sx_ret ex_bl)) sx_nil)))
    (sx_one (sx_ret ex_bl)))
def N_greatest_sets : List PySem.Str := ["near", "questions", "budget", "fitting", "inside", "chosen"]
theorem sc_greatest_sets : FnScope N_greatest_sets ["near", "questions", "budget"] (defScope s_greatest_sets) := ⟨rfl, rfl, rfl, by decide +kernel, rfl, by decide +kernel, by decide +kernel⟩
def m_greatest_sets (f_fitting_sets : FM) (f_noted : FM) (f_is_greatest : FM) : SM := (sSeq (sSet 3 (eCall 3 f_fitting_sets (aCons (eVar 0) (aCons (eVar 1) (aCons (eVar 2) aNil)))))
    (sSeq (sSet 4 (eCall 1 f_noted (aCons (eVar 3) aNil)))
    (sRet (eCS gTuple (lComp [5] (iEx (eVar 3)) (gN 5) (tVal (eCall 3 f_is_greatest (aCons (eVar 4) (aCons (eVar 5) (aCons (eCB fLen (aCons (eVar 1) aNil)) aNil))))) (eVar 5))))))
theorem ok_greatest_sets {P : Program} {w : World} {K : PySem.W.Frag} {mg : PySem.Str → Option Value} {base : Heap} {f : Addr} {fd : FuncData} {f_fitting_sets f_noted f_is_greatest : FM} (F : FnP K "greatest_sets" s_greatest_sets f fd) (gx : mg "greatest_sets" = some (.ref f)) (c_fitting_sets : Cal P w K mg base "fitting_sets" 6 ["near", "questions", "budget"] f_fitting_sets) (c_noted : Cal P w K mg base "noted" 1 ["sets"] f_noted) (c_is_greatest : Cal P w K mg base "is_greatest" 2 ["inside", "chosen", "many"] f_is_greatest) (z_len : mg "len" = none) (z_tuple : mg "tuple" = none) :
    Cal P w K mg base "greatest_sets" 7 ["near", "questions", "budget"] (runB 6 (m_greatest_sets f_fitting_sets f_noted f_is_greatest)) :=
  cal_mk (k := 6) F sc_greatest_sets gx (fun _ _ _ _ _ _ us hl => match us, hl with | [_, _, _], _ => rfl) fun cdv A outer s H E hr tk hp =>
    (sx_cons (sx_set sc_greatest_sets.nd (ex_c1 c_fitting_sets tk hr (by decide) (ea_cons (xv 0) (ea_cons (xv 1) (ea_cons (xv 2) ea_nil)))))
    (sx_cons (sx_set sc_greatest_sets.nd (ex_c1 c_noted tk hr (by decide) (ea_cons (xv 3) ea_nil)))
    (sx_one (sx_ret (ex_callTs s_tuple (by rfl) z_tuple bt_tuple (es_el (el_comp (own := [(("chosen" : PySem.Str), 5)]) (by rfl) sc_greatest_sets.nd (ei_ex (xv 3)) (blkOk_by (N := N_greatest_sets) (sc := (defScope s_greatest_sets)) (by decide +kernel)) (fun _ _ _ _ _ => (eg_name sc_greatest_sets.nd)) (fun _ _ _ _ _ => (ets_one (et_val (ex_c1 c_is_greatest tk0 hr (by decide) (ea_cons (xv 4) (ea_cons (xv 5) (ea_cons (ex_callB c_len (by rfl) z_len bt_len (ea_cons (xv 1) ea_nil)) ea_nil))))))) (fun _ _ _ _ _ => (xv 5)))))))))
def N_bars_of : List PySem.Str := ["near", "questions", "budget", "inside", "found", "chosen"]
theorem sc_bars_of : FnScope N_bars_of ["near", "questions", "budget"] (defScope s_bars_of) := ⟨rfl, rfl, rfl, by decide +kernel, rfl, by decide +kernel, by decide +kernel⟩
def m_bars_of (f_is_below : FM) (f_noted : FM) (f_fitting_sets : FM) (f_all_sets : FM) (f_is_least : FM) (f_first_burst : FM) : SM := (sSeq (sIf (tVal (eCall 2 f_is_below (aCons (eVar 2) (aCons (eC q_ONE) aNil)))) (sRet (eTup (aCons (eTup (aCons (eTup aNil) (aCons (eC .non) aNil))) aNil))) sNil)
    (sSeq (sSet 3 (eCall 1 f_noted (aCons (eCall 3 f_fitting_sets (aCons (eVar 0) (aCons (eVar 1) (aCons (eVar 2) aNil)))) aNil)))
    (sSeq (sSet 4 (eLst aNil))
    (sSeq (sFor (iEx (eCB fSorted (aCons (eCall 1 f_all_sets (aCons (eCB fLen (aCons (eVar 1) aNil)) aNil)) aNil))) (gN 5) (sIf (tAnd (tBl (eBin oNotIn (eVar 5) (eVar 3))) (tVal (eCall 2 f_is_least (aCons (eVar 3) (aCons (eVar 5) aNil))))) (sExpr (eM "list" mAppend (eVar 4) (aCons (eTup (aCons (eVar 5) (aCons (eCall 4 f_first_burst (aCons (eVar 0) (aCons (eVar 1) (aCons (eVar 2) (aCons (eVar 5) aNil))))) aNil))) aNil))) sNil))
    (sRet (eCB fTuple (aCons (eVar 4) aNil)))))))
theorem ok_bars_of {P : Program} {w : World} {K : PySem.W.Frag} {mg : PySem.Str → Option Value} {base : Heap} {f : Addr} {fd : FuncData} {f_is_below f_noted f_fitting_sets f_all_sets f_is_least f_first_burst : FM} (F : FnP K "bars_of" s_bars_of f fd) (gx : mg "bars_of" = some (.ref f)) (c_is_below : Cal P w K mg base "is_below" 1 ["x", "y"] f_is_below) (c_noted : Cal P w K mg base "noted" 1 ["sets"] f_noted) (c_fitting_sets : Cal P w K mg base "fitting_sets" 6 ["near", "questions", "budget"] f_fitting_sets) (c_all_sets : Cal P w K mg base "all_sets" 3 ["many"] f_all_sets) (c_is_least : Cal P w K mg base "is_least" 2 ["inside", "chosen"] f_is_least) (c_first_burst : Cal P w K mg base "first_burst" 4 ["near", "questions", "budget", "chosen"] f_first_burst) (k_ONE : Con K mg "ONE" q_ONE) (z_len : mg "len" = none) (z_sorted : mg "sorted" = none) (z_tuple : mg "tuple" = none) :
    Cal P w K mg base "bars_of" 7 ["near", "questions", "budget"] (runB 6 (m_bars_of f_is_below f_noted f_fitting_sets f_all_sets f_is_least f_first_burst)) :=
  cal_mk (k := 6) F sc_bars_of gx (fun _ _ _ _ _ _ us hl => match us, hl with | [_, _, _], _ => rfl) fun cdv A outer s H E hr tk hp =>
    (sx_cons (sx_if (et_val (ex_c1 c_is_below tk hr (by decide) (ea_cons (xv 2) (ea_cons (ex_con k_ONE) ea_nil)))) (sx_one (sx_ret (ex_tup (ea_cons (ex_tup (ea_cons (ex_tup ea_nil) (ea_cons ex_non ea_nil))) ea_nil)))) sx_nil)
    (sx_cons (sx_set sc_bars_of.nd (ex_c1 c_noted tk hr (by decide) (ea_cons (ex_c1 c_fitting_sets tk hr (by decide) (ea_cons (xv 0) (ea_cons (xv 1) (ea_cons (xv 2) ea_nil)))) ea_nil)))
    (sx_cons (sx_set sc_bars_of.nd (ex_lst ea_nil))
    (sx_cons (sx_for hp (by rfl) (ei_ex (ex_callB (c_sorted (by rfl) hr.units65) (by rfl) z_sorted bt_sorted (ea_cons (ex_c1 c_all_sets tk hr (by decide) (ea_cons (ex_callB c_len (by rfl) z_len bt_len (ea_cons (xv 1) ea_nil)) ea_nil)) ea_nil))) (eg_name sc_bars_of.nd) (sx_one (sx_if (Ew.et (ew_and (et_cmp (m_notin hr.units65) (xv 5) (xv 3) (by rfl)) (ew_and1 (et_val (ex_c1 c_is_least tk hr (by decide) (ea_cons (xv 3) (ea_cons (xv 5) ea_nil))))))) (sx_one (sx_expr (ex_m PySem.F.plainAttrs_list PySem.F.slot_list_append PySem.F.type_list_append me_append (xv 4) (ea_cons (ex_tup (ea_cons (xv 5) (ea_cons (ex_c1 c_first_burst tk hr (by decide) (ea_cons (xv 0) (ea_cons (xv 1) (ea_cons (xv 2) (ea_cons (xv 5) ea_nil))))) ea_nil))) ea_nil)))) sx_nil)))
    (sx_one (sx_ret (ex_callT c_tuple (by rfl) z_tuple bt_tuple (ea_cons (xv 4) ea_nil))))))))
def N_gain_of : List PySem.Str := ["gains", "chosen", "number"]
theorem sc_gain_of : FnScope N_gain_of ["gains", "chosen"] (defScope s_gain_of) := ⟨rfl, rfl, rfl, by decide +kernel, rfl, by decide +kernel, by decide +kernel⟩
def m_gain_of : SM := (sRet (eCS gSum (lComp [2] (iEx (eVar 1)) (gN 2) tYes (eBin oIx (eVar 0) (eVar 2)))))
theorem ok_gain_of {P : Program} {w : World} {K : PySem.W.Frag} {mg : PySem.Str → Option Value} {base : Heap} {f : Addr} {fd : FuncData} (F : FnP K "gain_of" s_gain_of f fd) (gx : mg "gain_of" = some (.ref f)) (z_sum : mg "sum" = none) :
    Cal P w K mg base "gain_of" 1 ["gains", "chosen"] (runB 3 (m_gain_of)) :=
  cal_mk (k := 0) F sc_gain_of gx (fun _ _ _ _ _ _ us hl => match us, hl with | [_, _], _ => rfl) fun cdv A outer s H E hr tk hp =>
    (sx_one (sx_ret (ex_callBs (s_sum (by rfl)) (by rfl) z_sum bt_sum (es_el (el_comp (own := [(("number" : PySem.Str), 2)]) (by rfl) sc_gain_of.nd (ei_ex (xv 1)) (blkOk_by (N := N_gain_of) (sc := (defScope s_gain_of)) (by decide +kernel)) (fun _ _ _ _ _ => (eg_name sc_gain_of.nd)) (fun _ _ _ _ _ => ets_nil) (fun _ _ _ _ _ => (ex_ix (m_ix hr.units65) (xv 0) (xv 2))))))))
def N_best_set : List PySem.Str := ["near", "questions", "budget", "gains", "best", "chosen"]
theorem sc_best_set : FnScope N_best_set ["near", "questions", "budget", "gains"] (defScope s_best_set) := ⟨rfl, rfl, rfl, by decide +kernel, rfl, by decide +kernel, by decide +kernel⟩
def m_best_set (f_fitting_sets : FM) (f_gain_of : FM) : SM := (sSeq (sSet 4 (eC .non))
    (sSeq (sFor (iEx (eCall 3 f_fitting_sets (aCons (eVar 0) (aCons (eVar 1) (aCons (eVar 2) aNil))))) (gN 5) (sIf (tOr (tBl (eBin oIs (eVar 4) (eC .non))) (tBl (eBin oGt (eCall 2 f_gain_of (aCons (eVar 3) (aCons (eVar 5) aNil))) (eCall 2 f_gain_of (aCons (eVar 3) (aCons (eVar 4) aNil)))))) (sSet 4 (eVar 5)) sNil))
    (sRet (eVar 4))))
theorem ok_best_set {P : Program} {w : World} {K : PySem.W.Frag} {mg : PySem.Str → Option Value} {base : Heap} {f : Addr} {fd : FuncData} {f_fitting_sets f_gain_of : FM} (F : FnP K "best_set" s_best_set f fd) (gx : mg "best_set" = some (.ref f)) (c_fitting_sets : Cal P w K mg base "fitting_sets" 6 ["near", "questions", "budget"] f_fitting_sets) (c_gain_of : Cal P w K mg base "gain_of" 1 ["gains", "chosen"] f_gain_of) :
    Cal P w K mg base "best_set" 7 ["near", "questions", "budget", "gains"] (runB 6 (m_best_set f_fitting_sets f_gain_of)) :=
  cal_mk (k := 6) F sc_best_set gx (fun _ _ _ _ _ _ us hl => match us, hl with | [_, _, _, _], _ => rfl) fun cdv A outer s H E hr tk hp =>
    (sx_cons (sx_set sc_best_set.nd ex_non)
    (sx_cons (sx_for hp (by rfl) (ei_ex (ex_c1 c_fitting_sets tk hr (by decide) (ea_cons (xv 0) (ea_cons (xv 1) (ea_cons (xv 2) ea_nil))))) (eg_name sc_best_set.nd) (sx_one (sx_if (Ew.et (ew_or (et_cmp m_is (xv 4) ex_non (nomark _)) (ew_or1 (et_cmp m_gt (ex_c1 c_gain_of tk hr (by decide) (ea_cons (xv 3) (ea_cons (xv 5) ea_nil))) (ex_c1 c_gain_of tk hr (by decide) (ea_cons (xv 3) (ea_cons (xv 4) ea_nil))) (nomark _))))) (sx_one (sx_set sc_best_set.nd (xv 5))) sx_nil)))
    (sx_one (sx_ret (xv 4)))))
def N__law_begin : List PySem.Str := ["script", "cell"]
theorem sc__law_begin : FnScope N__law_begin ["script"] (defScope s__law_begin) := ⟨rfl, rfl, rfl, by decide +kernel, rfl, by decide +kernel, by decide +kernel⟩
def m__law_begin : SM := (sRet (eLst (aCons (eEl (lComp [1] (iEx (eVar 0)) (gN 1) tYes (eCB fInt (aCons (eVar 1) aNil)))) (aCons (eC (.int 0)) (aCons (eC (.int 0)) (aCons (eC (.int 7)) aNil))))))
theorem ok__law_begin {P : Program} {w : World} {K : PySem.W.Frag} {mg : PySem.Str → Option Value} {base : Heap} {f : Addr} {fd : FuncData} (F : FnP K "_law_begin" s__law_begin f fd) (gx : mg "_law_begin" = some (.ref f)) (z_int : mg "int" = none) :
    Cal P w K mg base "_law_begin" 1 ["script"] (runB 2 (m__law_begin)) :=
  cal_mk (k := 0) F sc__law_begin gx (fun _ _ _ _ _ _ us hl => match us, hl with | [_], _ => rfl) fun cdv A outer s H E hr tk hp =>
    (sx_one (sx_ret (ex_lst (ea_cons (ex_el (el_comp (own := [(("cell" : PySem.Str), 1)]) (by rfl) sc__law_begin.nd (ei_ex (xv 0)) (blkOk_by (N := N__law_begin) (sc := (defScope s__law_begin)) (by decide +kernel)) (fun _ _ _ _ _ => (eg_name sc__law_begin.nd)) (fun _ _ _ _ _ => ets_nil) (fun _ _ _ _ _ => (ex_callT c_int (by rfl) z_int bt_int (ea_cons (xv 1) ea_nil))))) (ea_cons ex_int (ea_cons ex_int (ea_cons ex_int ea_nil)))))))
def N__law_draw : List PySem.Str := ["d", "many", "found", "size", "cell"]
theorem sc__law_draw : FnScope N__law_draw ["d", "many"] (defScope s__law_draw) := ⟨rfl, rfl, rfl, by decide +kernel, rfl, by decide +kernel, by decide +kernel⟩
def m__law_draw : SM := (sSeq (sIf (tBl (eBin oGt (eBin oIx (eVar 0) (eC (.int 2))) (eC (.int 0)))) (sSeq (sSet 2 (eBin oIx (eVar 0) (eC (.int 2))))
    (sSeq (sSub (eVar 0) (eC (.int 2)) (eBin oDiv (eVar 2) (eVar 1)))
    (sRet (eBin oMod (eCB fInt (aCons (eVar 2) aNil)) (eVar 1))))) sNil)
    (sSeq (sSet 3 (eC (.int 0)))
    (sSeq (sIf (tBl (eBin oLt (eBin oIx (eVar 0) (eC (.int 1))) (eCB fLen (aCons (eBin oIx (eVar 0) (eC (.int 0))) aNil)))) (sSeq (sSet 4 (eBin oIx (eBin oIx (eVar 0) (eC (.int 0))) (eBin oIx (eVar 0) (eC (.int 1)))))
    (sSet 3 (eBin oAdd (eBin oMul (eC (.int 2)) (eCB fAbs (aCons (eVar 4) aNil))) (eCB fInt (aCons (eBin oLt (eVar 4) (eC (.int 0))) aNil))))) sNil)
    (sSeq (sAugS oIAdd (eVar 0) (eC (.int 1)) (eC (.int 1)))
    (sSeq (sIf (tBl (eBin oGe (eVar 3) (eBin oMul (eC (.int 2)) (eBin oPow (eC (.int 10)) (eC (.int 18)))))) (sSeq (sSet 2 (eBin oMod (eCB fInt (aCons (eBin oDiv (eVar 3) (eC (.int 2))) aNil)) (eBin oShl (eC (.int 1)) (eC (.int 6000)))))
    (sSeq (sSub (eVar 0) (eC (.int 2)) (eBin oDiv (eVar 2) (eVar 1)))
    (sRet (eBin oMod (eCB fInt (aCons (eVar 2) aNil)) (eVar 1))))) sNil)
    (sSeq (sSub (eVar 0) (eC (.int 3)) (eBin oMod (eCB fInt (aCons (eBin oAdd (eBin oAdd (eBin oAdd (eBin oMul (eBin oIx (eVar 0) (eC (.int 3))) (eC (.int 48271))) (eBin oMul (eBin oMod (eCB fInt (aCons (eVar 3) aNil)) (eC (.int 2147483629))) (eC (.int 16807)))) (eBin oMul (eBin oIx (eVar 0) (eC (.int 1))) (eC (.int 69621)))) (eC (.int 11))) aNil)) (eC (.int 2147483647))))
    (sRet (eBin oMod (eCB fInt (aCons (eBin oDiv (eBin oIx (eVar 0) (eC (.int 3))) (eC (.int 16))) aNil)) (eVar 1)))))))))
theorem ok__law_draw {P : Program} {w : World} {K : PySem.W.Frag} {mg : PySem.Str → Option Value} {base : Heap} {f : Addr} {fd : FuncData} (F : FnP K "_law_draw" s__law_draw f fd) (gx : mg "_law_draw" = some (.ref f)) (z_int : mg "int" = none) (z_len : mg "len" = none) (z_abs : mg "abs" = none) :
    Cal P w K mg base "_law_draw" 1 ["d", "many"] (runB 5 (m__law_draw)) :=
  cal_mk (k := 0) F sc__law_draw gx (fun _ _ _ _ _ _ us hl => match us, hl with | [_, _], _ => rfl) fun cdv A outer s H E hr tk hp =>
    (sx_cons (sx_if (et_cmp m_gt (ex_ix (m_ix hr.units65) (xv 0) ex_int) ex_int (nomark _)) (sx_cons (sx_set sc__law_draw.nd (ex_ix (m_ix hr.units65) (xv 0) ex_int))
    (sx_cons (sx_sub hr.units65 (ex_op m_div (xv 2) (xv 1)) (xv 0) ex_int)
    (sx_one (sx_ret (ex_op m_mod (ex_callT c_int (by rfl) z_int bt_int (ea_cons (xv 2) ea_nil)) (xv 1)))))) sx_nil)
    (sx_cons (sx_set sc__law_draw.nd ex_int)
    (sx_cons (sx_if (et_cmp (m_lt hr.units65) (ex_ix (m_ix hr.units65) (xv 0) ex_int) (ex_callB c_len (by rfl) z_len bt_len (ea_cons (ex_ix (m_ix hr.units65) (xv 0) ex_int) ea_nil)) (nomark _)) (sx_cons (sx_set sc__law_draw.nd (ex_ix (m_ix hr.units65) (ex_ix (m_ix hr.units65) (xv 0) ex_int) (ex_ix (m_ix hr.units65) (xv 0) ex_int)))
    (sx_one (sx_set sc__law_draw.nd (ex_op m_add (ex_op m_mul ex_int (ex_callB c_abs (by rfl) z_abs bt_abs (ea_cons (xv 4) ea_nil))) (ex_callT c_int (by rfl) z_int bt_int (ea_cons (ex_cmp (m_lt hr.units65) (xv 4) ex_int (nomark _)) ea_nil)))))) sx_nil)
    (sx_cons (sx_augS hr.units65 (xv 0) ex_int ex_int mi_add)
    (sx_cons (sx_if (et_cmp m_ge (xv 3) (ex_op m_mul ex_int (ex_op m_pow ex_int ex_int)) (nomark _)) (sx_cons (sx_set sc__law_draw.nd (ex_op m_mod (ex_callT c_int (by rfl) z_int bt_int (ea_cons (ex_op m_div (xv 3) ex_int) ea_nil)) (ex_op m_shl ex_int ex_int)))
    (sx_cons (sx_sub hr.units65 (ex_op m_div (xv 2) (xv 1)) (xv 0) ex_int)
    (sx_one (sx_ret (ex_op m_mod (ex_callT c_int (by rfl) z_int bt_int (ea_cons (xv 2) ea_nil)) (xv 1)))))) sx_nil)
    (sx_cons (sx_sub hr.units65 (ex_op m_mod (ex_callT c_int (by rfl) z_int bt_int (ea_cons (ex_op m_add (ex_op m_add (ex_op m_add (ex_op m_mul (ex_ix (m_ix hr.units65) (xv 0) ex_int) ex_int) (ex_op m_mul (ex_op m_mod (ex_callT c_int (by rfl) z_int bt_int (ea_cons (xv 3) ea_nil)) ex_int) ex_int)) (ex_op m_mul (ex_ix (m_ix hr.units65) (xv 0) ex_int) ex_int)) ex_int) ea_nil)) ex_int) (xv 0) ex_int)
    (sx_one (sx_ret (ex_op m_mod (ex_callT c_int (by rfl) z_int bt_int (ea_cons (ex_op m_div (ex_ix (m_ix hr.units65) (xv 0) ex_int) ex_int) ea_nil)) (xv 1))))))))))
def N__law_pick : List PySem.Str := ["d", "row"]
theorem sc__law_pick : FnScope N__law_pick ["d", "row"] (defScope s__law_pick) := ⟨rfl, rfl, rfl, by decide +kernel, rfl, by decide +kernel, by decide +kernel⟩
def m__law_pick (f__law_draw : FM) : SM := (sRet (eBin oIx (eVar 1) (eCall 2 f__law_draw (aCons (eVar 0) (aCons (eCB fLen (aCons (eVar 1) aNil)) aNil)))))
theorem ok__law_pick {P : Program} {w : World} {K : PySem.W.Frag} {mg : PySem.Str → Option Value} {base : Heap} {f : Addr} {fd : FuncData} {f__law_draw : FM} (F : FnP K "_law_pick" s__law_pick f fd) (gx : mg "_law_pick" = some (.ref f)) (c__law_draw : Cal P w K mg base "_law_draw" 1 ["d", "many"] f__law_draw) (z_len : mg "len" = none) :
    Cal P w K mg base "_law_pick" 2 ["d", "row"] (runB 2 (m__law_pick f__law_draw)) :=
  cal_mk (k := 1) F sc__law_pick gx (fun _ _ _ _ _ _ us hl => match us, hl with | [_, _], _ => rfl) fun cdv A outer s H E hr tk hp =>
    (sx_one (sx_ret (ex_ix (m_ix hr.units65) (xv 1) (ex_c1 c__law_draw tk hr (by decide) (ea_cons (xv 0) (ea_cons (ex_callB c_len (by rfl) z_len bt_len (ea_cons (xv 1) ea_nil)) ea_nil))))))
def N__law_rare : List PySem.Str := ["d", "many"]
theorem sc__law_rare : FnScope N__law_rare ["d", "many"] (defScope s__law_rare) := ⟨rfl, rfl, rfl, by decide +kernel, rfl, by decide +kernel, by decide +kernel⟩
def m__law_rare (f__law_draw : FM) : SM := (sRet (eBin oEq (eCall 2 f__law_draw (aCons (eVar 0) (aCons (eVar 1) aNil))) (eBin oDiv (eVar 1) (eC (.int 2)))))
theorem ok__law_rare {P : Program} {w : World} {K : PySem.W.Frag} {mg : PySem.Str → Option Value} {base : Heap} {f : Addr} {fd : FuncData} {f__law_draw : FM} (F : FnP K "_law_rare" s__law_rare f fd) (gx : mg "_law_rare" = some (.ref f)) (c__law_draw : Cal P w K mg base "_law_draw" 1 ["d", "many"] f__law_draw) :
    Cal P w K mg base "_law_rare" 2 ["d", "many"] (runB 2 (m__law_rare f__law_draw)) :=
  cal_mk (k := 1) F sc__law_rare gx (fun _ _ _ _ _ _ us hl => match us, hl with | [_, _], _ => rfl) fun cdv A outer s H E hr tk hp =>
    (sx_one (sx_ret (ex_cmp (m_eq hr.units) (ex_c1 c__law_draw tk hr (by decide) (ea_cons (xv 0) (ea_cons (xv 1) ea_nil))) (ex_op m_div (xv 1) ex_int) (nomark _))))
def N__law_is_int : List PySem.Str := ["thing"]
theorem sc__law_is_int : FnScope N__law_is_int ["thing"] (defScope s__law_is_int) := ⟨rfl, rfl, rfl, by decide +kernel, rfl, by decide +kernel, by decide +kernel⟩
def m__law_is_int : SM := (sRet (eAnd (eCB fIsi (aCons (eVar 0) (aCons (eC (.ty "int")) aNil))) (eNot (eCB fIsi (aCons (eVar 0) (aCons (eC (.ty "bool")) aNil))))))
theorem ok__law_is_int {P : Program} {w : World} {K : PySem.W.Frag} {mg : PySem.Str → Option Value} {base : Heap} {f : Addr} {fd : FuncData} (F : FnP K "_law_is_int" s__law_is_int f fd) (gx : mg "_law_is_int" = some (.ref f)) (z_int : mg "int" = none) (z_isinstance : mg "isinstance" = none) (z_bool : mg "bool" = none) :
    Cal P w K mg base "_law_is_int" 1 ["thing"] (runB 1 (m__law_is_int)) :=
  cal_mk (k := 0) F sc__law_is_int gx (fun _ _ _ _ _ _ us hl => match us, hl with | [_], _ => rfl) fun cdv A outer s H E hr tk hp =>
    (sx_one (sx_ret (ex_and (ex_callB c_isi (by rfl) z_isinstance bt_isinstance (ea_cons (xv 0) (ea_cons (ex_bltn (by rfl) z_int bt_int (by rfl) (fun _ _ => .ty _)) ea_nil))) (ex_one (ex_not (ex_callB c_isi (by rfl) z_isinstance bt_isinstance (ea_cons (xv 0) (ea_cons (ex_bltn (by rfl) z_bool bt_bool (by rfl) (fun _ _ => .ty _)) ea_nil))))))))
def N__law_is_ints : List PySem.Str := ["row", "part"]
theorem sc__law_is_ints : FnScope N__law_is_ints ["row"] (defScope s__law_is_ints) := ⟨rfl, rfl, rfl, by decide +kernel, rfl, by decide +kernel, by decide +kernel⟩
def m__law_is_ints (f__law_is_int : FM) : SM := (sRet (eAnd (eCB fIsi (aCons (eVar 0) (aCons (eC (.ty "tuple")) aNil))) (eCS gAllB (lComp [1] (iEx (eVar 0)) (gN 1) tYes (eCall 1 f__law_is_int (aCons (eVar 1) aNil))))))
theorem ok__law_is_ints {P : Program} {w : World} {K : PySem.W.Frag} {mg : PySem.Str → Option Value} {base : Heap} {f : Addr} {fd : FuncData} {f__law_is_int : FM} (F : FnP K "_law_is_ints" s__law_is_ints f fd) (gx : mg "_law_is_ints" = some (.ref f)) (c__law_is_int : Cal P w K mg base "_law_is_int" 1 ["thing"] f__law_is_int) (z_tuple : mg "tuple" = none) (z_isinstance : mg "isinstance" = none) (z_all : mg "all" = none) :
    Cal P w K mg base "_law_is_ints" 2 ["row"] (runB 2 (m__law_is_ints f__law_is_int)) :=
  cal_mk (k := 1) F sc__law_is_ints gx (fun _ _ _ _ _ _ us hl => match us, hl with | [_], _ => rfl) fun cdv A outer s H E hr tk hp =>
    (sx_one (sx_ret (ex_and (ex_callB c_isi (by rfl) z_isinstance bt_isinstance (ea_cons (xv 0) (ea_cons (ex_bltn (by rfl) z_tuple bt_tuple (by rfl) (fun _ _ => .ty _)) ea_nil))) (ex_one (ex_callBl (s_all (by rfl)) (by rfl) z_all bt_all (esl_el (el_comp (own := [(("part" : PySem.Str), 1)]) (by rfl) sc__law_is_ints.nd (ei_ex (xv 0)) (blkOk_by (N := N__law_is_ints) (sc := (defScope s__law_is_ints)) (by decide +kernel)) (fun _ _ _ _ _ => (eg_name sc__law_is_ints.nd)) (fun _ _ _ _ _ => ets_nil) (fun _ _ _ _ _ => (ex_c1 c__law_is_int tk0 hr (by decide) (ea_cons (xv 1) ea_nil))))))))))
def N__law_is_rows : List PySem.Str := ["rows", "size", "row"]
theorem sc__law_is_rows : FnScope N__law_is_rows ["rows", "size"] (defScope s__law_is_rows) := ⟨rfl, rfl, rfl, by decide +kernel, rfl, by decide +kernel, by decide +kernel⟩
def m__law_is_rows : SM := (sSeq (sIf (HM.tNot (tVal (eCB fIsi (aCons (eVar 0) (aCons (eC (.ty "tuple")) aNil))))) (sRet (eC (.bl false))) sNil)
    (sRet (eCS gAllB (lComp [2] (iEx (eVar 0)) (gN 2) tYes (eAnd (eCB fIsi (aCons (eVar 2) (aCons (eC (.ty "tuple")) aNil))) (eBin oEq (eCB fLen (aCons (eVar 2) aNil)) (eVar 1)))))))
theorem ok__law_is_rows {P : Program} {w : World} {K : PySem.W.Frag} {mg : PySem.Str → Option Value} {base : Heap} {f : Addr} {fd : FuncData} (F : FnP K "_law_is_rows" s__law_is_rows f fd) (gx : mg "_law_is_rows" = some (.ref f)) (z_tuple : mg "tuple" = none) (z_isinstance : mg "isinstance" = none) (z_len : mg "len" = none) (z_all : mg "all" = none) :
    Cal P w K mg base "_law_is_rows" 1 ["rows", "size"] (runB 3 (m__law_is_rows)) :=
  cal_mk (k := 0) F sc__law_is_rows gx (fun _ _ _ _ _ _ us hl => match us, hl with | [_, _], _ => rfl) fun cdv A outer s H E hr tk hp =>
    (sx_cons (sx_if (et_not (et_val (ex_callB c_isi (by rfl) z_isinstance bt_isinstance (ea_cons (xv 0) (ea_cons (ex_bltn (by rfl) z_tuple bt_tuple (by rfl) (fun _ _ => .ty _)) ea_nil))))) (sx_one (sx_ret ex_bl)) sx_nil)
    (sx_one (sx_ret (ex_callBl (s_all (by rfl)) (by rfl) z_all bt_all (esl_el (el_comp (own := [(("row" : PySem.Str), 2)]) (by rfl) sc__law_is_rows.nd (ei_ex (xv 0)) (blkOk_by (N := N__law_is_rows) (sc := (defScope s__law_is_rows)) (by decide +kernel)) (fun _ _ _ _ _ => (eg_name sc__law_is_rows.nd)) (fun _ _ _ _ _ => ets_nil) (fun _ _ _ _ _ => (ex_and (ex_callB c_isi (by rfl) z_isinstance bt_isinstance (ea_cons (xv 2) (ea_cons (ex_bltn (by rfl) z_tuple bt_tuple (by rfl) (fun _ _ => .ty _)) ea_nil))) (ex_one (ex_cmp (m_eq hr.units) (ex_callB c_len (by rfl) z_len bt_len (ea_cons (xv 2) ea_nil)) (xv 1) (nomark _)))))))))))
def N__law_gcd : List PySem.Str := ["left", "right", "a", "b", "c"]
theorem sc__law_gcd : FnScope N__law_gcd ["left", "right"] (defScope s__law_gcd) := ⟨rfl, rfl, rfl, by decide +kernel, rfl, by decide +kernel, by decide +kernel⟩
def m__law_gcd : SM := (sSeq (sSet 2 (eCB fAbs (aCons (eVar 0) aNil)))
    (sSeq (sSet 3 (eCB fAbs (aCons (eVar 1) aNil)))
    (sSeq (whileN (tBl (eBin oGt (eVar 3) (eC (.int 0)))) (sSeq (sSet 4 (eBin oMod (eCB fInt (aCons (eVar 2) aNil)) (eVar 3)))
    (sSeq (sSet 2 (eVar 3))
    (sSet 3 (eVar 4)))) big)
    (sRet (eVar 2)))))
theorem ok__law_gcd {P : Program} {w : World} {K : PySem.W.Frag} {mg : PySem.Str → Option Value} {base : Heap} {f : Addr} {fd : FuncData} (F : FnP K "_law_gcd" s__law_gcd f fd) (gx : mg "_law_gcd" = some (.ref f)) (z_abs : mg "abs" = none) (z_int : mg "int" = none) :
    Cal P w K mg base "_law_gcd" 1 ["left", "right"] (runB 5 (m__law_gcd)) :=
  cal_mk (k := 0) F sc__law_gcd gx (fun _ _ _ _ _ _ us hl => match us, hl with | [_, _], _ => rfl) fun cdv A outer s H E hr tk hp =>
    (sx_cons (sx_set sc__law_gcd.nd (ex_callB c_abs (by rfl) z_abs bt_abs (ea_cons (xv 0) ea_nil)))
    (sx_cons (sx_set sc__law_gcd.nd (ex_callB c_abs (by rfl) z_abs bt_abs (ea_cons (xv 1) ea_nil)))
    (sx_cons (sx_while big hp (et_cmp m_gt (xv 3) ex_int (nomark _)) (sx_cons (sx_set sc__law_gcd.nd (ex_op m_mod (ex_callT c_int (by rfl) z_int bt_int (ea_cons (xv 2) ea_nil)) (xv 3)))
    (sx_cons (sx_set sc__law_gcd.nd (xv 3))
    (sx_one (sx_set sc__law_gcd.nd (xv 4))))))
    (sx_one (sx_ret (xv 2))))))
def N__law_f : List PySem.Str := ["n", "d", "common"]
theorem sc__law_f : FnScope N__law_f ["n", "d"] (defScope s__law_f) := ⟨rfl, rfl, rfl, by decide +kernel, rfl, by decide +kernel, by decide +kernel⟩
def m__law_f (f__law_gcd : FM) : SM := (sSeq (sSet 2 (eCall 2 f__law_gcd (aCons (eVar 0) (aCons (eVar 1) aNil))))
    (sSeq (sIf (tBl (eBin oLt (eVar 1) (eC (.int 0)))) (sSet 2 (eUn oNeg (eVar 2))) sNil)
    (sRet (eTup (aCons (eBin oDiv (eVar 0) (eVar 2)) (aCons (eBin oDiv (eVar 1) (eVar 2)) aNil))))))
theorem ok__law_f {P : Program} {w : World} {K : PySem.W.Frag} {mg : PySem.Str → Option Value} {base : Heap} {f : Addr} {fd : FuncData} {f__law_gcd : FM} (F : FnP K "_law_f" s__law_f f fd) (gx : mg "_law_f" = some (.ref f)) (c__law_gcd : Cal P w K mg base "_law_gcd" 1 ["left", "right"] f__law_gcd) :
    Cal P w K mg base "_law_f" 2 ["n", "d"] (runB 3 (m__law_f f__law_gcd)) :=
  cal_mk (k := 1) F sc__law_f gx (fun _ _ _ _ _ _ us hl => match us, hl with | [_, _], _ => rfl) fun cdv A outer s H E hr tk hp =>
    (sx_cons (sx_set sc__law_f.nd (ex_c1 c__law_gcd tk hr (by decide) (ea_cons (xv 0) (ea_cons (xv 1) ea_nil))))
    (sx_cons (sx_if (et_cmp (m_lt hr.units65) (xv 1) ex_int (nomark _)) (sx_one (sx_set sc__law_f.nd (ex_un m_neg (xv 2)))) sx_nil)
    (sx_one (sx_ret (ex_tup (ea_cons (ex_op m_div (xv 0) (xv 2)) (ea_cons (ex_op m_div (xv 1) (xv 2)) ea_nil)))))))
def N__law_plus : List PySem.Str := ["x", "y"]
theorem sc__law_plus : FnScope N__law_plus ["x", "y"] (defScope s__law_plus) := ⟨rfl, rfl, rfl, by decide +kernel, rfl, by decide +kernel, by decide +kernel⟩
def m__law_plus (f__law_f : FM) : SM := (sRet (eCall 2 f__law_f (aCons (eBin oAdd (eBin oMul (eBin oIx (eVar 0) (eC (.int 0))) (eBin oIx (eVar 1) (eC (.int 1)))) (eBin oMul (eBin oIx (eVar 1) (eC (.int 0))) (eBin oIx (eVar 0) (eC (.int 1))))) (aCons (eBin oMul (eBin oIx (eVar 0) (eC (.int 1))) (eBin oIx (eVar 1) (eC (.int 1)))) aNil))))
theorem ok__law_plus {P : Program} {w : World} {K : PySem.W.Frag} {mg : PySem.Str → Option Value} {base : Heap} {f : Addr} {fd : FuncData} {f__law_f : FM} (F : FnP K "_law_plus" s__law_plus f fd) (gx : mg "_law_plus" = some (.ref f)) (c__law_f : Cal P w K mg base "_law_f" 2 ["n", "d"] f__law_f) :
    Cal P w K mg base "_law_plus" 3 ["x", "y"] (runB 2 (m__law_plus f__law_f)) :=
  cal_mk (k := 2) F sc__law_plus gx (fun _ _ _ _ _ _ us hl => match us, hl with | [_, _], _ => rfl) fun cdv A outer s H E hr tk hp =>
    (sx_one (sx_ret (ex_c1 c__law_f tk hr (by decide) (ea_cons (ex_op m_add (ex_op m_mul (ex_ix (m_ix hr.units65) (xv 0) ex_int) (ex_ix (m_ix hr.units65) (xv 1) ex_int)) (ex_op m_mul (ex_ix (m_ix hr.units65) (xv 1) ex_int) (ex_ix (m_ix hr.units65) (xv 0) ex_int))) (ea_cons (ex_op m_mul (ex_ix (m_ix hr.units65) (xv 0) ex_int) (ex_ix (m_ix hr.units65) (xv 1) ex_int)) ea_nil)))))
def N__law_minus : List PySem.Str := ["x", "y"]
theorem sc__law_minus : FnScope N__law_minus ["x", "y"] (defScope s__law_minus) := ⟨rfl, rfl, rfl, by decide +kernel, rfl, by decide +kernel, by decide +kernel⟩
def m__law_minus (f__law_f : FM) : SM := (sRet (eCall 2 f__law_f (aCons (eBin oSub (eBin oMul (eBin oIx (eVar 0) (eC (.int 0))) (eBin oIx (eVar 1) (eC (.int 1)))) (eBin oMul (eBin oIx (eVar 1) (eC (.int 0))) (eBin oIx (eVar 0) (eC (.int 1))))) (aCons (eBin oMul (eBin oIx (eVar 0) (eC (.int 1))) (eBin oIx (eVar 1) (eC (.int 1)))) aNil))))
theorem ok__law_minus {P : Program} {w : World} {K : PySem.W.Frag} {mg : PySem.Str → Option Value} {base : Heap} {f : Addr} {fd : FuncData} {f__law_f : FM} (F : FnP K "_law_minus" s__law_minus f fd) (gx : mg "_law_minus" = some (.ref f)) (c__law_f : Cal P w K mg base "_law_f" 2 ["n", "d"] f__law_f) :
    Cal P w K mg base "_law_minus" 3 ["x", "y"] (runB 2 (m__law_minus f__law_f)) :=
  cal_mk (k := 2) F sc__law_minus gx (fun _ _ _ _ _ _ us hl => match us, hl with | [_, _], _ => rfl) fun cdv A outer s H E hr tk hp =>
    (sx_one (sx_ret (ex_c1 c__law_f tk hr (by decide) (ea_cons (ex_op m_sub (ex_op m_mul (ex_ix (m_ix hr.units65) (xv 0) ex_int) (ex_ix (m_ix hr.units65) (xv 1) ex_int)) (ex_op m_mul (ex_ix (m_ix hr.units65) (xv 1) ex_int) (ex_ix (m_ix hr.units65) (xv 0) ex_int))) (ea_cons (ex_op m_mul (ex_ix (m_ix hr.units65) (xv 0) ex_int) (ex_ix (m_ix hr.units65) (xv 1) ex_int)) ea_nil)))))
def N__law_all_edits : List PySem.Str := ["kinds", "found", "k", "other"]
theorem sc__law_all_edits : FnScope N__law_all_edits ["kinds"] (defScope s__law_all_edits) := ⟨rfl, rfl, rfl, by decide +kernel, rfl, by decide +kernel, by decide +kernel⟩
def m__law_all_edits : SM := (sSeq (sSet 1 (eBin oAdd (eEl (lComp [2] (iRg1 (eVar 0)) (gN 2) tYes (eTup (aCons (eC (.str [99, 117, 116])) (aCons (eVar 2) aNil))))) (eEl (lComp [2] (iRg1 (eVar 0)) (gN 2) tYes (eTup (aCons (eC (.str [112, 117, 116])) (aCons (eVar 2) aNil)))))))
    (sSeq (sFor (iRg1 (eVar 0)) (gN 2) (sExpr (eM "list" mExtend (eVar 1) (aCons (eEl (lComp [3] (iRg1 (eVar 0)) (gN 3) (tBl (eBin oNe (eVar 3) (eVar 2))) (eTup (aCons (eC (.str [116, 117, 114, 110])) (aCons (eVar 2) (aCons (eVar 3) aNil)))))) aNil))))
    (sRet (eCB fTuple (aCons (eVar 1) aNil)))))
theorem ok__law_all_edits {P : Program} {w : World} {K : PySem.W.Frag} {mg : PySem.Str → Option Value} {base : Heap} {f : Addr} {fd : FuncData} (F : FnP K "_law_all_edits" s__law_all_edits f fd) (gx : mg "_law_all_edits" = some (.ref f)) (z_range : mg "range" = none) (z_tuple : mg "tuple" = none) :
    Cal P w K mg base "_law_all_edits" 1 ["kinds"] (runB 4 (m__law_all_edits)) :=
  cal_mk (k := 0) F sc__law_all_edits gx (fun _ _ _ _ _ _ us hl => match us, hl with | [_], _ => rfl) fun cdv A outer s H E hr tk hp =>
    (sx_cons (sx_set sc__law_all_edits.nd (ex_op m_add (ex_el (el_comp (own := [(("k" : PySem.Str), 2)]) (by rfl) sc__law_all_edits.nd (ei_range1 (by rfl) z_range (xv 0)) (blkOk_by (N := N__law_all_edits) (sc := (defScope s__law_all_edits)) (by decide +kernel)) (fun _ _ _ _ _ => (eg_name sc__law_all_edits.nd)) (fun _ _ _ _ _ => ets_nil) (fun _ _ _ _ _ => (ex_tup (ea_cons (ex_strc [99, 117, 116] (by decide +kernel)) (ea_cons (xv 2) ea_nil)))))) (ex_el (el_comp (own := [(("k" : PySem.Str), 2)]) (by rfl) sc__law_all_edits.nd (ei_range1 (by rfl) z_range (xv 0)) (blkOk_by (N := N__law_all_edits) (sc := (defScope s__law_all_edits)) (by decide +kernel)) (fun _ _ _ _ _ => (eg_name sc__law_all_edits.nd)) (fun _ _ _ _ _ => ets_nil) (fun _ _ _ _ _ => (ex_tup (ea_cons (ex_strc [112, 117, 116] (by decide +kernel)) (ea_cons (xv 2) ea_nil))))))))
    (sx_cons (sx_for hp (by rfl) (ei_range1 (by rfl) z_range (xv 0)) (eg_name sc__law_all_edits.nd) (sx_one (sx_expr (ex_m PySem.F.plainAttrs_list PySem.F.slot_list_extend PySem.F.type_list_extend me_extend (xv 1) (ea_cons (ex_el (el_comp (own := [(("other" : PySem.Str), 3)]) (by rfl) sc__law_all_edits.nd (ei_range1 (by rfl) z_range (xv 0)) (blkOk_by (N := N__law_all_edits) (sc := (defScope s__law_all_edits)) (by decide +kernel)) (fun _ _ _ _ _ => (eg_name sc__law_all_edits.nd)) (fun _ _ _ _ _ => (ets_one (et_cmp (m_ne hr.units) (xv 3) (xv 2) (nomark _)))) (fun _ _ _ _ _ => (ex_tup (ea_cons (ex_strc [116, 117, 114, 110] (by decide +kernel)) (ea_cons (xv 2) (ea_cons (xv 3) ea_nil))))))) ea_nil)))))
    (sx_one (sx_ret (ex_callT c_tuple (by rfl) z_tuple bt_tuple (ea_cons (xv 1) ea_nil))))))
def N__law_near : List PySem.Str := ["d", "kinds", "whole", "style", "found", "edit"]
theorem sc__law_near : FnScope N__law_near ["d", "kinds"] (defScope s__law_near) := ⟨rfl, rfl, rfl, by decide +kernel, rfl, by decide +kernel, by decide +kernel⟩
def m__law_near (f__law_all_edits : FM) (f__law_draw : FM) : SM := (sSeq (sSet 2 (eCall 1 f__law_all_edits (aCons (eVar 1) aNil)))
    (sSeq (sSet 3 (eCall 2 f__law_draw (aCons (eVar 0) (aCons (eC (.int 5)) aNil))))
    (sSeq (sIf (tBl (eBin oEq (eVar 3) (eC (.int 0)))) (sRet (eVar 2)) sNil)
    (sSeq (sIf (tBl (eBin oEq (eVar 3) (eC (.int 1)))) (sRet (eCS gTuple (lComp [5] (iEx (eVar 2)) (gN 5) (tBl (eBin oNe (eBin oIx (eVar 5) (eC (.int 0))) (eC (.str [116, 117, 114, 110])))) (eVar 5)))) sNil)
    (sSeq (sIf (tBl (eBin oEq (eVar 3) (eC (.int 2)))) (sRet (eCS gTuple (lComp [5] (iEx (eVar 2)) (gN 5) (tBl (eBin oEq (eBin oIx (eVar 5) (eC (.int 0))) (eC (.str [116, 117, 114, 110])))) (eVar 5)))) sNil)
    (sSeq (sSet 4 (eLst aNil))
    (sSeq (sFor (iEx (eVar 2)) (gN 5) (sIf (tBl (eBin oLt (eCall 2 f__law_draw (aCons (eVar 0) (aCons (eC (.int 3)) aNil))) (eC (.int 2)))) (sExpr (eM "list" mAppend (eVar 4) (aCons (eVar 5) aNil))) sNil))
    (sRet (eCB fTuple (aCons (eVar 4) aNil))))))))))
theorem ok__law_near {P : Program} {w : World} {K : PySem.W.Frag} {mg : PySem.Str → Option Value} {base : Heap} {f : Addr} {fd : FuncData} {f__law_all_edits f__law_draw : FM} (F : FnP K "_law_near" s__law_near f fd) (gx : mg "_law_near" = some (.ref f)) (c__law_all_edits : Cal P w K mg base "_law_all_edits" 1 ["kinds"] f__law_all_edits) (c__law_draw : Cal P w K mg base "_law_draw" 1 ["d", "many"] f__law_draw) (z_tuple : mg "tuple" = none) :
    Cal P w K mg base "_law_near" 2 ["d", "kinds"] (runB 6 (m__law_near f__law_all_edits f__law_draw)) :=
  cal_mk (k := 1) F sc__law_near gx (fun _ _ _ _ _ _ us hl => match us, hl with | [_, _], _ => rfl) fun cdv A outer s H E hr tk hp =>
    (sx_cons (sx_set sc__law_near.nd (ex_c1 c__law_all_edits tk hr (by decide) (ea_cons (xv 1) ea_nil)))
    (sx_cons (sx_set sc__law_near.nd (ex_c1 c__law_draw tk hr (by decide) (ea_cons (xv 0) (ea_cons ex_int ea_nil))))
    (sx_cons (sx_if (et_cmp (m_eq hr.units) (xv 3) ex_int (nomark _)) (sx_one (sx_ret (xv 2))) sx_nil)
    (sx_cons (sx_if (et_cmp (m_eq hr.units) (xv 3) ex_int (nomark _)) (sx_one (sx_ret (ex_callTs s_tuple (by rfl) z_tuple bt_tuple (es_el (el_comp (own := [(("edit" : PySem.Str), 5)]) (by rfl) sc__law_near.nd (ei_ex (xv 2)) (blkOk_by (N := N__law_near) (sc := (defScope s__law_near)) (by decide +kernel)) (fun _ _ _ _ _ => (eg_name sc__law_near.nd)) (fun _ _ _ _ _ => (ets_one (et_cmp (m_ne hr.units) (ex_ix (m_ix hr.units65) (xv 5) ex_int) (ex_strc [116, 117, 114, 110] (by decide +kernel)) (nomark _)))) (fun _ _ _ _ _ => (xv 5))))))) sx_nil)
    (sx_cons (sx_if (et_cmp (m_eq hr.units) (xv 3) ex_int (nomark _)) (sx_one (sx_ret (ex_callTs s_tuple (by rfl) z_tuple bt_tuple (es_el (el_comp (own := [(("edit" : PySem.Str), 5)]) (by rfl) sc__law_near.nd (ei_ex (xv 2)) (blkOk_by (N := N__law_near) (sc := (defScope s__law_near)) (by decide +kernel)) (fun _ _ _ _ _ => (eg_name sc__law_near.nd)) (fun _ _ _ _ _ => (ets_one (et_cmp (m_eq hr.units) (ex_ix (m_ix hr.units65) (xv 5) ex_int) (ex_strc [116, 117, 114, 110] (by decide +kernel)) (nomark _)))) (fun _ _ _ _ _ => (xv 5))))))) sx_nil)
    (sx_cons (sx_set sc__law_near.nd (ex_lst ea_nil))
    (sx_cons (sx_for hp (by rfl) (ei_ex (xv 2)) (eg_name sc__law_near.nd) (sx_one (sx_if (et_cmp (m_lt hr.units65) (ex_c1 c__law_draw tk hr (by decide) (ea_cons (xv 0) (ea_cons ex_int ea_nil))) ex_int (nomark _)) (sx_one (sx_expr (ex_m PySem.F.plainAttrs_list PySem.F.slot_list_append PySem.F.type_list_append me_append (xv 4) (ea_cons (xv 5) ea_nil)))) sx_nil)))
    (sx_one (sx_ret (ex_callT c_tuple (by rfl) z_tuple bt_tuple (ea_cons (xv 4) ea_nil)))))))))))
def N__law_factor : List PySem.Str := ["d", "style", "below"]
theorem sc__law_factor : FnScope N__law_factor ["d", "style"] (defScope s__law_factor) := ⟨rfl, rfl, rfl, by decide +kernel, rfl, by decide +kernel, by decide +kernel⟩
def m__law_factor (f__law_pick : FM) (f__law_f : FM) (f__law_draw : FM) : SM := (sSeq (sIf (tBl (eBin oEq (eVar 1) (eC (.int 0)))) (sRet (eTup (aCons (eC (.int 2)) (aCons (eC (.int 1)) aNil)))) sNil)
    (sSeq (sIf (tBl (eBin oEq (eVar 1) (eC (.int 1)))) (sRet (eTup (aCons (eCall 2 f__law_pick (aCons (eVar 0) (aCons (eLst (aCons (eC (.int 1)) (aCons (eC (.int 2)) (aCons (eC (.int 4)) (aCons (eC (.int 8)) aNil))))) aNil))) (aCons (eC (.int 1)) aNil)))) sNil)
    (sSeq (sIf (tBl (eBin oEq (eVar 1) (eC (.int 2)))) (sRet (eCall 2 f__law_f (aCons (eBin oAdd (eBin oPow (eC (.int 10)) (eC (.int 40))) (eCall 2 f__law_draw (aCons (eVar 0) (aCons (eBin oPow (eC (.int 10)) (eC (.int 6))) aNil)))) (aCons (eBin oSub (eBin oPow (eC (.int 10)) (eC (.int 40))) (eCall 2 f__law_draw (aCons (eVar 0) (aCons (eBin oPow (eC (.int 10)) (eC (.int 6))) aNil)))) aNil)))) sNil)
    (sSeq (sSet 2 (eBin oAdd (eC (.int 1)) (eCall 2 f__law_draw (aCons (eVar 0) (aCons (eC (.int 5)) aNil)))))
    (sRet (eCall 2 f__law_f (aCons (eBin oAdd (eVar 2) (eCall 2 f__law_draw (aCons (eVar 0) (aCons (eC (.int 6)) aNil)))) (aCons (eVar 2) aNil))))))))
theorem ok__law_factor {P : Program} {w : World} {K : PySem.W.Frag} {mg : PySem.Str → Option Value} {base : Heap} {f : Addr} {fd : FuncData} {f__law_pick f__law_f f__law_draw : FM} (F : FnP K "_law_factor" s__law_factor f fd) (gx : mg "_law_factor" = some (.ref f)) (c__law_pick : Cal P w K mg base "_law_pick" 2 ["d", "row"] f__law_pick) (c__law_f : Cal P w K mg base "_law_f" 2 ["n", "d"] f__law_f) (c__law_draw : Cal P w K mg base "_law_draw" 1 ["d", "many"] f__law_draw) :
    Cal P w K mg base "_law_factor" 3 ["d", "style"] (runB 3 (m__law_factor f__law_pick f__law_f f__law_draw)) :=
  cal_mk (k := 2) F sc__law_factor gx (fun _ _ _ _ _ _ us hl => match us, hl with | [_, _], _ => rfl) fun cdv A outer s H E hr tk hp =>
    (sx_cons (sx_if (et_cmp (m_eq hr.units) (xv 1) ex_int (nomark _)) (sx_one (sx_ret (ex_tup (ea_cons ex_int (ea_cons ex_int ea_nil))))) sx_nil)
    (sx_cons (sx_if (et_cmp (m_eq hr.units) (xv 1) ex_int (nomark _)) (sx_one (sx_ret (ex_tup (ea_cons (ex_c1 c__law_pick tk hr (by decide) (ea_cons (xv 0) (ea_cons (ex_lst (ea_cons ex_int (ea_cons ex_int (ea_cons ex_int (ea_cons ex_int ea_nil))))) ea_nil))) (ea_cons ex_int ea_nil))))) sx_nil)
    (sx_cons (sx_if (et_cmp (m_eq hr.units) (xv 1) ex_int (nomark _)) (sx_one (sx_ret (ex_c1 c__law_f tk hr (by decide) (ea_cons (ex_op m_add (ex_op m_pow ex_int ex_int) (ex_c1 c__law_draw tk hr (by decide) (ea_cons (xv 0) (ea_cons (ex_op m_pow ex_int ex_int) ea_nil)))) (ea_cons (ex_op m_sub (ex_op m_pow ex_int ex_int) (ex_c1 c__law_draw tk hr (by decide) (ea_cons (xv 0) (ea_cons (ex_op m_pow ex_int ex_int) ea_nil)))) ea_nil))))) sx_nil)
    (sx_cons (sx_set sc__law_factor.nd (ex_op m_add ex_int (ex_c1 c__law_draw tk hr (by decide) (ea_cons (xv 0) (ea_cons ex_int ea_nil)))))
    (sx_one (sx_ret (ex_c1 c__law_f tk hr (by decide) (ea_cons (ex_op m_add (xv 2) (ex_c1 c__law_draw tk hr (by decide) (ea_cons (xv 0) (ea_cons ex_int ea_nil)))) (ea_cons (xv 2) ea_nil)))))))))
def N__law_poll : List PySem.Str := ["d", "kinds", "style", "counted", "kind"]
theorem sc__law_poll : FnScope N__law_poll ["d", "kinds", "style"] (defScope s__law_poll) := ⟨rfl, rfl, rfl, by decide +kernel, rfl, by decide +kernel, by decide +kernel⟩
def m__law_poll (f__law_draw : FM) (f__law_factor : FM) : SM := (sSeq (sSet 3 (eCS gTuple (lComp [4] (iRg1 (eVar 1)) (gN 4) (tBl (eBin oEq (eCall 2 f__law_draw (aCons (eVar 0) (aCons (eC (.int 2)) aNil))) (eC (.int 1)))) (eVar 4))))
    (sSeq (sIf (tBl (eBin oEq (eCB fLen (aCons (eVar 3) aNil)) (eC (.int 0)))) (sSet 3 (eTup (aCons (eCall 2 f__law_draw (aCons (eVar 0) (aCons (eVar 1) aNil))) aNil))) sNil)
    (sRet (eTup (aCons (eVar 3) (aCons (eCall 2 f__law_factor (aCons (eVar 0) (aCons (eVar 2) aNil))) aNil))))))
theorem ok__law_poll {P : Program} {w : World} {K : PySem.W.Frag} {mg : PySem.Str → Option Value} {base : Heap} {f : Addr} {fd : FuncData} {f__law_draw f__law_factor : FM} (F : FnP K "_law_poll" s__law_poll f fd) (gx : mg "_law_poll" = some (.ref f)) (c__law_draw : Cal P w K mg base "_law_draw" 1 ["d", "many"] f__law_draw) (c__law_factor : Cal P w K mg base "_law_factor" 3 ["d", "style"] f__law_factor) (z_range : mg "range" = none) (z_tuple : mg "tuple" = none) (z_len : mg "len" = none) :
    Cal P w K mg base "_law_poll" 4 ["d", "kinds", "style"] (runB 5 (m__law_poll f__law_draw f__law_factor)) :=
  cal_mk (k := 3) F sc__law_poll gx (fun _ _ _ _ _ _ us hl => match us, hl with | [_, _, _], _ => rfl) fun cdv A outer s H E hr tk hp =>
    (sx_cons (sx_set sc__law_poll.nd (ex_callTs s_tuple (by rfl) z_tuple bt_tuple (es_el (el_comp (own := [(("kind" : PySem.Str), 4)]) (by rfl) sc__law_poll.nd (ei_range1 (by rfl) z_range (xv 1)) (blkOk_by (N := N__law_poll) (sc := (defScope s__law_poll)) (by decide +kernel)) (fun _ _ _ _ _ => (eg_name sc__law_poll.nd)) (fun _ _ _ _ _ => (ets_one (et_cmp (m_eq hr.units) (ex_c1 c__law_draw tk0 hr (by decide) (ea_cons (xv 0) (ea_cons ex_int ea_nil))) ex_int (nomark _)))) (fun _ _ _ _ _ => (xv 4))))))
    (sx_cons (sx_if (et_cmp (m_eq hr.units) (ex_callB c_len (by rfl) z_len bt_len (ea_cons (xv 3) ea_nil)) ex_int (nomark _)) (sx_one (sx_set sc__law_poll.nd (ex_tup (ea_cons (ex_c1 c__law_draw tk hr (by decide) (ea_cons (xv 0) (ea_cons (xv 1) ea_nil))) ea_nil)))) sx_nil)
    (sx_one (sx_ret (ex_tup (ea_cons (xv 3) (ea_cons (ex_c1 c__law_factor tk hr (by decide) (ea_cons (xv 0) (ea_cons (xv 2) ea_nil))) ea_nil)))))))
def N__law_is_changed : List PySem.Str := ["move", "counted", "gone", "come"]
theorem sc__law_is_changed : FnScope N__law_is_changed ["move", "counted"] (defScope s__law_is_changed) := ⟨rfl, rfl, rfl, by decide +kernel, rfl, by decide +kernel, by decide +kernel⟩
def m__law_is_changed : SM := (sSeq (sSet 2 (eAnd (eBin oNe (eBin oIx (eVar 0) (eC (.int 0))) (eC (.str [112, 117, 116]))) (eBin oIn (eBin oIx (eVar 0) (eC (.int 1))) (eVar 1))))
    (sSeq (sSet 3 (eAnd (eBin oNe (eBin oIx (eVar 0) (eC (.int 0))) (eC (.str [99, 117, 116]))) (eBin oIn (eBin oIx (eVar 0) (eBin oSub (eCB fLen (aCons (eVar 0) aNil)) (eC (.int 1)))) (eVar 1))))
    (sRet (eBin oNe (eVar 2) (eVar 3)))))
theorem ok__law_is_changed {P : Program} {w : World} {K : PySem.W.Frag} {mg : PySem.Str → Option Value} {base : Heap} {f : Addr} {fd : FuncData} (F : FnP K "_law_is_changed" s__law_is_changed f fd) (gx : mg "_law_is_changed" = some (.ref f)) (z_len : mg "len" = none) :
    Cal P w K mg base "_law_is_changed" 1 ["move", "counted"] (runB 4 (m__law_is_changed)) :=
  cal_mk (k := 0) F sc__law_is_changed gx (fun _ _ _ _ _ _ us hl => match us, hl with | [_, _], _ => rfl) fun cdv A outer s H E hr tk hp =>
    (sx_cons (sx_set sc__law_is_changed.nd (ex_and (ex_cmp (m_ne hr.units) (ex_ix (m_ix hr.units65) (xv 0) ex_int) (ex_strc [112, 117, 116] (by decide +kernel)) (nomark _)) (ex_one (ex_cmp (m_in hr.units65) (ex_ix (m_ix hr.units65) (xv 0) ex_int) (xv 1) (by rfl)))))
    (sx_cons (sx_set sc__law_is_changed.nd (ex_and (ex_cmp (m_ne hr.units) (ex_ix (m_ix hr.units65) (xv 0) ex_int) (ex_strc [99, 117, 116] (by decide +kernel)) (nomark _)) (ex_one (ex_cmp (m_in hr.units65) (ex_ix (m_ix hr.units65) (xv 0) (ex_op m_sub (ex_callB c_len (by rfl) z_len bt_len (ea_cons (xv 0) ea_nil)) ex_int)) (xv 1) (by rfl)))))
    (sx_one (sx_ret (ex_cmp (m_ne hr.units) (xv 2) (xv 3) (nomark _))))))
def N__law_products : List PySem.Str := ["move", "polls", "part", "above", "below", "number", "counted", "factor"]
theorem sc__law_products : FnScope N__law_products ["move", "polls", "part"] (defScope s__law_products) := ⟨rfl, rfl, rfl, by decide +kernel, rfl, by decide +kernel, by decide +kernel⟩
def m__law_products (f__law_is_changed : FM) : SM := (sSeq (sSet 3 (eC (.int 1)))
    (sSeq (sSet 4 (eC (.int 1)))
    (sSeq (sFor (iEx (eVar 2)) (gN 5) (sSeq (sAsg (gT 2 (gCs 6 (gCs 7 gNil0))) (eBin oIx (eVar 1) (eVar 5)))
    (sIf (tVal (eCall 2 f__law_is_changed (aCons (eVar 0) (aCons (eVar 6) aNil)))) (sSeq (sSet 3 (eBin oMul (eVar 3) (eBin oIx (eVar 7) (eC (.int 0)))))
    (sSet 4 (eBin oMul (eVar 4) (eBin oIx (eVar 7) (eC (.int 1)))))) sNil)))
    (sRet (eTup (aCons (eVar 3) (aCons (eVar 4) aNil)))))))
theorem ok__law_products {P : Program} {w : World} {K : PySem.W.Frag} {mg : PySem.Str → Option Value} {base : Heap} {f : Addr} {fd : FuncData} {f__law_is_changed : FM} (F : FnP K "_law_products" s__law_products f fd) (gx : mg "_law_products" = some (.ref f)) (c__law_is_changed : Cal P w K mg base "_law_is_changed" 1 ["move", "counted"] f__law_is_changed) :
    Cal P w K mg base "_law_products" 2 ["move", "polls", "part"] (runB 8 (m__law_products f__law_is_changed)) :=
  cal_mk (k := 1) F sc__law_products gx (fun _ _ _ _ _ _ us hl => match us, hl with | [_, _, _], _ => rfl) fun cdv A outer s H E hr tk hp =>
    (sx_cons (sx_set sc__law_products.nd ex_int)
    (sx_cons (sx_set sc__law_products.nd ex_int)
    (sx_cons (sx_for hp (by rfl) (ei_ex (xv 2)) (eg_name sc__law_products.nd) (sx_cons (sx_asg (ex_ix (m_ix hr.units65) (xv 1) (xv 5)) (eg_tup (by rfl) (egs_cons sc__law_products.nd (egs_cons sc__law_products.nd egs_nil))))
    (sx_one (sx_if (et_val (ex_c1 c__law_is_changed tk hr (by decide) (ea_cons (xv 0) (ea_cons (xv 6) ea_nil)))) (sx_cons (sx_set sc__law_products.nd (ex_op m_mul (xv 3) (ex_ix (m_ix hr.units65) (xv 7) ex_int)))
    (sx_one (sx_set sc__law_products.nd (ex_op m_mul (xv 4) (ex_ix (m_ix hr.units65) (xv 7) ex_int))))) sx_nil))))
    (sx_one (sx_ret (ex_tup (ea_cons (xv 3) (ea_cons (xv 4) ea_nil))))))))
def N__law_burst : List PySem.Str := ["near", "polls", "limit", "part", "move", "above", "below"]
theorem sc__law_burst : FnScope N__law_burst ["near", "polls", "limit", "part"] (defScope s__law_burst) := ⟨rfl, rfl, rfl, by decide +kernel, rfl, by decide +kernel, by decide +kernel⟩
def m__law_burst (f__law_products : FM) : SM := (sSeq (sFor (iEx (eVar 0)) (gN 4) (sSeq (sAsg (gT 2 (gCs 5 (gCs 6 gNil0))) (eCall 3 f__law_products (aCons (eVar 4) (aCons (eVar 1) (aCons (eVar 3) aNil)))))
    (sIf (tBl (eBin oLt (eBin oMul (eBin oIx (eVar 2) (eC (.int 0))) (eVar 6)) (eBin oMul (eVar 5) (eBin oIx (eVar 2) (eC (.int 1)))))) (sRet (eVar 4)) sNil)))
    (sRet (eC .non)))
theorem ok__law_burst {P : Program} {w : World} {K : PySem.W.Frag} {mg : PySem.Str → Option Value} {base : Heap} {f : Addr} {fd : FuncData} {f__law_products : FM} (F : FnP K "_law_burst" s__law_burst f fd) (gx : mg "_law_burst" = some (.ref f)) (c__law_products : Cal P w K mg base "_law_products" 2 ["move", "polls", "part"] f__law_products) :
    Cal P w K mg base "_law_burst" 3 ["near", "polls", "limit", "part"] (runB 7 (m__law_burst f__law_products)) :=
  cal_mk (k := 2) F sc__law_burst gx (fun _ _ _ _ _ _ us hl => match us, hl with | [_, _, _, _], _ => rfl) fun cdv A outer s H E hr tk hp =>
    (sx_cons (sx_for hp (by rfl) (ei_ex (xv 0)) (eg_name sc__law_burst.nd) (sx_cons (sx_asg (ex_c1 c__law_products tk hr (by decide) (ea_cons (xv 4) (ea_cons (xv 1) (ea_cons (xv 3) ea_nil)))) (eg_tup (by rfl) (egs_cons sc__law_burst.nd (egs_cons sc__law_burst.nd egs_nil))))
    (sx_one (sx_if (et_cmp (m_lt hr.units65) (ex_op m_mul (ex_ix (m_ix hr.units65) (xv 2) ex_int) (xv 6)) (ex_op m_mul (xv 5) (ex_ix (m_ix hr.units65) (xv 2) ex_int)) (nomark _)) (sx_one (sx_ret (xv 4))) sx_nil))))
    (sx_one (sx_ret ex_non)))
def N__law_sets : List PySem.Str := ["many", "found", "k", "part"]
theorem sc__law_sets : FnScope N__law_sets ["many"] (defScope s__law_sets) := ⟨rfl, rfl, rfl, by decide +kernel, rfl, by decide +kernel, by decide +kernel⟩
def m__law_sets : SM := (sSeq (sSet 1 (eLst (aCons (eTup aNil) aNil)))
    (sSeq (sFor (iRg1 (eVar 0)) (gN 2) (sSet 1 (eBin oAdd (eVar 1) (eEl (lComp [3] (iEx (eVar 1)) (gN 3) tYes (eBin oAdd (eVar 3) (eTup (aCons (eVar 2) aNil))))))))
    (sRet (eVar 1))))
theorem ok__law_sets {P : Program} {w : World} {K : PySem.W.Frag} {mg : PySem.Str → Option Value} {base : Heap} {f : Addr} {fd : FuncData} (F : FnP K "_law_sets" s__law_sets f fd) (gx : mg "_law_sets" = some (.ref f)) (z_range : mg "range" = none) :
    Cal P w K mg base "_law_sets" 1 ["many"] (runB 4 (m__law_sets)) :=
  cal_mk (k := 0) F sc__law_sets gx (fun _ _ _ _ _ _ us hl => match us, hl with | [_], _ => rfl) fun cdv A outer s H E hr tk hp =>
    (sx_cons (sx_set sc__law_sets.nd (ex_lst (ea_cons (ex_tup ea_nil) ea_nil)))
    (sx_cons (sx_for hp (by rfl) (ei_range1 (by rfl) z_range (xv 0)) (eg_name sc__law_sets.nd) (sx_one (sx_set sc__law_sets.nd (ex_op m_add (xv 1) (ex_el (el_comp (own := [(("part" : PySem.Str), 3)]) (by rfl) sc__law_sets.nd (ei_ex (xv 1)) (blkOk_by (N := N__law_sets) (sc := (defScope s__law_sets)) (by decide +kernel)) (fun _ _ _ _ _ => (eg_name sc__law_sets.nd)) (fun _ _ _ _ _ => ets_nil) (fun _ _ _ _ _ => (ex_op m_add (xv 3) (ex_tup (ea_cons (xv 2) ea_nil))))))))))
    (sx_one (sx_ret (xv 1)))))
def N__law_fitting : List PySem.Str := ["near", "polls", "limit", "found", "part"]
theorem sc__law_fitting : FnScope N__law_fitting ["near", "polls", "limit"] (defScope s__law_fitting) := ⟨rfl, rfl, rfl, by decide +kernel, rfl, by decide +kernel, by decide +kernel⟩
def m__law_fitting (f__law_sets : FM) (f__law_burst : FM) : SM := (sSeq (sSet 3 eDct)
    (sSeq (sFor (iEx (eCall 1 f__law_sets (aCons (eCB fLen (aCons (eVar 1) aNil)) aNil))) (gN 4) (sIf (tAnd (tBl (eBin oGe (eBin oIx (eVar 2) (eC (.int 0))) (eBin oIx (eVar 2) (eC (.int 1))))) (tBl (eBin oIs (eCall 4 f__law_burst (aCons (eVar 0) (aCons (eVar 1) (aCons (eVar 2) (aCons (eVar 4) aNil))))) (eC .non)))) (sSub (eVar 3) (eVar 4) (eC (.bl true))) sNil))
    (sRet (eVar 3))))
theorem ok__law_fitting {P : Program} {w : World} {K : PySem.W.Frag} {mg : PySem.Str → Option Value} {base : Heap} {f : Addr} {fd : FuncData} {f__law_sets f__law_burst : FM} (F : FnP K "_law_fitting" s__law_fitting f fd) (gx : mg "_law_fitting" = some (.ref f)) (c__law_sets : Cal P w K mg base "_law_sets" 1 ["many"] f__law_sets) (c__law_burst : Cal P w K mg base "_law_burst" 3 ["near", "polls", "limit", "part"] f__law_burst) (z_len : mg "len" = none) :
    Cal P w K mg base "_law_fitting" 4 ["near", "polls", "limit"] (runB 5 (m__law_fitting f__law_sets f__law_burst)) :=
  cal_mk (k := 3) F sc__law_fitting gx (fun _ _ _ _ _ _ us hl => match us, hl with | [_, _, _], _ => rfl) fun cdv A outer s H E hr tk hp =>
    (sx_cons (sx_set sc__law_fitting.nd ex_dct)
    (sx_cons (sx_for hp (by rfl) (ei_ex (ex_c1 c__law_sets tk hr (by decide) (ea_cons (ex_callB c_len (by rfl) z_len bt_len (ea_cons (xv 1) ea_nil)) ea_nil))) (eg_name sc__law_fitting.nd) (sx_one (sx_if (Ew.et (ew_and (et_cmp m_ge (ex_ix (m_ix hr.units65) (xv 2) ex_int) (ex_ix (m_ix hr.units65) (xv 2) ex_int) (nomark _)) (ew_and1 (et_cmp m_is (ex_c1 c__law_burst tk hr (by decide) (ea_cons (xv 0) (ea_cons (xv 1) (ea_cons (xv 2) (ea_cons (xv 4) ea_nil))))) ex_non (nomark _))))) (sx_one (sx_sub hr.units65 ex_bl (xv 3) (xv 4))) sx_nil)))
    (sx_one (sx_ret (xv 3)))))
def N__law_limit : List PySem.Str := ["d", "near", "polls", "way", "part", "above", "below", "most", "k"]
theorem sc__law_limit : FnScope N__law_limit ["d", "near", "polls"] (defScope s__law_limit) := ⟨rfl, rfl, rfl, by decide +kernel, rfl, by decide +kernel, by decide +kernel⟩
def m__law_limit (f__law_draw : FM) (f__law_f : FM) (f__law_products : FM) (f__law_pick : FM) (f__law_minus : FM) (f__law_plus : FM) : SM := (sSeq (sSet 3 (eCall 2 f__law_draw (aCons (eVar 0) (aCons (eC (.int 10)) aNil))))
    (sSeq (sIf (tBl (eBin oEq (eVar 3) (eC (.int 0)))) (sRet (eCall 2 f__law_f (aCons (eCall 2 f__law_draw (aCons (eVar 0) (aCons (eC (.int 6)) aNil))) (aCons (eC (.int 6)) aNil)))) sNil)
    (sSeq (sIf (tOr (tBl (eBin oEq (eVar 3) (eC (.int 1)))) (tBl (eBin oEq (eCB fLen (aCons (eVar 1) aNil)) (eC (.int 0))))) (sRet (eTup (aCons (eC (.int 1)) (aCons (eC (.int 1)) aNil)))) sNil)
    (sSeq (sSet 4 (eEl (lComp [8] (iRg1 (eCB fLen (aCons (eVar 2) aNil))) (gN 8) (tBl (eBin oEq (eCall 2 f__law_draw (aCons (eVar 0) (aCons (eC (.int 2)) aNil))) (eC (.int 1)))) (eVar 8))))
    (sSeq (sAsg (gT 2 (gCs 5 (gCs 6 gNil0))) (eCall 3 f__law_products (aCons (eCall 2 f__law_pick (aCons (eVar 0) (aCons (eVar 1) aNil))) (aCons (eVar 2) (aCons (eVar 4) aNil)))))
    (sSeq (sSet 7 (eCall 2 f__law_f (aCons (eVar 5) (aCons (eVar 6) aNil))))
    (sSeq (sIf (tBl (eBin oEq (eVar 3) (eC (.int 2)))) (sRet (eCall 2 f__law_minus (aCons (eVar 7) (aCons (eTup (aCons (eC (.int 1)) (aCons (eBin oAdd (eC (.int 1000)) (eCall 2 f__law_draw (aCons (eVar 0) (aCons (eC (.int 1000)) aNil)))) aNil))) aNil)))) sNil)
    (sRet (eIf (tBl (eBin oEq (eVar 3) (eC (.int 3)))) (eCall 2 f__law_plus (aCons (eVar 7) (aCons (eTup (aCons (eC (.int 1)) (aCons (eBin oAdd (eC (.int 1000)) (eCall 2 f__law_draw (aCons (eVar 0) (aCons (eC (.int 1000)) aNil)))) aNil))) aNil))) (eVar 7))))))))))
theorem ok__law_limit {P : Program} {w : World} {K : PySem.W.Frag} {mg : PySem.Str → Option Value} {base : Heap} {f : Addr} {fd : FuncData} {f__law_draw f__law_f f__law_products f__law_pick f__law_minus f__law_plus : FM} (F : FnP K "_law_limit" s__law_limit f fd) (gx : mg "_law_limit" = some (.ref f)) (c__law_draw : Cal P w K mg base "_law_draw" 1 ["d", "many"] f__law_draw) (c__law_f : Cal P w K mg base "_law_f" 2 ["n", "d"] f__law_f) (c__law_products : Cal P w K mg base "_law_products" 2 ["move", "polls", "part"] f__law_products) (c__law_pick : Cal P w K mg base "_law_pick" 2 ["d", "row"] f__law_pick) (c__law_minus : Cal P w K mg base "_law_minus" 3 ["x", "y"] f__law_minus) (c__law_plus : Cal P w K mg base "_law_plus" 3 ["x", "y"] f__law_plus) (z_len : mg "len" = none) (z_range : mg "range" = none) :
    Cal P w K mg base "_law_limit" 4 ["d", "near", "polls"] (runB 9 (m__law_limit f__law_draw f__law_f f__law_products f__law_pick f__law_minus f__law_plus)) :=
  cal_mk (k := 3) F sc__law_limit gx (fun _ _ _ _ _ _ us hl => match us, hl with | [_, _, _], _ => rfl) fun cdv A outer s H E hr tk hp =>
    (sx_cons (sx_set sc__law_limit.nd (ex_c1 c__law_draw tk hr (by decide) (ea_cons (xv 0) (ea_cons ex_int ea_nil))))
    (sx_cons (sx_if (et_cmp (m_eq hr.units) (xv 3) ex_int (nomark _)) (sx_one (sx_ret (ex_c1 c__law_f tk hr (by decide) (ea_cons (ex_c1 c__law_draw tk hr (by decide) (ea_cons (xv 0) (ea_cons ex_int ea_nil))) (ea_cons ex_int ea_nil))))) sx_nil)
    (sx_cons (sx_if (Ew.et (ew_or (et_cmp (m_eq hr.units) (xv 3) ex_int (nomark _)) (ew_or1 (et_cmp (m_eq hr.units) (ex_callB c_len (by rfl) z_len bt_len (ea_cons (xv 1) ea_nil)) ex_int (nomark _))))) (sx_one (sx_ret (ex_tup (ea_cons ex_int (ea_cons ex_int ea_nil))))) sx_nil)
    (sx_cons (sx_setLc (own := [(("k" : PySem.Str), 8)]) (by rfl) sc__law_limit.nd (ei_range1 (by rfl) z_range (ex_callB c_len (by rfl) z_len bt_len (ea_cons (xv 2) ea_nil))) (blkOk_by (N := N__law_limit) (sc := (defScope s__law_limit)) (by decide +kernel)) (fun _ _ _ _ _ => (eg_name sc__law_limit.nd)) (fun _ _ _ _ _ => (ets_one (et_cmp (m_eq hr.units) (ex_c1 c__law_draw tk0 hr (by decide) (ea_cons (xv 0) (ea_cons ex_int ea_nil))) ex_int (nomark _)))) (fun _ _ _ _ _ => (xv 8)))
    (sx_cons (sx_asg (ex_c1 c__law_products tk hr (by decide) (ea_cons (ex_c1 c__law_pick tk hr (by decide) (ea_cons (xv 0) (ea_cons (xv 1) ea_nil))) (ea_cons (xv 2) (ea_cons (xv 4) ea_nil)))) (eg_tup (by rfl) (egs_cons sc__law_limit.nd (egs_cons sc__law_limit.nd egs_nil))))
    (sx_cons (sx_set sc__law_limit.nd (ex_c1 c__law_f tk hr (by decide) (ea_cons (xv 5) (ea_cons (xv 6) ea_nil))))
    (sx_cons (sx_if (et_cmp (m_eq hr.units) (xv 3) ex_int (nomark _)) (sx_one (sx_ret (ex_c1 c__law_minus tk hr (by decide) (ea_cons (xv 7) (ea_cons (ex_tup (ea_cons ex_int (ea_cons (ex_op m_add ex_int (ex_c1 c__law_draw tk hr (by decide) (ea_cons (xv 0) (ea_cons ex_int ea_nil)))) ea_nil))) ea_nil))))) sx_nil)
    (sx_one (sx_ret (ex_if (et_cmp (m_eq hr.units) (xv 3) ex_int (nomark _)) (ex_c1 c__law_plus tk hr (by decide) (ea_cons (xv 7) (ea_cons (ex_tup (ea_cons ex_int (ea_cons (ex_op m_add ex_int (ex_c1 c__law_draw tk hr (by decide) (ea_cons (xv 0) (ea_cons ex_int ea_nil)))) ea_nil))) ea_nil))) (xv 7)))))))))))
def N__law_lies : List PySem.Str := ["part", "other", "number"]
theorem sc__law_lies : FnScope N__law_lies ["part", "other"] (defScope s__law_lies) := ⟨rfl, rfl, rfl, by decide +kernel, rfl, by decide +kernel, by decide +kernel⟩
def m__law_lies : SM := (sRet (eCS gAllB (lComp [2] (iEx (eVar 0)) (gN 2) tYes (eBin oIn (eVar 2) (eVar 1)))))
theorem ok__law_lies {P : Program} {w : World} {K : PySem.W.Frag} {mg : PySem.Str → Option Value} {base : Heap} {f : Addr} {fd : FuncData} (F : FnP K "_law_lies" s__law_lies f fd) (gx : mg "_law_lies" = some (.ref f)) (z_all : mg "all" = none) :
    Cal P w K mg base "_law_lies" 1 ["part", "other"] (runB 3 (m__law_lies)) :=
  cal_mk (k := 0) F sc__law_lies gx (fun _ _ _ _ _ _ us hl => match us, hl with | [_, _], _ => rfl) fun cdv A outer s H E hr tk hp =>
    (sx_one (sx_ret (ex_callBl (s_all (by rfl)) (by rfl) z_all bt_all (esl_el (el_comp (own := [(("number" : PySem.Str), 2)]) (by rfl) sc__law_lies.nd (ei_ex (xv 0)) (blkOk_by (N := N__law_lies) (sc := (defScope s__law_lies)) (by decide +kernel)) (fun _ _ _ _ _ => (eg_name sc__law_lies.nd)) (fun _ _ _ _ _ => ets_nil) (fun _ _ _ _ _ => (ex_cmp (m_in hr.units65) (xv 2) (xv 1) (by rfl))))))))
def N__law_prizes : List PySem.Str := ["d", "many", "way", "one", "k"]
theorem sc__law_prizes : FnScope N__law_prizes ["d", "many"] (defScope s__law_prizes) := ⟨rfl, rfl, rfl, by decide +kernel, rfl, by decide +kernel, by decide +kernel⟩
def m__law_prizes (f__law_draw : FM) : SM := (sSeq (sSet 2 (eCall 2 f__law_draw (aCons (eVar 0) (aCons (eC (.int 6)) aNil))))
    (sSeq (sIf (tBl (eBin oEq (eVar 2) (eC (.int 0)))) (sRet (eCS gTuple (lComp [4] (iRg1 (eVar 1)) (gN 4) tYes (eC (.int 0))))) sNil)
    (sSeq (sIf (tBl (eBin oEq (eVar 2) (eC (.int 1)))) (sSeq (sSet 3 (eCall 2 f__law_draw (aCons (eVar 0) (aCons (eC (.int 1001)) aNil))))
    (sRet (eCS gTuple (lComp [4] (iRg1 (eVar 1)) (gN 4) tYes (eVar 3))))) sNil)
    (sSeq (sIf (tBl (eBin oEq (eVar 2) (eC (.int 2)))) (sRet (eCS gTuple (lComp [4] (iRg1 (eVar 1)) (gN 4) tYes (eCall 2 f__law_draw (aCons (eVar 0) (aCons (eC (.int 1001)) aNil)))))) sNil)
    (sRet (eCS gTuple (lComp [4] (iRg1 (eVar 1)) (gN 4) tYes (eCall 2 f__law_draw (aCons (eVar 0) (aCons (eBin oAdd (eC (.int 2)) (eVar 2)) aNil))))))))))
theorem ok__law_prizes {P : Program} {w : World} {K : PySem.W.Frag} {mg : PySem.Str → Option Value} {base : Heap} {f : Addr} {fd : FuncData} {f__law_draw : FM} (F : FnP K "_law_prizes" s__law_prizes f fd) (gx : mg "_law_prizes" = some (.ref f)) (c__law_draw : Cal P w K mg base "_law_draw" 1 ["d", "many"] f__law_draw) (z_range : mg "range" = none) (z_tuple : mg "tuple" = none) :
    Cal P w K mg base "_law_prizes" 2 ["d", "many"] (runB 5 (m__law_prizes f__law_draw)) :=
  cal_mk (k := 1) F sc__law_prizes gx (fun _ _ _ _ _ _ us hl => match us, hl with | [_, _], _ => rfl) fun cdv A outer s H E hr tk hp =>
    (sx_cons (sx_set sc__law_prizes.nd (ex_c1 c__law_draw tk hr (by decide) (ea_cons (xv 0) (ea_cons ex_int ea_nil))))
    (sx_cons (sx_if (et_cmp (m_eq hr.units) (xv 2) ex_int (nomark _)) (sx_one (sx_ret (ex_callTs s_tuple (by rfl) z_tuple bt_tuple (es_el (el_comp (own := [(("k" : PySem.Str), 4)]) (by rfl) sc__law_prizes.nd (ei_range1 (by rfl) z_range (xv 1)) (blkOk_by (N := N__law_prizes) (sc := (defScope s__law_prizes)) (by decide +kernel)) (fun _ _ _ _ _ => (eg_name sc__law_prizes.nd)) (fun _ _ _ _ _ => ets_nil) (fun _ _ _ _ _ => ex_int)))))) sx_nil)
    (sx_cons (sx_if (et_cmp (m_eq hr.units) (xv 2) ex_int (nomark _)) (sx_cons (sx_set sc__law_prizes.nd (ex_c1 c__law_draw tk hr (by decide) (ea_cons (xv 0) (ea_cons ex_int ea_nil))))
    (sx_one (sx_ret (ex_callTs s_tuple (by rfl) z_tuple bt_tuple (es_el (el_comp (own := [(("k" : PySem.Str), 4)]) (by rfl) sc__law_prizes.nd (ei_range1 (by rfl) z_range (xv 1)) (blkOk_by (N := N__law_prizes) (sc := (defScope s__law_prizes)) (by decide +kernel)) (fun _ _ _ _ _ => (eg_name sc__law_prizes.nd)) (fun _ _ _ _ _ => ets_nil) (fun _ _ _ _ _ => (xv 3)))))))) sx_nil)
    (sx_cons (sx_if (et_cmp (m_eq hr.units) (xv 2) ex_int (nomark _)) (sx_one (sx_ret (ex_callTs s_tuple (by rfl) z_tuple bt_tuple (es_el (el_comp (own := [(("k" : PySem.Str), 4)]) (by rfl) sc__law_prizes.nd (ei_range1 (by rfl) z_range (xv 1)) (blkOk_by (N := N__law_prizes) (sc := (defScope s__law_prizes)) (by decide +kernel)) (fun _ _ _ _ _ => (eg_name sc__law_prizes.nd)) (fun _ _ _ _ _ => ets_nil) (fun _ _ _ _ _ => (ex_c1 c__law_draw tk0 hr (by decide) (ea_cons (xv 0) (ea_cons ex_int ea_nil))))))))) sx_nil)
    (sx_one (sx_ret (ex_callTs s_tuple (by rfl) z_tuple bt_tuple (es_el (el_comp (own := [(("k" : PySem.Str), 4)]) (by rfl) sc__law_prizes.nd (ei_range1 (by rfl) z_range (xv 1)) (blkOk_by (N := N__law_prizes) (sc := (defScope s__law_prizes)) (by decide +kernel)) (fun _ _ _ _ _ => (eg_name sc__law_prizes.nd)) (fun _ _ _ _ _ => ets_nil) (fun _ _ _ _ _ => (ex_c1 c__law_draw tk0 hr (by decide) (ea_cons (xv 0) (ea_cons (ex_op m_add ex_int (xv 2)) ea_nil)))))))))))))
def N__law_sum : List PySem.Str := ["part", "row", "number"]
theorem sc__law_sum : FnScope N__law_sum ["part", "row"] (defScope s__law_sum) := ⟨rfl, rfl, rfl, by decide +kernel, rfl, by decide +kernel, by decide +kernel⟩
def m__law_sum : SM := (sRet (eCS gSum (lComp [2] (iEx (eVar 0)) (gN 2) tYes (eBin oIx (eVar 1) (eVar 2)))))
theorem ok__law_sum {P : Program} {w : World} {K : PySem.W.Frag} {mg : PySem.Str → Option Value} {base : Heap} {f : Addr} {fd : FuncData} (F : FnP K "_law_sum" s__law_sum f fd) (gx : mg "_law_sum" = some (.ref f)) (z_sum : mg "sum" = none) :
    Cal P w K mg base "_law_sum" 1 ["part", "row"] (runB 3 (m__law_sum)) :=
  cal_mk (k := 0) F sc__law_sum gx (fun _ _ _ _ _ _ us hl => match us, hl with | [_, _], _ => rfl) fun cdv A outer s H E hr tk hp =>
    (sx_one (sx_ret (ex_callBs (s_sum (by rfl)) (by rfl) z_sum bt_sum (es_el (el_comp (own := [(("number" : PySem.Str), 2)]) (by rfl) sc__law_sum.nd (ei_ex (xv 0)) (blkOk_by (N := N__law_sum) (sc := (defScope s__law_sum)) (by decide +kernel)) (fun _ _ _ _ _ => (eg_name sc__law_sum.nd)) (fun _ _ _ _ _ => ets_nil) (fun _ _ _ _ _ => (ex_ix (m_ix hr.units65) (xv 1) (xv 2))))))))
def N__law_is_better : List PySem.Str := ["part", "told", "row", "mine", "whole"]
theorem sc__law_is_better : FnScope N__law_is_better ["part", "told", "row"] (defScope s__law_is_better) := ⟨rfl, rfl, rfl, by decide +kernel, rfl, by decide +kernel, by decide +kernel⟩
def m__law_is_better (f__law_sum : FM) : SM := (sSeq (sSet 3 (eCall 2 f__law_sum (aCons (eVar 0) (aCons (eVar 2) aNil))))
    (sSeq (sSet 4 (eCall 2 f__law_sum (aCons (eVar 1) (aCons (eVar 2) aNil))))
    (sRet (eOr (eBin oGt (eVar 3) (eVar 4)) (eAnd (eBin oEq (eVar 3) (eVar 4)) (eBin oLt (eVar 0) (eVar 1)))))))
theorem ok__law_is_better {P : Program} {w : World} {K : PySem.W.Frag} {mg : PySem.Str → Option Value} {base : Heap} {f : Addr} {fd : FuncData} {f__law_sum : FM} (F : FnP K "_law_is_better" s__law_is_better f fd) (gx : mg "_law_is_better" = some (.ref f)) (c__law_sum : Cal P w K mg base "_law_sum" 1 ["part", "row"] f__law_sum) :
    Cal P w K mg base "_law_is_better" 2 ["part", "told", "row"] (runB 5 (m__law_is_better f__law_sum)) :=
  cal_mk (k := 1) F sc__law_is_better gx (fun _ _ _ _ _ _ us hl => match us, hl with | [_, _, _], _ => rfl) fun cdv A outer s H E hr tk hp =>
    (sx_cons (sx_set sc__law_is_better.nd (ex_c1 c__law_sum tk hr (by decide) (ea_cons (xv 0) (ea_cons (xv 2) ea_nil))))
    (sx_cons (sx_set sc__law_is_better.nd (ex_c1 c__law_sum tk hr (by decide) (ea_cons (xv 1) (ea_cons (xv 2) ea_nil))))
    (sx_one (sx_ret (ex_or (ex_cmp m_gt (xv 3) (xv 4) (nomark _)) (ex_one (ex_and (ex_cmp (m_eq hr.units) (xv 3) (xv 4) (nomark _)) (ex_one (ex_cmp (m_lt hr.units65) (xv 0) (xv 1) (nomark _))))))))))
def N__law_is_best : List PySem.Str := ["told", "limit", "row", "fitting", "part"]
theorem sc__law_is_best : FnScope N__law_is_best ["told", "limit", "row", "fitting"] (defScope s__law_is_best) := ⟨rfl, rfl, rfl, by decide +kernel, rfl, by decide +kernel, by decide +kernel⟩
def m__law_is_best (f__law_is_ints : FM) (f__law_is_better : FM) : SM := (sSeq (sIf (tBl (eBin oLt (eBin oIx (eVar 1) (eC (.int 0))) (eBin oIx (eVar 1) (eC (.int 1))))) (sRet (eBin oIs (eVar 0) (eC .non))) sNil)
    (sSeq (sIf (tOr (HM.tNot (tVal (eCall 1 f__law_is_ints (aCons (eVar 0) aNil)))) (tBl (eBin oNotIn (eVar 0) (eVar 3)))) (sRet (eC (.bl false))) sNil)
    (sRet (eNot (eCS gAnyB (lComp [4] (iEx (eCB fSorted (aCons (eVar 3) aNil))) (gN 4) tYes (eCall 3 f__law_is_better (aCons (eVar 4) (aCons (eVar 0) (aCons (eVar 2) aNil))))))))))
theorem ok__law_is_best {P : Program} {w : World} {K : PySem.W.Frag} {mg : PySem.Str → Option Value} {base : Heap} {f : Addr} {fd : FuncData} {f__law_is_ints f__law_is_better : FM} (F : FnP K "_law_is_best" s__law_is_best f fd) (gx : mg "_law_is_best" = some (.ref f)) (c__law_is_ints : Cal P w K mg base "_law_is_ints" 2 ["row"] f__law_is_ints) (c__law_is_better : Cal P w K mg base "_law_is_better" 2 ["part", "told", "row"] f__law_is_better) (z_sorted : mg "sorted" = none) (z_any : mg "any" = none) :
    Cal P w K mg base "_law_is_best" 3 ["told", "limit", "row", "fitting"] (runB 5 (m__law_is_best f__law_is_ints f__law_is_better)) :=
  cal_mk (k := 2) F sc__law_is_best gx (fun _ _ _ _ _ _ us hl => match us, hl with | [_, _, _, _], _ => rfl) fun cdv A outer s H E hr tk hp =>
    (sx_cons (sx_if (et_cmp (m_lt hr.units65) (ex_ix (m_ix hr.units65) (xv 1) ex_int) (ex_ix (m_ix hr.units65) (xv 1) ex_int) (nomark _)) (sx_one (sx_ret (ex_cmp m_is (xv 0) ex_non (nomark _)))) sx_nil)
    (sx_cons (sx_if (Ew.et (ew_or (et_not (et_val (ex_c1 c__law_is_ints tk hr (by decide) (ea_cons (xv 0) ea_nil)))) (ew_or1 (et_cmp (m_notin hr.units65) (xv 0) (xv 3) (by rfl))))) (sx_one (sx_ret ex_bl)) sx_nil)
    (sx_one (sx_ret (ex_not (ex_callBl (s_any (by rfl)) (by rfl) z_any bt_any (esl_el (el_comp (own := [(("part" : PySem.Str), 4)]) (by rfl) sc__law_is_best.nd (ei_ex (ex_callB (c_sorted (by rfl) hr.units65) (by rfl) z_sorted bt_sorted (ea_cons (xv 3) ea_nil))) (blkOk_by (N := N__law_is_best) (sc := (defScope s__law_is_best)) (by decide +kernel)) (fun _ _ _ _ _ => (eg_name sc__law_is_best.nd)) (fun _ _ _ _ _ => ets_nil) (fun _ _ _ _ _ => (ex_c1 c__law_is_better tk0 hr (by decide) (ea_cons (xv 4) (ea_cons (xv 0) (ea_cons (xv 2) ea_nil)))))))))))))
def N__law_is_shown : List PySem.Str := ["told", "near", "polls", "limit", "row", "bars", "part", "larger", "bar", "other"]
theorem sc__law_is_shown : FnScope N__law_is_shown ["told", "near", "polls", "limit", "row"] (defScope s__law_is_shown) := ⟨rfl, rfl, rfl, by decide +kernel, rfl, by decide +kernel, by decide +kernel⟩
def m__law_is_shown (f_bars_of : FM) (f__law_is_rows : FM) (f__law_is_ints : FM) (f__law_sets : FM) (f__law_is_better : FM) (f__law_lies : FM) (f_greatest_sets : FM) : SM := (sSeq (sIf (tBl (eBin oIs (eVar 0) (eC .non))) (sRet (eC (.bl true))) sNil)
    (sSeq (sSet 5 (eCall 3 f_bars_of (aCons (eVar 1) (aCons (eVar 2) (aCons (eVar 3) aNil)))))
    (sSeq (sIf (tOr (HM.tNot (tVal (eCall 2 f__law_is_rows (aCons (eVar 5) (aCons (eC (.int 2)) aNil))))) (HM.tNot (tVal (eCS gAllB (lComp [8] (iEx (eVar 5)) (gN 8) tYes (eCall 1 f__law_is_ints (aCons (eBin oIx (eVar 8) (eC (.int 0))) aNil))))))) (sRet (eC (.bl false))) sNil)
    (sSeq (sFor (iEx (eCall 1 f__law_sets (aCons (eCB fLen (aCons (eVar 2) aNil)) aNil))) (gN 6) (sIf (tAnd (tVal (eCall 3 f__law_is_better (aCons (eVar 6) (aCons (eVar 0) (aCons (eVar 4) aNil))))) (HM.tNot (tVal (eCS gAnyB (lComp [8] (iEx (eVar 5)) (gN 8) tYes (eCall 2 f__law_lies (aCons (eBin oIx (eVar 8) (eC (.int 0))) (aCons (eVar 6) aNil)))))))) (sRet (eC (.bl false))) sNil))
    (sSeq (sSet 7 (eCall 3 f_greatest_sets (aCons (eVar 1) (aCons (eVar 2) (aCons (eVar 3) aNil)))))
    (sSeq (sIf (tOr (HM.tNot (tVal (eCB fIsi (aCons (eVar 7) (aCons (eC (.ty "tuple")) aNil))))) (HM.tNot (tVal (eCS gAllB (lComp [9] (iEx (eVar 7)) (gN 9) tYes (eCall 1 f__law_is_ints (aCons (eVar 9) aNil))))))) (sRet (eC (.bl false))) sNil)
    (sRet (eCS gAnyB (lComp [9] (iEx (eVar 7)) (gN 9) tYes (eCall 2 f__law_lies (aCons (eVar 0) (aCons (eVar 9) aNil))))))))))))
theorem ok__law_is_shown {P : Program} {w : World} {K : PySem.W.Frag} {mg : PySem.Str → Option Value} {base : Heap} {f : Addr} {fd : FuncData} {f_bars_of f__law_is_rows f__law_is_ints f__law_sets f__law_is_better f__law_lies f_greatest_sets : FM} (F : FnP K "_law_is_shown" s__law_is_shown f fd) (gx : mg "_law_is_shown" = some (.ref f)) (c_bars_of : Cal P w K mg base "bars_of" 7 ["near", "questions", "budget"] f_bars_of) (c__law_is_rows : Cal P w K mg base "_law_is_rows" 1 ["rows", "size"] f__law_is_rows) (c__law_is_ints : Cal P w K mg base "_law_is_ints" 2 ["row"] f__law_is_ints) (c__law_sets : Cal P w K mg base "_law_sets" 1 ["many"] f__law_sets) (c__law_is_better : Cal P w K mg base "_law_is_better" 2 ["part", "told", "row"] f__law_is_better) (c__law_lies : Cal P w K mg base "_law_lies" 1 ["part", "other"] f__law_lies) (c_greatest_sets : Cal P w K mg base "greatest_sets" 7 ["near", "questions", "budget"] f_greatest_sets) (z_all : mg "all" = none) (z_len : mg "len" = none) (z_any : mg "any" = none) (z_tuple : mg "tuple" = none) (z_isinstance : mg "isinstance" = none) :
    Cal P w K mg base "_law_is_shown" 8 ["told", "near", "polls", "limit", "row"] (runB 10 (m__law_is_shown f_bars_of f__law_is_rows f__law_is_ints f__law_sets f__law_is_better f__law_lies f_greatest_sets)) :=
  cal_mk (k := 7) F sc__law_is_shown gx (fun _ _ _ _ _ _ us hl => match us, hl with | [_, _, _, _, _], _ => rfl) fun cdv A outer s H E hr tk hp =>
    (sx_cons (sx_if (et_cmp m_is (xv 0) ex_non (nomark _)) (sx_one (sx_ret ex_bl)) sx_nil)
    (sx_cons (sx_set sc__law_is_shown.nd (ex_c1 c_bars_of tk hr (by decide) (ea_cons (xv 1) (ea_cons (xv 2) (ea_cons (xv 3) ea_nil)))))
    (sx_cons (sx_if (Ew.et (ew_or (et_not (et_val (ex_c1 c__law_is_rows tk hr (by decide) (ea_cons (xv 5) (ea_cons ex_int ea_nil))))) (ew_or1 (et_not (et_val (ex_callBl (s_all (by rfl)) (by rfl) z_all bt_all (esl_el (el_comp (own := [(("bar" : PySem.Str), 8)]) (by rfl) sc__law_is_shown.nd (ei_ex (xv 5)) (blkOk_by (N := N__law_is_shown) (sc := (defScope s__law_is_shown)) (by decide +kernel)) (fun _ _ _ _ _ => (eg_name sc__law_is_shown.nd)) (fun _ _ _ _ _ => ets_nil) (fun _ _ _ _ _ => (ex_c1 c__law_is_ints tk0 hr (by decide) (ea_cons (ex_ix (m_ix hr.units65) (xv 8) ex_int) ea_nil))))))))))) (sx_one (sx_ret ex_bl)) sx_nil)
    (sx_cons (sx_for hp (by rfl) (ei_ex (ex_c1 c__law_sets tk hr (by decide) (ea_cons (ex_callB c_len (by rfl) z_len bt_len (ea_cons (xv 2) ea_nil)) ea_nil))) (eg_name sc__law_is_shown.nd) (sx_one (sx_if (Ew.et (ew_and (et_val (ex_c1 c__law_is_better tk hr (by decide) (ea_cons (xv 6) (ea_cons (xv 0) (ea_cons (xv 4) ea_nil))))) (ew_and1 (et_not (et_val (ex_callBl (s_any (by rfl)) (by rfl) z_any bt_any (esl_el (el_comp (own := [(("bar" : PySem.Str), 8)]) (by rfl) sc__law_is_shown.nd (ei_ex (xv 5)) (blkOk_by (N := N__law_is_shown) (sc := (defScope s__law_is_shown)) (by decide +kernel)) (fun _ _ _ _ _ => (eg_name sc__law_is_shown.nd)) (fun _ _ _ _ _ => ets_nil) (fun _ _ _ _ _ => (ex_c1 c__law_lies tk0 hr (by decide) (ea_cons (ex_ix (m_ix hr.units65) (xv 8) ex_int) (ea_cons (xv 6) ea_nil)))))))))))) (sx_one (sx_ret ex_bl)) sx_nil)))
    (sx_cons (sx_set sc__law_is_shown.nd (ex_c1 c_greatest_sets tk hr (by decide) (ea_cons (xv 1) (ea_cons (xv 2) (ea_cons (xv 3) ea_nil)))))
    (sx_cons (sx_if (Ew.et (ew_or (et_not (et_val (ex_callB c_isi (by rfl) z_isinstance bt_isinstance (ea_cons (xv 7) (ea_cons (ex_bltn (by rfl) z_tuple bt_tuple (by rfl) (fun _ _ => .ty _)) ea_nil))))) (ew_or1 (et_not (et_val (ex_callBl (s_all (by rfl)) (by rfl) z_all bt_all (esl_el (el_comp (own := [(("other" : PySem.Str), 9)]) (by rfl) sc__law_is_shown.nd (ei_ex (xv 7)) (blkOk_by (N := N__law_is_shown) (sc := (defScope s__law_is_shown)) (by decide +kernel)) (fun _ _ _ _ _ => (eg_name sc__law_is_shown.nd)) (fun _ _ _ _ _ => ets_nil) (fun _ _ _ _ _ => (ex_c1 c__law_is_ints tk0 hr (by decide) (ea_cons (xv 9) ea_nil))))))))))) (sx_one (sx_ret ex_bl)) sx_nil)
    (sx_one (sx_ret (ex_callBl (s_any (by rfl)) (by rfl) z_any bt_any (esl_el (el_comp (own := [(("other" : PySem.Str), 9)]) (by rfl) sc__law_is_shown.nd (ei_ex (xv 7)) (blkOk_by (N := N__law_is_shown) (sc := (defScope s__law_is_shown)) (by decide +kernel)) (fun _ _ _ _ _ => (eg_name sc__law_is_shown.nd)) (fun _ _ _ _ _ => ets_nil) (fun _ _ _ _ _ => (ex_c1 c__law_lies tk0 hr (by decide) (ea_cons (xv 0) (ea_cons (xv 9) ea_nil)))))))))))))))
def N__law_changed : List PySem.Str := ["d", "row", "at"]
theorem sc__law_changed : FnScope N__law_changed ["d", "row"] (defScope s__law_changed) := ⟨rfl, rfl, rfl, by decide +kernel, rfl, by decide +kernel, by decide +kernel⟩
def m__law_changed (f__law_draw : FM) (f__law_pick : FM) : SM := (sSeq (sIf (tBl (eBin oEq (eCB fLen (aCons (eVar 1) aNil)) (eC (.int 0)))) (sRet (eVar 1)) sNil)
    (sSeq (sSet 2 (eCall 2 f__law_draw (aCons (eVar 0) (aCons (eCB fLen (aCons (eVar 1) aNil)) aNil))))
    (sRet (eBin oAdd (eBin oAdd (eSl (eVar 1) oNone (oSome (eVar 2))) (eTup (aCons (eCall 2 f__law_pick (aCons (eVar 0) (aCons (eLst (aCons (eC (.int 0)) (aCons (eC (.int 1)) (aCons (eC (.int 1000)) (aCons (eBin oAnd (eCB fInt (aCons (eBin oAdd (eBin oIx (eVar 1) (eVar 2)) (eC (.int 1))) aNil)) (eC (.int 511))) aNil))))) aNil))) aNil))) (eSl (eVar 1) (oSome (eBin oAdd (eVar 2) (eC (.int 1)))) oNone)))))
theorem ok__law_changed {P : Program} {w : World} {K : PySem.W.Frag} {mg : PySem.Str → Option Value} {base : Heap} {f : Addr} {fd : FuncData} {f__law_draw f__law_pick : FM} (F : FnP K "_law_changed" s__law_changed f fd) (gx : mg "_law_changed" = some (.ref f)) (c__law_draw : Cal P w K mg base "_law_draw" 1 ["d", "many"] f__law_draw) (c__law_pick : Cal P w K mg base "_law_pick" 2 ["d", "row"] f__law_pick) (z_len : mg "len" = none) (z_int : mg "int" = none) :
    Cal P w K mg base "_law_changed" 3 ["d", "row"] (runB 3 (m__law_changed f__law_draw f__law_pick)) :=
  cal_mk (k := 2) F sc__law_changed gx (fun _ _ _ _ _ _ us hl => match us, hl with | [_, _], _ => rfl) fun cdv A outer s H E hr tk hp =>
    (sx_cons (sx_if (et_cmp (m_eq hr.units) (ex_callB c_len (by rfl) z_len bt_len (ea_cons (xv 1) ea_nil)) ex_int (nomark _)) (sx_one (sx_ret (xv 1))) sx_nil)
    (sx_cons (sx_set sc__law_changed.nd (ex_c1 c__law_draw tk hr (by decide) (ea_cons (xv 0) (ea_cons (ex_callB c_len (by rfl) z_len bt_len (ea_cons (xv 1) ea_nil)) ea_nil))))
    (sx_one (sx_ret (ex_op m_add (ex_op m_add (ex_sl (xv 1) eo_none (eo_some (xv 2))) (ex_tup (ea_cons (ex_c1 c__law_pick tk hr (by decide) (ea_cons (xv 0) (ea_cons (ex_lst (ea_cons ex_int (ea_cons ex_int (ea_cons ex_int (ea_cons (ex_op m_and (ex_callT c_int (by rfl) z_int bt_int (ea_cons (ex_op m_add (ex_ix (m_ix hr.units65) (xv 1) (xv 2)) ex_int) ea_nil)) ex_int) ea_nil))))) ea_nil))) ea_nil))) (ex_sl (xv 1) (eo_some (ex_op m_add (xv 2) ex_int)) eo_none))))))
def N_law : List PySem.Str := ["script", "d", "is_large", "kinds", "style", "many", "polls", "near", "row", "turn", "limit", "fitting", "told", "other", "k", "move"]
theorem sc_law : FnScope N_law ["script"] (defScope s_law) := ⟨rfl, rfl, rfl, by decide +kernel, rfl, by decide +kernel, by decide +kernel⟩
def m_law (f__law_begin : FM) (f__law_rare : FM) (f__law_draw : FM) (f__law_poll : FM) (f__law_near : FM) (f__law_prizes : FM) (f__law_limit : FM) (f__law_fitting : FM) (f_best_set : FM) (f__law_is_best : FM) (f__law_is_shown : FM) (f__law_changed : FM) : SM := (sSeq (sSet 1 (eCall 1 f__law_begin (aCons (eVar 0) aNil)))
    (sSeq (sSet 2 (eCall 2 f__law_rare (aCons (eVar 1) (aCons (eC (.int 40)) aNil))))
    (sSeq (sSet 3 (eBin oAdd (eC (.int 1)) (eCall 2 f__law_draw (aCons (eVar 1) (aCons (eC (.int 5)) aNil)))))
    (sSeq (sSet 4 (eCall 2 f__law_draw (aCons (eVar 1) (aCons (eC (.int 5)) aNil))))
    (sSeq (sSet 5 (eIf (tVal (eVar 2)) (eBin oAdd (eC (.int 7)) (eCall 2 f__law_draw (aCons (eVar 1) (aCons (eC (.int 2)) aNil)))) (eCall 2 f__law_draw (aCons (eVar 1) (aCons (eC (.int 7)) aNil)))))
    (sSeq (sSet 6 (eCS gTuple (lComp [14] (iRg1 (eVar 5)) (gN 14) tYes (eCall 3 f__law_poll (aCons (eVar 1) (aCons (eVar 3) (aCons (eVar 4) aNil)))))))
    (sSeq (sSet 7 (eCall 2 f__law_near (aCons (eVar 1) (aCons (eVar 3) aNil))))
    (sSeq (sIf (tVal (eVar 2)) (sSet 7 (eCS gTuple (lComp [15] (iEx (eVar 7)) (gN 15) (tBl (eBin oEq (eCall 2 f__law_draw (aCons (eVar 1) (aCons (eC (.int 2)) aNil))) (eC (.int 1)))) (eVar 15)))) sNil)
    (sSeq (sSet 8 (eCall 2 f__law_prizes (aCons (eVar 1) (aCons (eVar 5) aNil))))
    (sSeq (sFor (iRg1 (eIf (tVal (eVar 2)) (eC (.int 1)) (eC (.int 3)))) (gN 9) (sSeq (sSet 10 (eCall 3 f__law_limit (aCons (eVar 1) (aCons (eVar 7) (aCons (eVar 6) aNil)))))
    (sSeq (sSet 11 (eCall 3 f__law_fitting (aCons (eVar 7) (aCons (eVar 6) (aCons (eVar 10) aNil)))))
    (sSeq (sSet 12 (eCall 4 f_best_set (aCons (eVar 7) (aCons (eVar 6) (aCons (eVar 10) (aCons (eVar 8) aNil))))))
    (sSeq (sIf (tOr (HM.tNot (tVal (eCall 4 f__law_is_best (aCons (eVar 12) (aCons (eVar 10) (aCons (eVar 8) (aCons (eVar 11) aNil))))))) (HM.tNot (tVal (eCall 5 f__law_is_shown (aCons (eVar 12) (aCons (eVar 7) (aCons (eVar 6) (aCons (eVar 10) (aCons (eVar 8) aNil))))))))) (sRet (eC (.bl false))) sNil)
    (sSeq (sSet 13 (eCall 2 f__law_changed (aCons (eVar 1) (aCons (eVar 8) aNil))))
    (sSeq (sIf (HM.tNot (tVal (eCall 4 f__law_is_best (aCons (eCallK 1 3 4 [0, 1, 2, 3] f_best_set (aCons (eVar 7) aNil) (aCons (eVar 6) (aCons (eVar 10) (aCons (eVar 13) aNil)))) (aCons (eVar 10) (aCons (eVar 13) (aCons (eVar 11) aNil))))))) (sRet (eC (.bl false))) sNil)
    (sIf (tBl (eBin oNe (eCall 4 f_best_set (aCons (eVar 7) (aCons (eVar 6) (aCons (eVar 10) (aCons (eVar 8) aNil))))) (eVar 12))) (sRet (eC (.bl false))) sNil))))))))
    (sRet (eC (.bl true)))))))))))))
theorem ok_law {P : Program} {w : World} {K : PySem.W.Frag} {mg : PySem.Str → Option Value} {base : Heap} {f : Addr} {fd : FuncData} {f__law_begin f__law_rare f__law_draw f__law_poll f__law_near f__law_prizes f__law_limit f__law_fitting f_best_set f__law_is_best f__law_is_shown f__law_changed : FM} (F : FnP K "law" s_law f fd) (c__law_begin : Cal P w K mg base "_law_begin" 1 ["script"] f__law_begin) (c__law_rare : Cal P w K mg base "_law_rare" 2 ["d", "many"] f__law_rare) (c__law_draw : Cal P w K mg base "_law_draw" 1 ["d", "many"] f__law_draw) (c__law_poll : Cal P w K mg base "_law_poll" 4 ["d", "kinds", "style"] f__law_poll) (c__law_near : Cal P w K mg base "_law_near" 2 ["d", "kinds"] f__law_near) (c__law_prizes : Cal P w K mg base "_law_prizes" 2 ["d", "many"] f__law_prizes) (c__law_limit : Cal P w K mg base "_law_limit" 4 ["d", "near", "polls"] f__law_limit) (c__law_fitting : Cal P w K mg base "_law_fitting" 4 ["near", "polls", "limit"] f__law_fitting) (c_best_set : Cal P w K mg base "best_set" 7 ["near", "questions", "budget", "gains"] f_best_set) (c__law_is_best : Cal P w K mg base "_law_is_best" 3 ["told", "limit", "row", "fitting"] f__law_is_best) (c__law_is_shown : Cal P w K mg base "_law_is_shown" 8 ["told", "near", "polls", "limit", "row"] f__law_is_shown) (c__law_changed : Cal P w K mg base "_law_changed" 3 ["d", "row"] f__law_changed) {fa_best_set : Addr} {fd_best_set : FuncData} (FK_best_set : FnP K "best_set" s_best_set fa_best_set fd_best_set) (gk_best_set : mg "best_set" = some (.ref fa_best_set)) (z_range : mg "range" = none) (z_tuple : mg "tuple" = none) :
    FnM P w K mg base 9 f fd ["script"] (runB 16 (m_law f__law_begin f__law_rare f__law_draw f__law_poll f__law_near f__law_prizes f__law_limit f__law_fitting f_best_set f__law_is_best f__law_is_shown f__law_changed)) :=
  fn_def (k := 8) F sc_law fun cdv A outer s H E hr tk hp =>
    (sx_cons (sx_set sc_law.nd (ex_c1 c__law_begin tk hr (by decide) (ea_cons (xv 0) ea_nil)))
    (sx_cons (sx_set sc_law.nd (ex_c1 c__law_rare tk hr (by decide) (ea_cons (xv 1) (ea_cons ex_int ea_nil))))
    (sx_cons (sx_set sc_law.nd (ex_op m_add ex_int (ex_c1 c__law_draw tk hr (by decide) (ea_cons (xv 1) (ea_cons ex_int ea_nil)))))
    (sx_cons (sx_set sc_law.nd (ex_c1 c__law_draw tk hr (by decide) (ea_cons (xv 1) (ea_cons ex_int ea_nil))))
    (sx_cons (sx_set sc_law.nd (ex_if (et_val (xv 2)) (ex_op m_add ex_int (ex_c1 c__law_draw tk hr (by decide) (ea_cons (xv 1) (ea_cons ex_int ea_nil)))) (ex_c1 c__law_draw tk hr (by decide) (ea_cons (xv 1) (ea_cons ex_int ea_nil)))))
    (sx_cons (sx_set sc_law.nd (ex_callTs s_tuple (by rfl) z_tuple bt_tuple (es_el (el_comp (own := [(("k" : PySem.Str), 14)]) (by rfl) sc_law.nd (ei_range1 (by rfl) z_range (xv 5)) (blkOk_by (N := N_law) (sc := (defScope s_law)) (by decide +kernel)) (fun _ _ _ _ _ => (eg_name sc_law.nd)) (fun _ _ _ _ _ => ets_nil) (fun _ _ _ _ _ => (ex_c1 c__law_poll tk0 hr (by decide) (ea_cons (xv 1) (ea_cons (xv 3) (ea_cons (xv 4) ea_nil)))))))))
    (sx_cons (sx_set sc_law.nd (ex_c1 c__law_near tk hr (by decide) (ea_cons (xv 1) (ea_cons (xv 3) ea_nil))))
    (sx_cons (sx_if (et_val (xv 2)) (sx_one (sx_set sc_law.nd (ex_callTs s_tuple (by rfl) z_tuple bt_tuple (es_el (el_comp (own := [(("move" : PySem.Str), 15)]) (by rfl) sc_law.nd (ei_ex (xv 7)) (blkOk_by (N := N_law) (sc := (defScope s_law)) (by decide +kernel)) (fun _ _ _ _ _ => (eg_name sc_law.nd)) (fun _ _ _ _ _ => (ets_one (et_cmp (m_eq hr.units) (ex_c1 c__law_draw tk0 hr (by decide) (ea_cons (xv 1) (ea_cons ex_int ea_nil))) ex_int (nomark _)))) (fun _ _ _ _ _ => (xv 15))))))) sx_nil)
    (sx_cons (sx_set sc_law.nd (ex_c1 c__law_prizes tk hr (by decide) (ea_cons (xv 1) (ea_cons (xv 5) ea_nil))))
    (sx_cons (sx_for hp (by rfl) (ei_range1 (by rfl) z_range (ex_if (et_val (xv 2)) ex_int ex_int)) (eg_name sc_law.nd) (sx_cons (sx_set sc_law.nd (ex_c1 c__law_limit tk hr (by decide) (ea_cons (xv 1) (ea_cons (xv 7) (ea_cons (xv 6) ea_nil)))))
    (sx_cons (sx_set sc_law.nd (ex_c1 c__law_fitting tk hr (by decide) (ea_cons (xv 7) (ea_cons (xv 6) (ea_cons (xv 10) ea_nil)))))
    (sx_cons (sx_set sc_law.nd (ex_c1 c_best_set tk hr (by decide) (ea_cons (xv 7) (ea_cons (xv 6) (ea_cons (xv 10) (ea_cons (xv 8) ea_nil))))))
    (sx_cons (sx_if (Ew.et (ew_or (et_not (et_val (ex_c1 c__law_is_best tk hr (by decide) (ea_cons (xv 12) (ea_cons (xv 10) (ea_cons (xv 8) (ea_cons (xv 11) ea_nil))))))) (ew_or1 (et_not (et_val (ex_c1 c__law_is_shown tk hr (by decide) (ea_cons (xv 12) (ea_cons (xv 7) (ea_cons (xv 6) (ea_cons (xv 10) (ea_cons (xv 8) ea_nil))))))))))) (sx_one (sx_ret ex_bl)) sx_nil)
    (sx_cons (sx_set sc_law.nd (ex_c1 c__law_changed tk hr (by decide) (ea_cons (xv 1) (ea_cons (xv 8) ea_nil))))
    (sx_cons (sx_if (et_not (et_val (ex_c1 c__law_is_best tk hr (by decide) (ea_cons (ex_ck (n := 1) (ks := ["questions", "budget", "gains"]) (is := [0, 1, 2, 3]) c_best_set FK_best_set gk_best_set (fun _ _ _ _ _ _ us ws hl hk => match us, ws, hl, hk with | [_], [_, _, _], _, _ => rfl) tk hr (by decide) (ea_cons (xv 7) ea_nil) (ek_cons (xv 6) (ek_cons (xv 10) (ek_cons (xv 13) ek_nil)))) (ea_cons (xv 10) (ea_cons (xv 13) (ea_cons (xv 11) ea_nil))))))) (sx_one (sx_ret ex_bl)) sx_nil)
    (sx_one (sx_if (et_cmp (m_ne hr.units) (ex_c1 c_best_set tk hr (by decide) (ea_cons (xv 7) (ea_cons (xv 6) (ea_cons (xv 10) (ea_cons (xv 8) ea_nil))))) (xv 12) (nomark _)) (sx_one (sx_ret ex_bl)) sx_nil)))))))))
    (sx_one (sx_ret ex_bl))))))))))))
end K71

/-! fractions in lowest terms -/
namespace HM
open PySem PySem.Spec L2
/-- the sign that makes a denominator positive, times the greatest common divisor -/
def com (n d : Int) : Int := if d < 0 then -((Nat.gcd n.natAbs d.natAbs : Nat) : Int) else (Nat.gcd n.natAbs d.natAbs : Nat)
def rn (n d : Int) : Int := n.fdiv (com n d)
def rd (n d : Int) : Int := d.fdiv (com n d)
abbrev fr (a b : Int) : D := .tup [.int a, .int b]
abbrev rat (n d : Int) : D := fr (rn n d) (rd n d)
theorem com_abs {n d : Int} : (com n d).natAbs = Nat.gcd n.natAbs d.natAbs := by
  unfold com
  split <;> omega
theorem com_ne {n d : Int} (h : d ≠ 0) : com n d ≠ 0 := by
  have := Nat.gcd_pos_of_pos_right n.natAbs (Int.natAbs_pos.mpr h)
  have := com_abs (n := n) (d := d)
  omega
theorem com_le {n d : Int} (h : d ≠ 0) : (com n d).natAbs ≤ d.natAbs := by
  rw [com_abs]
  exact Nat.le_of_dvd (Int.natAbs_pos.mpr h) (Nat.gcd_dvd_right _ _)
theorem rat_n {n d : Int} (h : d ≠ 0) : n = com n d * rn n d := by
  have z : com n d ∣ n := by
    rw [← Int.natAbs_dvd_natAbs, com_abs]
    exact Nat.gcd_dvd_left _ _
  obtain ⟨k, hk⟩ := z
  have e : rn n d = k := by
    unfold rn
    rw [hk]
    have hc : com n d ≠ 0 := com_ne h
    rw [← hk]
    rw (occs := .pos [1]) [hk]
    exact Int.mul_fdiv_cancel_left k hc
  rw [e]
  exact hk
theorem rat_d {n d : Int} (h : d ≠ 0) : d = com n d * rd n d := by
  have z : com n d ∣ d := by
    rw [← Int.natAbs_dvd_natAbs, com_abs]
    exact Nat.gcd_dvd_right _ _
  obtain ⟨k, hk⟩ := z
  have e : rd n d = k := by
    unfold rd
    have hc : com n d ≠ 0 := com_ne h
    rw (occs := .pos [1]) [hk]
    exact Int.mul_fdiv_cancel_left k hc
  rw [e]
  exact hk
theorem rat_pos {n d : Int} (h : d ≠ 0) : 0 < rd n d := by
  have e := rat_d (n := n) h
  have hg := com_ne (n := n) h
  by_cases hd : d < 0
  · have hc : com n d < 0 := by
      have : com n d = -((Nat.gcd n.natAbs d.natAbs : Nat) : Int) := by unfold com; rw [if_pos hd]
      omega
    rcases Int.lt_trichotomy 0 (rd n d) with z | z | z
    · exact z
    · rw [← z] at e
      simp at e
      exact absurd e h
    · have := Int.mul_pos_of_neg_of_neg hc z
      omega
  · have hc : 0 < com n d := by
      have : com n d = ((Nat.gcd n.natAbs d.natAbs : Nat) : Int) := by unfold com; rw [if_neg hd]
      omega
    rcases Int.lt_trichotomy 0 (rd n d) with z | z | z
    · exact z
    · rw [← z] at e
      simp at e
      exact absurd e h
    · have := Int.mul_neg_of_pos_of_neg hc z
      omega
theorem rat_cop {n d : Int} (h : d ≠ 0) : Nat.gcd (rn n d).natAbs (rd n d).natAbs = 1 := by
  have e1 := congrArg Int.natAbs (rat_n (n := n) h)
  have e2 := congrArg Int.natAbs (rat_d (n := n) h)
  rw [Int.natAbs_mul] at e1 e2
  have z : Nat.gcd n.natAbs d.natAbs = (com n d).natAbs * Nat.gcd (rn n d).natAbs (rd n d).natAbs := by
    rw [← Nat.gcd_mul_left, ← e1, ← e2]
  rw [← com_abs] at z
  have hc : 0 < (com n d).natAbs := Int.natAbs_pos.mpr (com_ne h)
  have : (com n d).natAbs * 1 = (com n d).natAbs * Nat.gcd (rn n d).natAbs (rd n d).natAbs := by omega
  exact (Nat.eq_of_mul_eq_mul_left hc this).symm
theorem rat_cross {n d : Int} (h : d ≠ 0) : rn n d * d = n * rd n d := by
  have e1 := rat_n (n := n) h
  have e2 := rat_d (n := n) h
  calc rn n d * d = rn n d * (com n d * rd n d) := by rw [← e2]
    _ = com n d * rn n d * rd n d := by rw [← Int.mul_assoc, Int.mul_comm (rn n d)]
    _ = n * rd n d := by rw [← e1]
theorem rn_le {n d : Int} (h : d ≠ 0) : (rn n d).natAbs ≤ n.natAbs := by
  have e1 := congrArg Int.natAbs (rat_n (n := n) h)
  rw [Int.natAbs_mul] at e1
  have hc : 0 < (com n d).natAbs := Int.natAbs_pos.mpr (com_ne h)
  rw [e1]
  exact Nat.le_mul_of_pos_left _ hc
theorem rd_le {n d : Int} (h : d ≠ 0) : (rd n d).natAbs ≤ d.natAbs := by
  have e1 := congrArg Int.natAbs (rat_d (n := n) h)
  rw [Int.natAbs_mul] at e1
  have hc : 0 < (com n d).natAbs := Int.natAbs_pos.mpr (com_ne h)
  rw [e1]
  exact Nat.le_mul_of_pos_left _ hc
/-- two pairs in lowest terms that are equal crosswise are equal -/
theorem low_eq {a b c d : Int} (hb : 0 < b) (hd : 0 < d) (h1 : Nat.gcd a.natAbs b.natAbs = 1) (h2 : Nat.gcd c.natAbs d.natAbs = 1) (e : a * d = c * b) : a = c ∧ b = d := by
  have e' := congrArg Int.natAbs e
  rw [Int.natAbs_mul, Int.natAbs_mul] at e'
  have bd : b.natAbs ∣ d.natAbs := by
    have z : b.natAbs ∣ a.natAbs * d.natAbs := ⟨c.natAbs, by rw [e', Nat.mul_comm]⟩
    exact Nat.Coprime.dvd_of_dvd_mul_left ((Nat.gcd_comm _ _).trans h1 : Nat.Coprime _ _) z
  have db : d.natAbs ∣ b.natAbs := by
    have z : d.natAbs ∣ c.natAbs * b.natAbs := ⟨a.natAbs, by rw [← e', Nat.mul_comm]⟩
    exact Nat.Coprime.dvd_of_dvd_mul_left ((Nat.gcd_comm _ _).trans h2 : Nat.Coprime _ _) z
  have ebd : b = d := by
    have := Nat.dvd_antisymm bd db
    omega
  subst ebd
  exact ⟨Int.eq_of_mul_eq_mul_right (by omega) e, rfl⟩
theorem rat_eq {n d m e : Int} (hd : d ≠ 0) (he : e ≠ 0) (h : n * e = m * d) : rn n d = rn m e ∧ rd n d = rd m e := by
  refine low_eq (rat_pos hd) (rat_pos he) (rat_cop hd) (rat_cop he) ?_
  have c1 := rat_cross (n := n) hd
  have c2 := rat_cross (n := m) he
  -- (rn n d * rd m e) * (d * e) = (rn m e * rd n d) * (d * e)
  refine Int.eq_of_mul_eq_mul_right (show d * e ≠ 0 from Int.mul_ne_zero hd he) ?_
  calc rn n d * rd m e * (d * e) = (rn n d * d) * (rd m e * e) := by simp only [Int.mul_assoc, Int.mul_comm, Int.mul_left_comm]
    _ = (n * rd n d) * (rd m e * e) := by rw [c1]
    _ = (n * e) * (rd n d * rd m e) := by simp only [Int.mul_assoc, Int.mul_comm, Int.mul_left_comm]
    _ = (m * d) * (rd n d * rd m e) := by rw [h]
    _ = (m * rd m e) * (rd n d * d) := by simp only [Int.mul_assoc, Int.mul_comm, Int.mul_left_comm]
    _ = (rn m e * e) * (rd n d * d) := by rw [c2]
    _ = rn m e * rd n d * (d * e) := by simp only [Int.mul_assoc, Int.mul_comm, Int.mul_left_comm]
/-- a fraction in lowest terms is its own -/
theorem rat_self {a b : Int} (hb : 0 < b) (h : Nat.gcd a.natAbs b.natAbs = 1) : rn a b = a ∧ rd a b = b :=
  low_eq (rat_pos (by omega)) hb (rat_cop (by omega)) h (rat_cross (by omega))
/-! sizes -/
theorem okMul_of {i j : Int} {k l : Nat} (hi : i.natAbs < 2 ^ k) (hj : j.natAbs < 2 ^ l) (h : k + l < 1000000) : okMul i j = true := by
  refine decide_eq_true (.inr ?_)
  have a : ∀ {x k : Nat}, x < 2 ^ k → x.log2 ≤ k := fun {x k} h => by
    by_cases z : x = 0
    · subst z
      exact Nat.zero_le _
    · exact Nat.le_of_lt ((Nat.log2_lt z).mpr h)
  have := a hi
  have := a hj
  omega
theorem mul_lt {i j : Int} {k l : Nat} (hi : i.natAbs < 2 ^ k) (hj : j.natAbs < 2 ^ l) : (i * j).natAbs < 2 ^ (k + l) := by
  rw [Int.natAbs_mul, Nat.pow_add]
  exact Nat.mul_lt_mul'' hi hj
theorem add_lt {i j : Int} {k : Nat} (hi : i.natAbs < 2 ^ k) (hj : j.natAbs < 2 ^ k) : (i + j).natAbs < 2 ^ (k + 1) := by
  rw [Nat.pow_succ]
  omega
theorem sub_lt {i j : Int} {k : Nat} (hi : i.natAbs < 2 ^ k) (hj : j.natAbs < 2 ^ k) : (i - j).natAbs < 2 ^ (k + 1) := by
  rw [Nat.pow_succ]
  omega
theorem lt_up {x k l : Nat} (h : x < 2 ^ k) (hl : k ≤ l) : x < 2 ^ l := Nat.lt_of_lt_of_le h (Nat.pow_le_pow_right (by decide) hl)
theorem okDiv_com {n d i : Int} {k : Nat} (h : d ≠ 0) (hd : d.natAbs < 2 ^ k) (hk : k ≤ 9000) : okDiv i (com n d) = true := by
  have hc := com_ne (n := n) h
  refine decide_eq_true ⟨hc, ?_⟩
  have hl := com_le (n := n) h
  have : (com n d).natAbs ≠ 0 := by omega
  rw [Nat.log2_lt this]
  exact Nat.lt_of_le_of_lt hl (lt_up hd hk)
end HM

namespace K71
open PySem PySem.Spec PyProof.Rows L2 HM

def f_ratio : FM := runB 3 (m_ratio)
theorem le_ratio : ∀ ds st, Le st (runB 3 (m_ratio) ds st) (f_ratio ds st) := fun _ _ => .refl _
def f_times : FM := runB 2 (m_times f_ratio)
theorem le_times : ∀ ds st, Le st (runB 2 (m_times f_ratio) ds st) (f_times ds st) := fun _ _ => .refl _
def f_is_below : FM := runB 2 (m_is_below)
theorem le_is_below : ∀ ds st, Le st (runB 2 (m_is_below) ds st) (f_is_below ds st) := fun _ _ => .refl _
def f_is_changed : FM := runB 2 (m_is_changed)
theorem le_is_changed : ∀ ds st, Le st (runB 2 (m_is_changed) ds st) (f_is_changed ds st) := fun _ _ => .refl _
def f_changed_factors : FM := runB 7 (m_changed_factors f_is_changed)
theorem le_changed_factors : ∀ ds st, Le st (runB 7 (m_changed_factors f_is_changed) ds st) (f_changed_factors ds st) := fun _ _ => .refl _
def f_load : FM := runB 5 (m_load f_changed_factors f_times)
theorem le_load : ∀ ds st, Le st (runB 5 (m_load f_changed_factors f_times) ds st) (f_load ds st) := fun _ _ => .refl _
def f_first_burst : FM := runB 5 (m_first_burst f_is_below f_load)
theorem le_first_burst : ∀ ds st, Le st (runB 5 (m_first_burst f_is_below f_load) ds st) (f_first_burst ds st) := fun _ _ => .refl _
def f_is_fitting : FM := runB 4 (m_is_fitting f_is_below f_first_burst)
theorem le_is_fitting : ∀ ds st, Le st (runB 4 (m_is_fitting f_is_below f_first_burst) ds st) (f_is_fitting ds st) := fun _ _ => .refl _
def f_first_free : FM := runB 1 (m_first_free)
theorem le_first_free : ∀ ds st, Le st (runB 1 (m_first_free) ds st) (f_first_free ds st) := fun _ _ => .refl _
def f_longer_sets : FM := runB 3 (m_longer_sets f_first_free)
theorem le_longer_sets : ∀ ds st, Le st (runB 3 (m_longer_sets f_first_free) ds st) (f_longer_sets ds st) := fun _ _ => .refl _
def f_all_sets : FM := runB 3 (m_all_sets f_longer_sets)
theorem le_all_sets : ∀ ds st, Le st (runB 3 (m_all_sets f_longer_sets) ds st) (f_all_sets ds st) := fun _ _ => .refl _
def f_larger_sets : FM := runB 3 (m_larger_sets)
theorem le_larger_sets : ∀ ds st, Le st (runB 3 (m_larger_sets) ds st) (f_larger_sets ds st) := fun _ _ => .refl _
def f_lesser_sets : FM := runB 2 (m_lesser_sets)
theorem le_lesser_sets : ∀ ds st, Le st (runB 2 (m_lesser_sets) ds st) (f_lesser_sets ds st) := fun _ _ => .refl _
def f_fitting_sets : FM := runB 6 (m_fitting_sets f_is_below f_longer_sets f_is_fitting)
theorem le_fitting_sets : ∀ ds st, Le st (runB 6 (m_fitting_sets f_is_below f_longer_sets f_is_fitting) ds st) (f_fitting_sets ds st) := fun _ _ => .refl _
def f_noted : FM := runB 3 (m_noted)
theorem le_noted : ∀ ds st, Le st (runB 3 (m_noted) ds st) (f_noted ds st) := fun _ _ => .refl _
def f_is_greatest : FM := runB 4 (m_is_greatest f_larger_sets)
theorem le_is_greatest : ∀ ds st, Le st (runB 4 (m_is_greatest f_larger_sets) ds st) (f_is_greatest ds st) := fun _ _ => .refl _
def f_is_least : FM := runB 3 (m_is_least f_lesser_sets)
theorem le_is_least : ∀ ds st, Le st (runB 3 (m_is_least f_lesser_sets) ds st) (f_is_least ds st) := fun _ _ => .refl _
def f_greatest_sets : FM := runB 6 (m_greatest_sets f_fitting_sets f_noted f_is_greatest)
theorem le_greatest_sets : ∀ ds st, Le st (runB 6 (m_greatest_sets f_fitting_sets f_noted f_is_greatest) ds st) (f_greatest_sets ds st) := fun _ _ => .refl _
def f_bars_of : FM := runB 6 (m_bars_of f_is_below f_noted f_fitting_sets f_all_sets f_is_least f_first_burst)
theorem le_bars_of : ∀ ds st, Le st (runB 6 (m_bars_of f_is_below f_noted f_fitting_sets f_all_sets f_is_least f_first_burst) ds st) (f_bars_of ds st) := fun _ _ => .refl _
def f_gain_of : FM := runB 3 (m_gain_of)
theorem le_gain_of : ∀ ds st, Le st (runB 3 (m_gain_of) ds st) (f_gain_of ds st) := fun _ _ => .refl _
def f_best_set : FM := runB 6 (m_best_set f_fitting_sets f_gain_of)
theorem le_best_set : ∀ ds st, Le st (runB 6 (m_best_set f_fitting_sets f_gain_of) ds st) (f_best_set ds st) := fun _ _ => .refl _
def f__law_begin : FM := runB 2 (m__law_begin)
theorem le__law_begin : ∀ ds st, Le st (runB 2 (m__law_begin) ds st) (f__law_begin ds st) := fun _ _ => .refl _
def f__law_draw : FM := runB 5 (m__law_draw)
theorem le__law_draw : ∀ ds st, Le st (runB 5 (m__law_draw) ds st) (f__law_draw ds st) := fun _ _ => .refl _
def f__law_pick : FM := runB 2 (m__law_pick f__law_draw)
theorem le__law_pick : ∀ ds st, Le st (runB 2 (m__law_pick f__law_draw) ds st) (f__law_pick ds st) := fun _ _ => .refl _
def f__law_rare : FM := runB 2 (m__law_rare f__law_draw)
theorem le__law_rare : ∀ ds st, Le st (runB 2 (m__law_rare f__law_draw) ds st) (f__law_rare ds st) := fun _ _ => .refl _
def f__law_is_int : FM := runB 1 (m__law_is_int)
theorem le__law_is_int : ∀ ds st, Le st (runB 1 (m__law_is_int) ds st) (f__law_is_int ds st) := fun _ _ => .refl _
def f__law_is_ints : FM := runB 2 (m__law_is_ints f__law_is_int)
theorem le__law_is_ints : ∀ ds st, Le st (runB 2 (m__law_is_ints f__law_is_int) ds st) (f__law_is_ints ds st) := fun _ _ => .refl _
def f__law_is_rows : FM := runB 3 (m__law_is_rows)
theorem le__law_is_rows : ∀ ds st, Le st (runB 3 (m__law_is_rows) ds st) (f__law_is_rows ds st) := fun _ _ => .refl _
def f__law_gcd : FM := runB 5 (m__law_gcd)
theorem le__law_gcd : ∀ ds st, Le st (runB 5 (m__law_gcd) ds st) (f__law_gcd ds st) := fun _ _ => .refl _
def f__law_f : FM := runB 3 (m__law_f f__law_gcd)
theorem le__law_f : ∀ ds st, Le st (runB 3 (m__law_f f__law_gcd) ds st) (f__law_f ds st) := fun _ _ => .refl _
def f__law_plus : FM := runB 2 (m__law_plus f__law_f)
theorem le__law_plus : ∀ ds st, Le st (runB 2 (m__law_plus f__law_f) ds st) (f__law_plus ds st) := fun _ _ => .refl _
def f__law_minus : FM := runB 2 (m__law_minus f__law_f)
theorem le__law_minus : ∀ ds st, Le st (runB 2 (m__law_minus f__law_f) ds st) (f__law_minus ds st) := fun _ _ => .refl _
def f__law_all_edits : FM := runB 4 (m__law_all_edits)
theorem le__law_all_edits : ∀ ds st, Le st (runB 4 (m__law_all_edits) ds st) (f__law_all_edits ds st) := fun _ _ => .refl _
def f__law_near : FM := runB 6 (m__law_near f__law_all_edits f__law_draw)
theorem le__law_near : ∀ ds st, Le st (runB 6 (m__law_near f__law_all_edits f__law_draw) ds st) (f__law_near ds st) := fun _ _ => .refl _
def f__law_factor : FM := runB 3 (m__law_factor f__law_pick f__law_f f__law_draw)
theorem le__law_factor : ∀ ds st, Le st (runB 3 (m__law_factor f__law_pick f__law_f f__law_draw) ds st) (f__law_factor ds st) := fun _ _ => .refl _
def f__law_poll : FM := runB 5 (m__law_poll f__law_draw f__law_factor)
theorem le__law_poll : ∀ ds st, Le st (runB 5 (m__law_poll f__law_draw f__law_factor) ds st) (f__law_poll ds st) := fun _ _ => .refl _
def f__law_is_changed : FM := runB 4 (m__law_is_changed)
theorem le__law_is_changed : ∀ ds st, Le st (runB 4 (m__law_is_changed) ds st) (f__law_is_changed ds st) := fun _ _ => .refl _
def f__law_products : FM := runB 8 (m__law_products f__law_is_changed)
theorem le__law_products : ∀ ds st, Le st (runB 8 (m__law_products f__law_is_changed) ds st) (f__law_products ds st) := fun _ _ => .refl _
def f__law_burst : FM := runB 7 (m__law_burst f__law_products)
theorem le__law_burst : ∀ ds st, Le st (runB 7 (m__law_burst f__law_products) ds st) (f__law_burst ds st) := fun _ _ => .refl _
def f__law_sets : FM := runB 4 (m__law_sets)
theorem le__law_sets : ∀ ds st, Le st (runB 4 (m__law_sets) ds st) (f__law_sets ds st) := fun _ _ => .refl _
def f__law_fitting : FM := runB 5 (m__law_fitting f__law_sets f__law_burst)
theorem le__law_fitting : ∀ ds st, Le st (runB 5 (m__law_fitting f__law_sets f__law_burst) ds st) (f__law_fitting ds st) := fun _ _ => .refl _
def f__law_limit : FM := runB 9 (m__law_limit f__law_draw f__law_f f__law_products f__law_pick f__law_minus f__law_plus)
theorem le__law_limit : ∀ ds st, Le st (runB 9 (m__law_limit f__law_draw f__law_f f__law_products f__law_pick f__law_minus f__law_plus) ds st) (f__law_limit ds st) := fun _ _ => .refl _
def f__law_lies : FM := runB 3 (m__law_lies)
theorem le__law_lies : ∀ ds st, Le st (runB 3 (m__law_lies) ds st) (f__law_lies ds st) := fun _ _ => .refl _
def f__law_prizes : FM := runB 5 (m__law_prizes f__law_draw)
theorem le__law_prizes : ∀ ds st, Le st (runB 5 (m__law_prizes f__law_draw) ds st) (f__law_prizes ds st) := fun _ _ => .refl _
def f__law_sum : FM := runB 3 (m__law_sum)
theorem le__law_sum : ∀ ds st, Le st (runB 3 (m__law_sum) ds st) (f__law_sum ds st) := fun _ _ => .refl _
def f__law_is_better : FM := runB 5 (m__law_is_better f__law_sum)
theorem le__law_is_better : ∀ ds st, Le st (runB 5 (m__law_is_better f__law_sum) ds st) (f__law_is_better ds st) := fun _ _ => .refl _
def f__law_is_best : FM := runB 5 (m__law_is_best f__law_is_ints f__law_is_better)
theorem le__law_is_best : ∀ ds st, Le st (runB 5 (m__law_is_best f__law_is_ints f__law_is_better) ds st) (f__law_is_best ds st) := fun _ _ => .refl _
def f__law_is_shown : FM := runB 10 (m__law_is_shown f_bars_of f__law_is_rows f__law_is_ints f__law_sets f__law_is_better f__law_lies f_greatest_sets)
theorem le__law_is_shown : ∀ ds st, Le st (runB 10 (m__law_is_shown f_bars_of f__law_is_rows f__law_is_ints f__law_sets f__law_is_better f__law_lies f_greatest_sets) ds st) (f__law_is_shown ds st) := fun _ _ => .refl _
def f__law_changed : FM := runB 3 (m__law_changed f__law_draw f__law_pick)
theorem le__law_changed : ∀ ds st, Le st (runB 3 (m__law_changed f__law_draw f__law_pick) ds st) (f__law_changed ds st) := fun _ _ => .refl _
def f_law : FM := runB 16 (m_law f__law_begin f__law_rare f__law_draw f__law_poll f__law_near f__law_prizes f__law_limit f__law_fitting f_best_set f__law_is_best f__law_is_shown f__law_changed)
theorem le_law : ∀ ds st, Le st (runB 16 (m_law f__law_begin f__law_rare f__law_draw f__law_poll f__law_near f__law_prizes f__law_limit f__law_fitting f_best_set f__law_is_best f__law_is_shown f__law_changed) ds st) (f_law ds st) := fun _ _ => .refl _

theorem gcd_loop {st : Store} {g : EM Bool} {u : SM} {x y : Option D}
    (hg : ∀ (a b : Nat) c, g [x, y, some (.int a), some (.int b), c] st = .ok (decide (0 < b)) st)
    (hu : ∀ (a b : Nat) c, 0 < b → u [x, y, some (.int a), some (.int b), c] st = .nx [x, y, some (.int b), some (.int (a % b : Nat)), some (.int (a % b : Nat))] st) :
    ∀ (n a b : Nat) (c : Option D), b < n → ∃ c', whileN g u n [x, y, some (.int a), some (.int b), c] st = .nx [x, y, some (.int (Nat.gcd a b : Nat)), some (.int 0), c'] st
  | 0, a, b, c, h => absurd h (Nat.not_lt_zero _)
  | n + 1, a, b, c, h => by
    unfold whileN
    rw [hg, bindE_ok]
    by_cases hb : 0 < b
    · rw [decide_eq_true hb, if_pos rfl, hu a b c hb]
      obtain ⟨c', e⟩ := gcd_loop hg hu n b (a % b) (some (.int (a % b : Nat))) (Nat.lt_of_lt_of_le (Nat.mod_lt a hb) (by omega))
      refine ⟨c', ?_⟩
      rw [Nat.gcd_comm a b, Nat.gcd_rec b a, Nat.gcd_comm]
      exact e
    · have : b = 0 := by omega
      subst this
      rw [if_neg (by simp)]
      exact ⟨c, by rw [Nat.gcd_zero_right]; rfl⟩
theorem r_gcd {st : Store} {i j : Int} (h : j.natAbs < 2 ^ 9000) : f__law_gcd [.int i, .int j] st = .ok (.int (Nat.gcd i.natAbs j.natAbs : Nat)) st := by
  unfold f__law_gcd
  rw [runB_e]
  unfold m__law_gcd
  have hw : ∃ c', whileN (tBl (eBin oGt (eVar 3) (eC (.int 0)))) (sSeq (sSet 4 (eBin oMod (eCB fInt (aCons (eVar 2) aNil)) (eVar 3))) (sSeq (sSet 2 (eVar 3)) (sSet 3 (eVar 4)))) big [some (.int i), some (.int j), some (.int (i.natAbs : Nat)), some (.int (j.natAbs : Nat)), none] st = .nx [some (.int i), some (.int j), some (.int (Nat.gcd i.natAbs j.natAbs : Nat)), some (.int 0), c'] st := by
    refine gcd_loop (fun a b c => ?_) (fun a b c hb => ?_) big _ _ none (Nat.lt_of_lt_of_le h (le_big (k := 9000) (by decide) (Nat.le_refl _)))
    · simp
    · have om : okMod (a : Int) (b : Int) = true := okMod_of (by omega)
      have e : (a : Int).fmod (b : Int) = (a % b : Nat) := by
        rw [Int.fmod_eq_emod_of_nonneg _ (by omega)]
        rfl
      simp [om, e]
  obtain ⟨c', hw⟩ := hw
  simp [hw]

theorem r_is_int {st : Store} {i : Int} : f__law_is_int [.int i] st = .ok (.bl true) st := by
  simp [f__law_is_int, runB_e, m__law_is_int]

/-! draws -/
theorem r_begin {ns : List Int} (hl : ns.length ≤ 63) : ∃ st', f__law_begin [.rol (ns.map D.int)] [] = .ok (.ref 1) st' ∧ DS ns st' ∧ st'.length = 2 := by
  obtain ⟨ys, st1, e, ⟨h1, h2⟩, hl2⟩ := comp_inv (q := .fix (ns.map D.int)) (set := gN 1) (fe := eCB fInt (aCons (eVar 1) aNil)) (τ := [some (.rol (ns.map D.int)), none]) (fun acc s => acc = (ns.map D.int).take acc.length ∧ s = ([] : Store)) (fun _ _ _ => rfl) (ns.map D.int) [] [] ⟨rfl, rfl⟩ fun i d acc s hi ha hp => by
    obtain ⟨h1, rfl⟩ := hp
    refine ⟨_, rfl, d, [], ?_, ?_, rfl⟩
    · have : ∃ k, d = .int k := by
        rw [List.getElem?_map] at hi
        cases hz : ns[i]? with
        | none => simp [hz] at hi
        | some k => exact ⟨k, by simpa [hz] using hi.symm⟩
      obtain ⟨k, rfl⟩ := this
      simp [gN]
    · simp only [List.length_nil, Nat.zero_add] at ha
      rw [List.length_append, List.length_singleton, ha, List.take_succ, hi, ← ha, ← h1]
      rfl
  have hy : ys = ns.map D.int := by
    rw [h1, List.take_of_length_le]
    simp at hl2
    simp [hl2]
  subst hy h2
  refine ⟨[.lst (ns.map D.int), .lst [.ref 0, .int 0, .int 0, .int 7]], ?_, ⟨rfl, 0, 0, 7, by decide, rfl⟩, rfl⟩
  have e : compL (.fix (ns.map D.int)) (gN 1) tYes (eCB fInt (aCons (eVar 1) aNil)) (wipeD [some (.rol (ns.map D.int)), none] [1]) (ns.map D.int) [] [] = .ok (ns.map D.int) [] := e
  have hs : ns.length ≤ 16777216 := by omega
  simp [f__law_begin, runB_e, m__law_begin, lComp_e, lc1, hs, e]
theorem r_draw {ns : List Int} {st : Store} {many : Int} (H : DS ns st) (h0 : 0 < many) (h1 : many.natAbs.log2 < 9000) :
    ∃ v st', f__law_draw [.ref 1, .int many] st = .ok (.int v) st' ∧ 0 ≤ v ∧ v < many ∧ DS ns st' ∧ Fr st st' := by
  obtain ⟨c0, p, h, q, hp, c1⟩ := H
  have set1 : ∀ p' h' q' : Int, 0 ≤ p' → ∀ s, s = st ∨ (∃ ys, s = st.set 1 (.lst ys)) ∨ (∃ ys zs, s = (st.set 1 (.lst ys)).set 1 (.lst zs)) → DS ns (s.set 1 (.lst [.ref 0, .int p', .int h', .int q'])) ∧ Fr st (s.set 1 (.lst [.ref 0, .int p', .int h', .int q'])) := by
    intro p' h' q' hp' s hs
    have e : s.set 1 (.lst [.ref 0, .int p', .int h', .int q']) = st.set 1 (.lst [.ref 0, .int p', .int h', .int q']) := by
      rcases hs with rfl | ⟨ys, rfl⟩ | ⟨ys, zs, rfl⟩ <;> simp [List.set_set]
    rw [e]
    refine ⟨⟨by rw [lstAt_ne (by decide)]; exact c0, p', h', q', hp', lstAt_set c1⟩, by simp, fun n hn _ => ?_⟩
    rw [List.getElem?_set_ne (Ne.symm hn)]
  have od : ∀ i, okDiv i many = true := fun i => okDiv_of (by omega) h1
  have om : ∀ i, okMod i many = true := fun i => okMod_of (by omega)
  have b0 : ∀ i : Int, 0 ≤ i.fmod many := fun i => Int.fmod_nonneg_of_pos i h0
  have b1 : ∀ i : Int, i.fmod many < many := fun i => Int.fmod_lt_of_pos i h0
  unfold f__law_draw
  rw [runB_e]
  unfold m__law_draw
  by_cases hh : 0 < h
  · obtain ⟨d1, d2⟩ := set1 p (h.fdiv many) q hp st (.inl rfl)
    refine ⟨h.fmod many, _, ?_, b0 _, b1 _, d1, d2⟩
    have x2 : ixN 4 2 = some 2 := rfl
    simp [oIx_ref c1, hh, od, om, oSet_ref c1, x2]
  · -- the size of the script's number here
    have main : ∀ (size : Int) (c : Option D), (0 ≤ size) → ∃ v st', ((sSeq (sAugS oIAdd (eVar 0) (eC (.int 1)) (eC (.int 1)))
        (sSeq (sIf (tBl (eBin oGe (eVar 3) (eBin oMul (eC (.int 2)) (eBin oPow (eC (.int 10)) (eC (.int 18)))))) (sSeq (sSet 2 (eBin oMod (eCB fInt (aCons (eBin oDiv (eVar 3) (eC (.int 2))) aNil)) (eBin oShl (eC (.int 1)) (eC (.int 6000)))))
        (sSeq (sSub (eVar 0) (eC (.int 2)) (eBin oDiv (eVar 2) (eVar 1)))
        (sRet (eBin oMod (eCB fInt (aCons (eVar 2) aNil)) (eVar 1))))) sNil)
        (sSeq (sSub (eVar 0) (eC (.int 3)) (eBin oMod (eCB fInt (aCons (eBin oAdd (eBin oAdd (eBin oAdd (eBin oMul (eBin oIx (eVar 0) (eC (.int 3))) (eC (.int 48271))) (eBin oMul (eBin oMod (eCB fInt (aCons (eVar 3) aNil)) (eC (.int 2147483629))) (eC (.int 16807)))) (eBin oMul (eBin oIx (eVar 0) (eC (.int 1))) (eC (.int 69621)))) (eC (.int 11))) aNil)) (eC (.int 2147483647))))
        (sRet (eBin oMod (eCB fInt (aCons (eBin oDiv (eBin oIx (eVar 0) (eC (.int 3))) (eC (.int 16))) aNil)) (eVar 1)))))) [some (.ref 1), some (.int many), none, some (.int size), c] st).fin = .ok (.int v) st' ∧ 0 ≤ v ∧ v < many ∧ DS ns st' ∧ Fr st st' := by
      intro size c hs
      have x1 : ixN 4 1 = some 1 := rfl
      have x2 : ixN 4 2 = some 2 := rfl
      have x3 : ixN 4 3 = some 3 := rfl
      obtain ⟨st1, e1⟩ : ∃ st1, st1 = st.set 1 (.lst [.ref 0, .int (p + 1), .int h, .int q]) := ⟨_, rfl⟩
      have l1 : lstAt st1 1 = some [.ref 0, .int (p + 1), .int h, .int q] := by
        rw [e1]
        exact lstAt_set c1
      have d48 : okMul q 48271 = true := okMul_r (by decide)
      have d16 : ∀ i, okMul i 16807 = true := fun i => okMul_r (by decide)
      have d69 : ∀ i, okMul i 69621 = true := fun i => okMul_r (by decide)
      have m1 : ∀ i, okMod i 2147483629 = true := fun i => okMod_of (by decide)
      have m2 : ∀ i, okMod i 2147483647 = true := fun i => okMod_of (by decide)
      have v16 : ∀ i, okDiv i 16 = true := fun i => okDiv_of (by decide) (by decide)
      have v2 : ∀ i, okDiv i 2 = true := fun i => okDiv_of (by decide) (by decide)
      by_cases hz : 2000000000000000000 ≤ size
      · have p1 : okPow 10 18 = true := by decide
        have p2 : okMul 2 1000000000000000000 = true := okMul_r (by decide)
        have p3 : okPow 1 6000 = true := by decide
        obtain ⟨M, eM⟩ : ∃ M : Int, M = 2 ^ 6000 := ⟨_, rfl⟩
        have hM : M ≠ 0 := by
          have : (0 : Int) < 2 ^ 6000 := Int.pow_pos (by decide)
          omega
        have om2 : ∀ i, okMod i M = true := fun i => okMod_of hM
        obtain ⟨d1, d2⟩ := set1 (p + 1) (((size.fdiv 2).fmod M).fdiv many) q (by omega) st1 (.inr (.inl ⟨_, e1⟩))
        refine ⟨((size.fdiv 2).fmod M).fmod many, _, ?_, b0 _, b1 _, d1, d2⟩
        simp [oGetL_ref c1, oSet_ref c1, x1, x2, ← e1, hz, p1, p2, p3, v2, od, om, ← eM, om2, oSet_ref l1]
      · have p1 : okPow 10 18 = true := by decide
        have p2 : okMul 2 1000000000000000000 = true := okMul_r (by decide)
        obtain ⟨q', eq'⟩ : ∃ q', q' = (q * 48271 + size.fmod 2147483629 * 16807 + (p + 1) * 69621 + 11).fmod 2147483647 := ⟨_, rfl⟩
        obtain ⟨d1, d2⟩ := set1 (p + 1) h q' (by omega) st1 (.inr (.inl ⟨_, e1⟩))
        have l2 : lstAt (st1.set 1 (.lst [.ref 0, .int (p + 1), .int h, .int q'])) 1 = some [.ref 0, .int (p + 1), .int h, .int q'] := lstAt_set l1
        refine ⟨(q'.fdiv 16).fmod many, _, ?_, b0 _, b1 _, d1, d2⟩
        simp [oGetL_ref c1, oSet_ref c1, x1, x2, x3, ← e1, hz, p1, p2, v2, v16, od, om, m1, m2, d48, d16, d69, oIx_ref l1, oSet_ref l1, oIx_ref l2, ← eq']
    by_cases hp2 : p < ns.length
    · have hc : ∃ c : Int, atI (ns.map D.int) p = some (.int c) := by
        have hp3 : p.toNat < ns.length := by omega
        refine ⟨ns[p.toNat], ?_⟩
        have := atI_nat (xs := ns.map D.int) (j := p.toNat) (v := D.int ns[p.toNat]) (by simp [hp3])
        rwa [Int.toNat_of_nonneg hp] at this
      obtain ⟨c, hc⟩ := hc
      obtain ⟨v, st', e, r⟩ := main (2 * (c.natAbs : Nat) + (if c < 0 then 1 else 0)) (some (.int c)) (by split <;> omega)
      refine ⟨v, st', ?_, r⟩
      rw [← e]
      have k2 : okMul 2 (c.natAbs : Nat) = true := okMul_l (by decide)
      simp [oIx_ref c1, hh, oIx_ref c0, fLen_ref c0, hp2, hc, k2]
    · obtain ⟨v, st', e, r⟩ := main 0 none (by omega)
      refine ⟨v, st', ?_, r⟩
      rw [← e]
      simp [oIx_ref c1, hh, oIx_ref c0, fLen_ref c0, hp2]

/-- a draw, as a natural number -/
theorem r_drawN {ns : List Int} {st : Store} {many : Nat} (H : DS ns st) (h0 : 0 < many) (h1 : many < 2 ^ 60) :
    ∃ (v : Nat) (st' : Store), f__law_draw [.ref 1, .int (many : Nat)] st = .ok (.int (v : Nat)) st' ∧ v < many ∧ DS ns st' ∧ Fr st st' := by
  obtain ⟨v, s1, e, v0, v1, D1, F1⟩ := r_draw (many := (many : Nat)) H (by omega) (by
    rw [Int.natAbs_natCast]
    have := log2_le h1
    omega)
  refine ⟨v.toNat, s1, ?_, by omega, D1, F1⟩
  rw [Int.toNat_of_nonneg v0]
  exact e
theorem ixN_of {n j : Nat} (h : j < n) : ixN n (j : Nat) = some j := by
  unfold ixN
  rw [if_pos (by omega), if_pos (by simpa using h)]
  simp
theorem atI_of {xs : List D} {j : Nat} (h : j < xs.length) : atI xs (j : Nat) = some xs[j] := atI_nat (by simp [h])
theorem r_drawZ {ns : List Int} {st : Store} {many : Int} (H : DS ns st) (h0 : 0 < many) (h1 : many ≤ 1000) :
    ∃ v st', f__law_draw [.ref 1, .int many] st = .ok (.int v) st' ∧ 0 ≤ v ∧ v < many ∧ DS ns st' ∧ Fr st st' :=
  r_draw H h0 (Nat.lt_of_le_of_lt (log2_le (k := 10) (by omega)) (by decide))

theorem r_pick {ns : List Int} {st : Store} {m : Nat} {xs : List D} (H : DS ns st) (hx : lstAt st m = some xs) (hm : m ≠ 1) (h0 : 0 < xs.length) (h1 : xs.length < 2 ^ 60) :
    ∃ v st', f__law_pick [.ref 1, .ref m] st = .ok v st' ∧ v ∈ xs ∧ DS ns st' ∧ Fr st st' := by
  obtain ⟨v, s1, e, v0, v1, D1, F1⟩ := r_draw (many := (xs.length : Nat)) H (by omega) (by
    rw [Int.natAbs_natCast]
    have := log2_le h1
    omega)
  have hv : v.toNat < xs.length := by omega
  refine ⟨xs[v.toNat], s1, ?_, List.getElem_mem _, D1, F1⟩
  have ha : atI xs v = some xs[v.toNat] := by
    have := atI_nat (xs := xs) (j := v.toNat) (v := xs[v.toNat]) (by simp [hv])
    rwa [Int.toNat_of_nonneg v0] at this
  simp [f__law_pick, runB_e, m__law_pick, fLen_ref hx, e, oIx_ref (F1.lst hx hm), ha]

theorem r_rare {ns : List Int} {st : Store} {many : Int} (H : DS ns st) (h0 : 0 < many) (h1 : many.natAbs.log2 < 9000) :
    ∃ b st', f__law_rare [.ref 1, .int many] st = .ok (.bl b) st' ∧ DS ns st' ∧ Fr st st' := by
  obtain ⟨v, s1, e, v0, v1, D1, F1⟩ := r_draw H h0 h1
  have v2 : okDiv many 2 = true := okDiv_of (by decide) (by decide)
  exact ⟨decide (v = many.fdiv 2), s1, by simp [f__law_rare, runB_e, m__law_rare, e, v2], D1, F1⟩

/-- a loop that returns False at the first that fails -/
theorem for_all {α : Type} {q : Sq} {set : D → Sl → Option Sl} {u : SM} {st : Store} (hq : q.chk st = true) (g : α → D) (p : α → Bool) (I : Sl → Prop) : ∀ (xs : List α) (τ : Sl), I τ →
    (∀ a ∈ xs, ∀ τ, I τ → ∃ τ1, set (g a) τ = some τ1 ∧ (p a = true → ∃ τ2, u τ1 st = .nx τ2 st ∧ I τ2) ∧ (p a = false → u τ1 st = .rt (.bl false) st)) →
    (xs.all p = true ∧ ∃ τ', forL q set u (xs.map g) τ st = .nx τ' st ∧ I τ') ∨ (xs.all p = false ∧ forL q set u (xs.map g) τ st = .rt (.bl false) st)
  | [], τ, h0, _ => .inl ⟨rfl, τ, forL_nil hq, h0⟩
  | a :: xs, τ, h0, hs => by
    obtain ⟨τ1, e1, h1, h2⟩ := hs a (List.mem_cons_self ..) τ h0
    cases hp : p a with
    | true =>
      obtain ⟨τ2, e2, h3⟩ := h1 hp
      rcases for_all hq g p I xs τ2 h3 fun b hb => hs b (List.mem_cons_of_mem _ hb) with ⟨ha, τ', e3, h4⟩ | ⟨ha, e3⟩
      · exact .inl ⟨by rw [List.all_cons, hp, ha]; rfl, τ', by rw [List.map_cons, forL_nx hq e1 e2, e3], h4⟩
      · exact .inr ⟨by rw [List.all_cons, hp, ha]; rfl, by rw [List.map_cons, forL_nx hq e1 e2, e3]⟩
    | false => exact .inr ⟨by rw [List.all_cons, hp]; rfl, by rw [List.map_cons, forL_rt hq e1 (h2 hp)]⟩
theorem ch_le {fa fb fc : EM D} {τ : Sl} {st : Store} {a b c : Int} (ha : fa τ st = .ok (.int a) st) (hb : fb τ st = .ok (.int b) st) (hc : fc τ st = .ok (.int c) st) : eChain oLe oLe fa fb fc τ st = .ok (.bl (decide (a ≤ b) && decide (b ≤ c))) st := by
  by_cases h : a ≤ b <;> simp [ha, hb, hc, oLe, h]
theorem ch_lt {fa fb fc : EM D} {τ : Sl} {st : Store} {a b c : Int} (ha : fa τ st = .ok (.int a) st) (hb : fb τ st = .ok (.int b) st) (hc : fc τ st = .ok (.int c) st) : eChain oLe oLt fa fb fc τ st = .ok (.bl (decide (a ≤ b) && decide (b < c))) st := by
  by_cases h : a ≤ b <;> simp [ha, hb, hc, oLe, oLt, h]
theorem gAllB_map {α : Type} {f : α → Bool} {xs : List α} {st : Store} : gAllB (xs.map fun a => D.bl (f a)) st = .ok (.bl (xs.all f)) st := by
  have := gAllB_bls (bs := xs.map f) (st := st)
  rw [List.map_map, List.all_map] at this
  exact this

/-! draws, by what holds behind them -/
section
variable {ns : List Int} {st : Store}
theorem w_draw {many : Nat} {Q : D → Store → Prop} (H : DS ns st) (h0 : 0 < many) (h1 : many < 2 ^ 60) (hQ : ∀ (v : Nat) s, v < many → DS ns s → Fr st s → Q (.int (v : Nat)) s) : W (f__law_draw [.ref 1, .int (many : Nat)] st) Q := by
  obtain ⟨v, s, e, hv, D1, F1⟩ := r_drawN H h0 h1
  exact .of e (hQ v s hv D1 F1)
end

section
variable {ns : List Int} {st : Store}
theorem w_pick {m : Nat} {xs : List D} {Q : D → Store → Prop} (H : DS ns st) (hx : lstAt st m = some xs) (hm : m ≠ 1) (h0 : 0 < xs.length) (h1 : xs.length < 2 ^ 60) (hQ : ∀ v s, v ∈ xs → DS ns s → Fr st s → Q v s) : W (f__law_pick [.ref 1, .ref m] st) Q := by
  obtain ⟨v, s, e, hv, D1, F1⟩ := r_pick H hx hm h0 h1
  exact .of e (hQ v s hv D1 F1)
end

section
variable {ns : List Int} {st : Store}
theorem w_rare {many : Nat} {Q : D → Store → Prop} (H : DS ns st) (h0 : 0 < many) (h1 : many < 2 ^ 60) (hQ : ∀ b s, DS ns s → Fr st s → Q (.bl b) s) : W (f__law_rare [.ref 1, .int (many : Nat)] st) Q := by
  obtain ⟨b, s, e, D1, F1⟩ := r_rare (many := (many : Nat)) H (by omega) (by
    rw [Int.natAbs_natCast]
    have := log2_le h1
    omega)
  exact .of e (hQ b s D1 F1)
end

/-- a fraction in lowest terms, of at most so many bits -/
structure FQ (k : Nat) (a b : Int) : Prop where
  pos : 0 < b
  cop : Nat.gcd a.natAbs b.natAbs = 1
  an : a.natAbs < 2 ^ k
  bn : b.natAbs < 2 ^ k
theorem FQ.up {k l : Nat} {a b : Int} (h : FQ k a b) (hl : k ≤ l) : FQ l a b := ⟨h.pos, h.cop, lt_up h.an hl, lt_up h.bn hl⟩
theorem FQ.rat {k : Nat} {n d : Int} (h : d ≠ 0) (hn : n.natAbs < 2 ^ k) (hd : d.natAbs < 2 ^ k) : FQ k (rn n d) (rd n d) :=
  ⟨rat_pos h, rat_cop h, Nat.lt_of_le_of_lt (rn_le h) hn, Nat.lt_of_le_of_lt (rd_le h) hd⟩
theorem r_ratio {n d : Int} {st : Store} {k : Nat} (h : d ≠ 0) (hb : d.natAbs < 2 ^ k) (hk : k ≤ 9000) : f_ratio [.int n, .int d] st = .ok (rat n d) st := by
  have o : ∀ i, okDiv i (com n d) = true := fun i => okDiv_com h hb hk
  unfold rat fr rn rd
  by_cases hd : d < 0
  · have e : com n d = -((Nat.gcd n.natAbs d.natAbs : Nat) : Int) := by unfold com; rw [if_pos hd]
    rw [e] at o
    simp [f_ratio, runB_e, m_ratio, h, hd, e, o]
  · have e : com n d = ((Nat.gcd n.natAbs d.natAbs : Nat) : Int) := by unfold com; rw [if_neg hd]
    rw [e] at o
    simp [f_ratio, runB_e, m_ratio, h, hd, e, o]
theorem r_f {n d : Int} {st : Store} {k : Nat} (h : d ≠ 0) (hb : d.natAbs < 2 ^ k) (hk : k ≤ 9000) : f__law_f [.int n, .int d] st = .ok (rat n d) st := by
  have o : ∀ i, okDiv i (com n d) = true := fun i => okDiv_com h hb hk
  have g : f__law_gcd [.int n, .int d] st = _ := r_gcd (lt_up hb hk)
  unfold rat fr rn rd
  by_cases hd : d < 0
  · have e : com n d = -((Nat.gcd n.natAbs d.natAbs : Nat) : Int) := by unfold com; rw [if_pos hd]
    rw [e] at o
    simp [f__law_f, runB_e, m__law_f, h, hd, e, o, g]
  · have e : com n d = ((Nat.gcd n.natAbs d.natAbs : Nat) : Int) := by unfold com; rw [if_neg hd]
    rw [e] at o
    simp [f__law_f, runB_e, m__law_f, h, hd, e, o, g]
section
variable {k l : Nat} {a b c e : Int} {st : Store}
theorem om {i j : Int} (h1 : i.natAbs < 2 ^ k) (h2 : j.natAbs < 2 ^ l) (h : k + l ≤ 9000) : okMul i j = true := okMul_of h1 h2 (by omega)
theorem ne2 {b e : Int} (hb : 0 < b) (he : 0 < e) : b * e ≠ 0 := Int.ne_of_gt (Int.mul_pos hb he)
end

section
variable {k l : Nat} {a b c e : Int} {st : Store}
theorem r_lplus (x : FQ k a b) (y : FQ l c e) (h : k + l ≤ 8000) : f__law_plus [fr a b, fr c e] st = .ok (rat (a * e + c * b) (b * e)) st := by
  have o1 := om x.an y.bn (by omega)
  have o2 := om y.an x.bn (by omega)
  have o3 := om x.bn y.bn (by omega)
  have z := r_f (st := st) (n := a * e + c * b) (ne2 x.pos y.pos) (mul_lt x.bn y.bn) (by omega)
  simp [f__law_plus, runB_e, m__law_plus, o1, o2, o3, z]
end

section
variable {k l : Nat} {a b c e : Int} {st : Store}
theorem q_plus (x : FQ k a b) (y : FQ l c e) : FQ (k + l + 1) (rn (a * e + c * b) (b * e)) (rd (a * e + c * b) (b * e)) :=
  .rat (ne2 x.pos y.pos) (add_lt (mul_lt x.an y.bn) (by rw [Nat.add_comm k l]; exact mul_lt y.an x.bn)) (lt_up (mul_lt x.bn y.bn) (by omega))
end

section
variable {k l : Nat} {a b c e : Int} {st : Store}
theorem r_lminus (x : FQ k a b) (y : FQ l c e) (h : k + l ≤ 8000) : f__law_minus [fr a b, fr c e] st = .ok (rat (a * e - c * b) (b * e)) st := by
  have o1 := om x.an y.bn (by omega)
  have o2 := om y.an x.bn (by omega)
  have o3 := om x.bn y.bn (by omega)
  have z := r_f (st := st) (n := a * e - c * b) (ne2 x.pos y.pos) (mul_lt x.bn y.bn) (by omega)
  simp [f__law_minus, runB_e, m__law_minus, o1, o2, o3, z]
theorem q_minus (x : FQ k a b) (y : FQ l c e) : FQ (k + l + 1) (rn (a * e - c * b) (b * e)) (rd (a * e - c * b) (b * e)) :=
  .rat (ne2 x.pos y.pos) (sub_lt (mul_lt x.an y.bn) (by rw [Nat.add_comm k l]; exact mul_lt y.an x.bn)) (lt_up (mul_lt x.bn y.bn) (by omega))
end

inductive Ed where
  | cut (k : Int) | put (k : Int) | turn (k o : Int)
  deriving DecidableEq
def Ed.d : Ed → D
  | .cut k => .tup [.str [99, 117, 116], .int k]
  | .put k => .tup [.str [112, 117, 116], .int k]
  | .turn k o => .tup [.str [116, 117, 114, 110], .int k, .int o]
def chg (e : Ed) (cs : List Int) : Bool := match e with
  | .cut k => decide (k ∈ cs)
  | .put k => decide (k ∈ cs)
  | .turn a b => !(decide (decide (a ∈ cs) = decide (b ∈ cs)))
def itup (cs : List Int) : D := .tup (cs.map D.int)
theorem in_itup {cs : List Int} {k : Int} {st : Store} : dIn (.int k) (itup cs) st = some (decide (k ∈ cs)) := dIn_ints
theorem r_is_changed {e : Ed} {cs : List Int} {st : Store} : f_is_changed [e.d, itup cs] st = .ok (.bl (chg e cs)) st := by
  cases e <;> simp [f_is_changed, runB_e, m_is_changed, Ed.d, chg, in_itup]
theorem r_lis_changed {e : Ed} {cs : List Int} {st : Store} : f__law_is_changed [e.d, itup cs] st = .ok (.bl (chg e cs)) st := by
  cases e <;> simp [f__law_is_changed, runB_e, m__law_is_changed, Ed.d, chg, in_itup]
/-! polls -/
abbrev Po := List Int × Int × Int
def pd (p : Po) : D := .tup [itup p.1, fr p.2.1 p.2.2]
def gp (ps : List Po) (k : Nat) : Po := ps.getD k ([], 1, 1)
def pls (ps : List Po) : D := .tup (ps.map pd)
def nats (l : List Nat) : D := .tup (l.map fun k => D.int (k : Nat))
theorem ix_poll {ps : List Po} {k : Nat} {st : Store} (h : k < ps.length) : oIx (pls ps) (.int (k : Nat)) st = .ok (pd (gp ps k)) st := by
  unfold pls
  rw [oIx_tup]
  have : atI (ps.map pd) (k : Nat) = some (pd (gp ps k)) := atI_nat (by
    rw [List.getElem?_map]
    simp [gp, List.getD, h])
  rw [this]
  rfl
def fcts (e : Ed) (ps : List Po) (l : List Nat) : List (Int × Int) := ((l.map (gp ps)).filter fun p => chg e p.1).map (·.2)
theorem fcts_cons {e : Ed} {ps : List Po} {k : Nat} {l : List Nat} : fcts e ps (k :: l) = (if chg e (gp ps k).1 then [(gp ps k).2] else []) ++ fcts e ps l := by
  unfold fcts
  rw [List.map_cons, List.filter_cons]
  cases chg e (gp ps k).1 <;> simp
def frp (p : Int × Int) : D := fr p.1 p.2
def ratp (p : Int × Int) : D := rat p.1 p.2
theorem set_new {a : Store} {c c' : Cell} : (a ++ [c]).set a.length c' = a ++ [c'] := by simp
theorem cf_loop {e : Ed} {ps : List Po} {st : Store} {q : Sq} (hq : ∀ s, q.chk s = true) {x y z : Option D} (hx : x = some e.d) (hy : y = some (pls ps)) : ∀ (l : List Nat) (acc : List D) (a b c : Option D), (∀ k ∈ l, k < ps.length) → acc.length + l.length ≤ 100 →
    ∃ a' b' c', forL q (gN 4) (sSeq (sAsg (gT 2 (gCs 5 (gCs 6 gNil0))) (eBin oIx (eVar 1) (eVar 4)))
    (sIf (tVal (eCall 2 f_is_changed (aCons (eVar 0) (aCons (eVar 5) aNil)))) (sExpr (eM "list" mAppend (eVar 3) (aCons (eVar 6) aNil))) sNil)) (l.map fun k => D.int (k : Nat)) [x, y, z, some (.ref st.length), a, b, c] (st ++ [.lst acc]) = .nx [x, y, z, some (.ref st.length), a', b', c'] (st ++ [.lst (acc ++ (fcts e ps l).map frp)])
  | [], acc, a, b, c, _, _ => ⟨a, b, c, by
      rw [List.map_nil, forL, if_pos (hq _)]
      simp [fcts]⟩
  | k :: l, acc, a, b, c, hl, hn => by
    subst hx hy
    have h1 := ix_poll (ps := ps) (k := k) (st := st ++ [.lst acc]) (hl k (List.mem_cons_self ..))
    have h2 := r_is_changed (e := e) (cs := (gp ps k).1) (st := st ++ [.lst acc])
    have h3 : lstAt (st ++ [.lst acc]) st.length = some acc := lstAt_new
    rw [List.length_cons] at hn
    have hb : acc.length < 16777216 := by omega
    rw [List.map_cons, forL, if_pos (hq _), fcts_cons]
    have hs : ∀ d τ, ofA (gT 2 (gCs 5 (gCs 6 gNil0))) [some e.d, some (pls ps), z, some (.ref st.length), some d, b, c] (pd (gp ps k)) τ = .nx [some e.d, some (pls ps), z, some (.ref st.length), some d, some (itup (gp ps k).1), some (frp (gp ps k).2)] τ := fun d τ => rfl
    cases hc : chg e (gp ps k).1 with
    | false =>
      obtain ⟨a', b', c', ih⟩ := cf_loop hq (z := z) (x := some e.d) (y := some (pls ps)) (st := st) rfl rfl l acc (some (.int (k : Nat))) (some (itup (gp ps k).1)) (some (frp (gp ps k).2)) (fun j hj => hl j (List.mem_cons_of_mem _ hj)) (by omega)
      refine ⟨a', b', c', ?_⟩
      rw [hc] at h2
      simp only [gN, List.length_cons, List.length_nil, List.set, if_pos (show (4 : Nat) < 0 + 1 + 1 + 1 + 1 + 1 + 1 + 1 by decide)]
      simp [h1, h2, hs]
      exact ih
    | true =>
      obtain ⟨a', b', c', ih⟩ := cf_loop hq (z := z) (x := some e.d) (y := some (pls ps)) (st := st) rfl rfl l (acc ++ [frp (gp ps k).2]) (some (.int (k : Nat))) (some (itup (gp ps k).1)) (some (frp (gp ps k).2)) (fun j hj => hl j (List.mem_cons_of_mem _ hj)) (by simp; omega)
      refine ⟨a', b', c', ?_⟩
      rw [hc] at h2
      simp only [gN, List.length_cons, List.length_nil, List.set, if_pos (show (4 : Nat) < 0 + 1 + 1 + 1 + 1 + 1 + 1 + 1 by decide)]
      simp [h1, h2, hs, okT_ref h3, mAppend_ref h3 hb]
      rw [ih]
      simp
theorem r_changed_factors {e : Ed} {ps : List Po} {l : List Nat} {st : Store} (hl : ∀ k ∈ l, k < ps.length) (hn : l.length ≤ 100) : f_changed_factors [e.d, pls ps, nats l] st = .ok (.ref st.length) (st ++ [.lst ((fcts e ps l).map frp)]) := by
  obtain ⟨a', b', c', h⟩ := cf_loop (q := .fix (l.map fun k => D.int (k : Nat))) (fun _ => rfl) (st := st) (e := e) (ps := ps) (x := some e.d) (y := some (pls ps)) (z := some (nats l)) rfl rfl l [] none none none hl (by simpa using hn)
  unfold f_changed_factors
  rw [runB_e]
  unfold m_changed_factors
  simp [sFor_e, nats, List.replicate]
  rw [show D.tup (l.map fun k => D.int (k : Nat)) = nats l from rfl, h]
  simp

/-! sets of numbers: ascending lists -/
/-- an ascending list of numbers below n -/
structure Asc (n : Nat) (l : List Nat) : Prop where
  pw : l.Pairwise (· < ·)
  lt : ∀ k ∈ l, k < n
def ff (l : List Nat) : Nat := match l.getLast? with
  | none => 0
  | some k => k + 1
theorem Asc.nil {n : Nat} : Asc n [] := ⟨.nil, by simp⟩
theorem Asc.sub {n : Nat} {l l' : List Nat} (h : Asc n l) (s : l'.Sublist l) : Asc n l' := ⟨h.pw.sublist s, fun k hk => h.lt k (s.subset hk)⟩
theorem ff_snoc {l : List Nat} {k : Nat} : ff (l ++ [k]) = k + 1 := by simp [ff]
theorem last_max {n : Nat} : ∀ {l : List Nat}, Asc n l → ∀ k ∈ l, k < ff l := fun {l} h k hk => by
  have e : l ≠ [] := List.ne_nil_of_mem hk
  have e2 : l = l.dropLast ++ [l.getLast e] := (List.dropLast_concat_getLast e).symm
  have hp := h.pw
  rw [e2] at hp hk ⊢
  rw [ff_snoc]
  rw [List.pairwise_append] at hp
  rcases List.mem_append.mp hk with q | q
  · have := hp.2.2 k q (l.getLast e) (by simp)
    omega
  · have : k = l.getLast e := by simpa using q
    omega
theorem asc_snoc {n : Nat} {l : List Nat} {k : Nat} : Asc n (l ++ [k]) ↔ Asc n l ∧ ff l ≤ k ∧ k < n := by
  constructor
  · intro h
    have h1 : Asc n l := h.sub (List.sublist_append_left ..)
    refine ⟨h1, ?_, h.lt k (by simp)⟩
    by_cases e : l = []
    · subst e
      exact Nat.zero_le _
    · have hp := h.pw
      rw [List.pairwise_append] at hp
      have := hp.2.2 (l.getLast e) (List.getLast_mem e) k (by simp)
      unfold ff
      rw [List.getLast?_eq_some_getLast e]
      exact this
  · rintro ⟨h, h1, h2⟩
    refine ⟨?_, fun x hx => ?_⟩
    · rw [List.pairwise_append]
      refine ⟨h.pw, by simp, fun a ha b hb => ?_⟩
      have : b = k := by simpa using hb
      subst this
      have := last_max h a ha
      omega
    · rcases List.mem_append.mp hx with q | q
      · exact h.lt x q
      · have : x = k := by simpa using q
        subst this
        exact h2
theorem Asc.nd {n : Nat} {l : List Nat} (h : Asc n l) : l.Nodup := h.pw.imp fun h => by omega
/-- a list of different things lies in another one: it is not longer -/
theorem nd_le {α : Type} [DecidableEq α] : ∀ {l m : List α}, l.Nodup → (∀ x ∈ l, x ∈ m) → l.length ≤ m.length
  | [], _, _, _ => Nat.zero_le _
  | x :: l, m, h, hm => by
    rw [List.nodup_cons] at h
    have hx := hm x (List.mem_cons_self ..)
    have := nd_le (l := l) (m := m.erase x) h.2 fun y hy => by
      have : y ≠ x := fun e => h.1 (e ▸ hy)
      exact (List.mem_erase_of_ne this).mpr (hm y (List.mem_cons_of_mem _ hy))
    have e := List.length_erase_of_mem hx
    have : 0 < m.length := List.length_pos_of_mem hx
    rw [List.length_cons]
    omega
theorem Asc.len {n : Nat} {l : List Nat} (h : Asc n l) : l.length ≤ n := by
  have := nd_le (m := List.range n) h.nd fun k hk => List.mem_range.mpr (h.lt k hk)
  rwa [List.length_range] at this
/-- all sets, as the law makes them -/
def ascL : Nat → List (List Nat)
  | 0 => [[]]
  | n + 1 => ascL n ++ (ascL n).map (· ++ [n])
theorem mem_ascL {n : Nat} : ∀ {l : List Nat}, l ∈ ascL n ↔ Asc n l := by
  induction n with
  | zero =>
    intro l
    constructor
    · intro h
      have : l = [] := by simpa [ascL] using h
      subst this
      exact Asc.nil
    · intro h
      cases l with
      | nil => simp [ascL]
      | cons k l => exact absurd (h.lt k (by simp)) (Nat.not_lt_zero _)
  | succ n ih =>
    intro l
    rw [ascL, List.mem_append]
    constructor
    · rintro (h | h)
      · have := ih.mp h
        exact ⟨this.pw, fun k hk => Nat.lt_succ_of_lt (this.lt k hk)⟩
      · obtain ⟨l', h', rfl⟩ := List.mem_map.mp h
        have := ih.mp h'
        have hn : Asc (n + 1) l' := ⟨this.pw, fun k hk => Nat.lt_succ_of_lt (this.lt k hk)⟩
        refine asc_snoc.mpr ⟨hn, ?_, Nat.lt_succ_self n⟩
        unfold ff
        split
        · exact Nat.zero_le _
        · rename_i k hk
          exact this.lt k (List.mem_of_getLast? hk)
    · intro h
      by_cases e : l = []
      · subst e
        exact .inl (ih.mpr Asc.nil)
      · have e2 : l = l.dropLast ++ [l.getLast e] := (List.dropLast_concat_getLast e).symm
        obtain ⟨D, hD⟩ : ∃ D, D = l.dropLast := ⟨_, rfl⟩
        obtain ⟨x, hx⟩ : ∃ x, x = l.getLast e := ⟨_, rfl⟩
        rw [← hD, ← hx] at e2
        rw [e2] at h ⊢
        obtain ⟨h1, h2, h3⟩ := asc_snoc.mp h
        have hlt : ∀ k ∈ D, k < x := fun k hk => by have := last_max h1 k hk; omega
        have hDx : Asc x D := ⟨h1.pw, hlt⟩
        by_cases q : x = n
        · subst q
          exact .inr (List.mem_map.mpr ⟨D, ih.mpr hDx, rfl⟩)
        · refine .inl (ih.mpr (asc_snoc.mpr ⟨⟨h1.pw, fun k hk => by have := hlt k hk; omega⟩, h2, by omega⟩))
theorem ascL_nd : ∀ n, (ascL n).Nodup
  | 0 => by simp [ascL]
  | n + 1 => by
    rw [ascL, List.nodup_append]
    refine ⟨ascL_nd n, ?_, fun a ha b hb e => ?_⟩
    · rw [List.nodup_iff_pairwise_ne, List.pairwise_map]
      exact (List.nodup_iff_pairwise_ne.mp (ascL_nd n)).imp fun h e => h (List.append_cancel_right e)
    · obtain ⟨c, _, rfl⟩ := List.mem_map.mp hb
      have := (mem_ascL.mp ha).lt n (by rw [e]; simp)
      omega
theorem ascL_len : ∀ n, (ascL n).length = 2 ^ n
  | 0 => rfl
  | n + 1 => by
    rw [ascL, List.length_append, List.length_map, ascL_len n, Nat.pow_succ]
    omega
/-- a set lies in another one -/
theorem asc_sublist : ∀ {l' l : List Nat}, l'.Pairwise (· < ·) → l.Pairwise (· < ·) → (∀ x ∈ l', x ∈ l) → l'.Sublist l
  | [], _, _, _, _ => List.nil_sublist _
  | x :: t, [], _, _, h => absurd (h x (by simp)) (by simp)
  | x :: t, y :: r, h1, h2, h => by
    rw [List.pairwise_cons] at h1 h2
    by_cases e : x = y
    · subst e
      refine (asc_sublist h1.2 h2.2 fun z hz => ?_).cons₂ x
      have := h1.1 z hz
      rcases List.mem_cons.mp (h z (List.mem_cons_of_mem _ hz)) with q | q
      · omega
      · exact q
    · have hx : x ∈ r := by
        rcases List.mem_cons.mp (h x (by simp)) with q | q
        · exact absurd q e
        · exact q
      have hyx := h2.1 x hx
      refine (asc_sublist (l' := x :: t) (List.pairwise_cons.mpr h1) h2.2 fun z hz => ?_).cons y
      rcases List.mem_cons.mp (h z hz) with q | q
      · have : y < z := by
          rcases List.mem_cons.mp hz with p | p
          · omega
          · have := h1.1 z p
            omega
        omega
      · exact q
/-- one more number in a set -/
def ins (c : List Nat) (k : Nat) : List Nat := (c ++ [k]).mergeSort (fun a b => decide (a ≤ b))
theorem ins_perm {c : List Nat} {k : Nat} : (ins c k).Perm (c ++ [k]) := List.mergeSort_perm ..
theorem mem_ins {c : List Nat} {k x : Nat} : x ∈ ins c k ↔ x ∈ c ∨ x = k := by
  rw [ins_perm.mem_iff]
  simp
theorem ins_asc {n k : Nat} {c : List Nat} (h : Asc n c) (hk : k < n) (hc : k ∉ c) : Asc n (ins c k) := by
  refine ⟨?_, fun x hx => ?_⟩
  · have s : (ins c k).Pairwise (fun a b => decide (a ≤ b) = true) := List.pairwise_mergeSort (fun a b c h1 h2 => by simp at *; omega) (fun a b => by simp; omega) _
    have nd : (ins c k).Nodup := by
      rw [ins_perm.nodup_iff, List.nodup_append]
      exact ⟨h.nd, by simp, fun a ha b hb e => by
        have : b = k := by simpa using hb
        rw [e, this] at ha
        exact hc ha⟩
    exact (List.Pairwise.and s (List.nodup_iff_pairwise_ne.mp nd)).imp fun h => by
      obtain ⟨a, b⟩ := h
      simp at a
      omega
  · rcases mem_ins.mp hx with q | q
    · exact h.lt x q
    · omega
theorem ins_sub {n k : Nat} {c : List Nat} (h : Asc n c) (hk : k < n) (hc : k ∉ c) : c.Sublist (ins c k) := asc_sublist h.pw (ins_asc h hk hc).pw fun x hx => mem_ins.mpr (.inl hx)
theorem ins_len {c : List Nat} {k : Nat} : (ins c k).length = c.length + 1 := by rw [ins_perm.length_eq]; simp
/-! the worklist -/
def longer (n : Nat) (l : List Nat) : List (List Nat) := (List.range' (ff l) (n - ff l)).map (fun k => l ++ [k])
theorem mem_longer {n : Nat} {l m : List Nat} : m ∈ longer n l ↔ ∃ k, ff l ≤ k ∧ k < n ∧ m = l ++ [k] := by
  unfold longer
  rw [List.mem_map]
  constructor
  · rintro ⟨k, hk, rfl⟩
    rw [List.mem_range'_1] at hk
    exact ⟨k, hk.1, by omega, rfl⟩
  · rintro ⟨k, h1, h2, rfl⟩
    exact ⟨k, List.mem_range'_1.mpr ⟨h1, by omega⟩, rfl⟩
theorem longer_nd {n : Nat} {l : List Nat} : (longer n l).Nodup := by
  unfold longer
  rw [List.nodup_iff_pairwise_ne, List.pairwise_map]
  have : (List.range' (ff l) (n - ff l)).Nodup := List.nodup_range'
  exact (List.nodup_iff_pairwise_ne.mp this).imp fun h e => h (by simpa using e)
/-- what is found when so many are gone through -/
structure Grown (n : Nat) (p : List Nat → Bool) (at' : Nat) (S : List (List Nat)) : Prop where
  mem : ∀ l ∈ S, Asc n l ∧ p l = true
  nd : S.Nodup
  z : [] ∈ S
  cl : ∀ i l, i < at' → S[i]? = some l → ∀ m ∈ longer n l, p m = true → m ∈ S
  org : ∀ l ∈ S, ∀ m k, l = m ++ [k] → m ∈ S.take at'
theorem Grown.start {n : Nat} {p : List Nat → Bool} (h : p [] = true) : Grown n p 0 [[]] :=
  ⟨fun l hl => by have : l = [] := by simpa using hl
                  subst this
                  exact ⟨Asc.nil, h⟩, by simp, by simp, fun i l hi => absurd hi (Nat.not_lt_zero _), fun l hl m k e => by
    have : l = [] := by simpa using hl
    rw [this] at e
    simp at e⟩
theorem Grown.len {n a : Nat} {p : List Nat → Bool} {S : List (List Nat)} (g : Grown n p a S) : S.length ≤ 2 ^ n := by
  rw [← ascL_len n]
  exact nd_le g.nd fun l hl => mem_ascL.mpr (g.mem l hl).1
theorem Grown.step {n a : Nat} {p : List Nat → Bool} {S : List (List Nat)} {l : List Nat} (g : Grown n p a S) (h : S[a]? = some l) : Grown n p (a + 1) (S ++ (longer n l).filter p) := by
  have hl : l ∈ S := List.mem_of_getElem? h
  have ha : a < S.length := (List.getElem?_eq_some_iff.mp h).1
  have el : S[a] = l := (List.getElem?_eq_some_iff.mp h).2
  have hal := (g.mem l hl).1
  have nt : l ∉ S.take a := fun q => by
    obtain ⟨i, hi⟩ := List.getElem?_of_mem q
    have hi2 : i < (S.take a).length := (List.getElem?_eq_some_iff.mp hi).1
    rw [List.length_take] at hi2
    rw [List.getElem?_take_of_lt (by omega)] at hi
    have := (List.getElem_inj (h₀ := (by omega : i < S.length)) (h₁ := ha) g.nd).mp (by rw [el]; exact (List.getElem?_eq_some_iff.mp hi).2)
    omega
  refine ⟨fun m hm => ?_, ?_, List.mem_append_left _ g.z, fun i m hi hm x hx hp => ?_, fun m hm x k e => ?_⟩
  · rcases List.mem_append.mp hm with q | q
    · exact g.mem m q
    · obtain ⟨q1, q2⟩ := List.mem_filter.mp q
      obtain ⟨k, h1, h2, rfl⟩ := mem_longer.mp q1
      exact ⟨asc_snoc.mpr ⟨hal, h1, h2⟩, q2⟩
  · rw [List.nodup_append]
    refine ⟨g.nd, longer_nd.filter _, fun x hx y hy e => ?_⟩
    obtain ⟨q1, _⟩ := List.mem_filter.mp hy
    obtain ⟨k, h1, h2, e2⟩ := mem_longer.mp q1
    exact nt (g.org x hx l k (e.trans e2))
  · by_cases q : i = a
    · subst q
      rw [List.getElem?_append_left ha, h] at hm
      cases hm
      exact List.mem_append_right _ (List.mem_filter.mpr ⟨hx, hp⟩)
    · rw [List.getElem?_append_left (by omega)] at hm
      exact List.mem_append_left _ (g.cl i m (by omega) hm x hx hp)
  · rw [List.take_append_of_le_length (by omega), List.take_add_one, h]
    rcases List.mem_append.mp hm with q | q
    · exact List.mem_append_left _ (g.org m q x k e)
    · obtain ⟨q1, _⟩ := List.mem_filter.mp q
      obtain ⟨j, h1, h2, e2⟩ := mem_longer.mp q1
      rw [e2] at e
      have := (List.append_inj' e rfl).1
      rw [← this]
      simp
theorem Grown.all {n : Nat} {p : List Nat → Bool} {S : List (List Nat)} (g : Grown n p S.length S) (hp : ∀ l k, p (l ++ [k]) = true → p l = true) : ∀ l, l ∈ S ↔ Asc n l ∧ p l = true := by
  intro l
  refine ⟨g.mem l, fun h => ?_⟩
  have go : ∀ (r : List Nat), Asc n r.reverse → p r.reverse = true → r.reverse ∈ S := fun r => by
    induction r with
    | nil => exact fun _ _ => g.z
    | cons k r ih =>
      rw [List.reverse_cons]
      intro h1 h2
      obtain ⟨a1, a2, a3⟩ := asc_snoc.mp h1
      have hm := ih a1 (hp _ _ h2)
      obtain ⟨i, hi⟩ := List.getElem?_of_mem hm
      exact g.cl i _ (List.getElem?_eq_some_iff.mp hi).1 hi _ (mem_longer.mpr ⟨k, a2, a3, rfl⟩) h2
  have := go l.reverse
  rw [List.reverse_reverse] at this
  exact this h.1 h.2

/-! the order of rows of numbers -/
def ll : List Nat → List Nat → Bool
  | [], [] => false
  | [], _ :: _ => true
  | _ :: _, [] => false
  | x :: r, y :: t => decide (x < y) || (decide (x = y) && ll r t)
theorem ll_irr : ∀ l, ll l l = false
  | [] => rfl
  | x :: r => by simp [ll, ll_irr r]
theorem ll_tr : ∀ {a b c}, ll a b = true → ll b c = true → ll a c = true
  | [], [], _, h, _ => by simp [ll] at h
  | [], _ :: _, [], _, h => by simp [ll] at h
  | [], _ :: _, _ :: _, _, _ => rfl
  | _ :: _, [], _, h, _ => by simp [ll] at h
  | _ :: _, _ :: _, [], _, h => by simp [ll] at h
  | x :: r, y :: t, z :: u, h1, h2 => by
    simp only [ll, Bool.or_eq_true, Bool.and_eq_true, decide_eq_true_eq] at *
    rcases h1 with h1 | ⟨rfl, h1⟩ <;> rcases h2 with h2 | ⟨rfl, h2⟩
    · exact .inl (by omega)
    · exact .inl h1
    · exact .inl h2
    · exact .inr ⟨rfl, ll_tr h1 h2⟩
theorem ll_tot : ∀ {a b}, a ≠ b → ll a b = true ∨ ll b a = true
  | [], [], h => absurd rfl h
  | [], _ :: _, _ => .inl rfl
  | _ :: _, [], _ => .inr rfl
  | x :: r, y :: t, h => by
    simp only [ll, Bool.or_eq_true, Bool.and_eq_true, decide_eq_true_eq]
    by_cases e : x = y
    · subst e
      rcases ll_tot (a := r) (b := t) (fun e => h (by rw [e])) with q | q
      · exact .inl (.inr ⟨rfl, q⟩)
      · exact .inr (.inr ⟨rfl, q⟩)
    · rcases Nat.lt_or_ge x y with q | q
      · exact .inl (.inl q)
      · exact .inr (.inl (by omega))
def natsP (l : List Nat) : PyData := .tuple (l.map fun k => .int (k : Nat))
theorem toP_all : ∀ l : List Nat, (l.map fun k => D.int (k : Nat)).map (D.toP 59) = l.map fun k => PyData.int (k : Nat)
  | [] => rfl
  | k :: l => by
    rw [List.map_cons, List.map_cons, List.map_cons, toP_all l]
    rfl
theorem toP_nats {l : List Nat} : (nats l).toP 60 = natsP l := by
  show PyData.tuple ((l.map fun k => D.int (k : Nat)).map (D.toP 59)) = _
  rw [toP_all]
  rfl
theorem lex_nats : ∀ l m : List Nat, lexLt PyProof.Rows.itemOrd (PySem.W.keyToksAll (l.map fun k => PyData.int (k : Nat))) (PySem.W.keyToksAll (m.map fun k => PyData.int (k : Nat))) = ll l m
  | [], [] => rfl
  | [], y :: t => rfl
  | x :: r, [] => rfl
  | x :: r, y :: t => by
    rw [List.map_cons, List.map_cons]
    simp only [PySem.W.keyToksAll, PySem.W.keyToks, List.cons_append, List.nil_append]
    rw [PyProof.Rows.lex_cons, PyProof.Rows.lex_cons, lex_nats r t]
    have h1 : PyProof.Rows.itemOrd.blt (Sum.inl 1 : Int ⊕ List Nat) (Sum.inl 1) = false := rfl
    have h2 : ∀ a b : Nat, PyProof.Rows.itemOrd.blt (Sum.inl (a : Int) : Int ⊕ List Nat) (Sum.inl (b : Int)) = decide (a < b) := fun a b => by
      show decide ((a : Int) < (b : Int)) = _
      rw [Bool.eq_iff_iff]
      simp
    rw [h1, h2, h2, ll]
    by_cases e : x < y
    · simp [e]
    · by_cases e2 : x = y
      · simp [e2]
      · have : y < x := by omega
        simp [e, e2, this]
theorem lt_nats {l m : List Nat} : PySem.W.dataLt ((nats l).toP 60) ((nats m).toP 60) = ll l m := by
  rw [toP_nats, toP_nats]
  unfold natsP
  rw [PySem.W.dataLt_tuple, lex_nats]
theorem alike_nats : ∀ l m : List Nat, PySem.W.alikeAll (l.map fun k => PyData.int (k : Nat)) (m.map fun k => PyData.int (k : Nat)) = true
  | [], [] => rfl
  | [], _ :: _ => rfl
  | _ :: _, [] => rfl
  | x :: r, y :: t => by
    rw [List.map_cons, List.map_cons]
    simp [PySem.W.alikeAll, PySem.W.alike, alike_nats r t]
theorem plain_nats {n : Nat} {l : List Nat} : (nats l).plain (n + 1) = true := by
  unfold nats
  rw [plain_tup, List.all_map]
  simp
theorem dLt_nats {l m : List Nat} : dLt (nats l) (nats m) = some (ll l m) := by
  unfold dLt
  rw [if_pos, lt_nats]
  rw [plain_nats, plain_nats, toP_nats, toP_nats]
  simp [D.isTup, nats, natsP, PySem.W.alike, alike_nats]
theorem oLt_nats {l m : List Nat} {st : Store} : oLt (nats l) (nats m) st = .ok (.bl (ll l m)) st := by
  have h := dLt_nats (l := l) (m := m)
  unfold nats at h ⊢
  show (match dLt _ _ with | some b => ER.ok (D.bl b) st | none => .bad) = _
  rw [h]
def sortL (S : List (List Nat)) : List (List Nat) := S.mergeSort fun a b => !ll b a
theorem sort_nats {S : List (List Nat)} : sortD (S.map nats) = (sortL S).map nats := by
  unfold sortD sortL
  exact (PySem.W.sort_maps (s := sortLeD) nats fun a _ b _ => by
    show (!ll b a) = !(PySem.W.dataLt ((nats b).toP 60) ((nats a).toP 60))
    rw [lt_nats]).symm
theorem mem_sortL {S : List (List Nat)} {l : List Nat} : l ∈ sortL S ↔ l ∈ S := (List.mergeSort_perm ..).mem_iff
theorem sortL_asc {S : List (List Nat)} (nd : S.Nodup) : (sortL S).Pairwise fun a b => ll a b = true := by
  have s : (sortL S).Pairwise (fun a b => (!ll b a) = true) := List.pairwise_mergeSort (fun a b c h1 h2 => by
    simp only [Bool.not_eq_true'] at *
    cases h : ll c a with
    | false => rfl
    | true =>
      by_cases e : b = a
      · rw [e] at h2
        rw [h2] at h
        cases h
      · rcases ll_tot e with q | q
        · rw [h1] at q
          cases q
        · rw [ll_tr h q] at h2
          cases h2) (fun a b => by
    rw [Bool.or_eq_true, Bool.not_eq_true', Bool.not_eq_true']
    cases h : ll b a with
    | false => exact .inl rfl
    | true =>
      right
      cases h2 : ll a b with
      | false => rfl
      | true =>
        have := ll_tr h h2
        rw [ll_irr] at this
        cases this) _
  have nd2 : (sortL S).Nodup := (List.mergeSort_perm ..).nodup_iff.mpr nd
  exact (List.Pairwise.and s (List.nodup_iff_pairwise_ne.mp nd2)).imp fun {a b} h => by
    obtain ⟨h1, h2⟩ := h
    rcases ll_tot h2 with q | q
    · exact q
    · rw [q] at h1
      cases h1
theorem sortL_len {S : List (List Nat)} : (sortL S).length = S.length := (List.mergeSort_perm ..).length_eq
theorem natm_inj : ∀ {l m : List Nat}, (l.map fun k => D.int (k : Nat)) = (m.map fun k => D.int (k : Nat)) → l = m
  | [], [], _ => rfl
  | [], _ :: _, h => by simp at h
  | _ :: _, [], h => by simp at h
  | x :: r, y :: t, h => by
    rw [List.map_cons, List.map_cons] at h
    obtain ⟨h1, h2⟩ := List.cons.inj h
    have := D.int.inj h1
    rw [natm_inj h2]
    congr 1
    omega
theorem nats_inj {l m : List Nat} (h : nats l = nats m) : l = m := natm_inj (D.tup.inj h)
/-- sets of which one may be empty can be sorted -/
theorem sortable_nats {S : List (List Nat)} : sortable (S.map nats) = true := by
  unfold sortable
  simp only [Bool.and_eq_true, Bool.or_eq_true, List.all_eq_true, List.any_eq_true]
  refine ⟨⟨fun x hx => ?_, fun x hx y hy => ?_⟩, ?_⟩
  · obtain ⟨l, _, rfl⟩ := List.mem_map.mp hx
    exact plain_nats
  · obtain ⟨l, _, rfl⟩ := List.mem_map.mp hx
    obtain ⟨m, _, rfl⟩ := List.mem_map.mp hy
    rw [toP_nats, toP_nats]
    simp [natsP, PySem.W.alike, alike_nats]
  · by_cases h : [] ∈ S
    · refine .inr ⟨fun x hx => ?_, nats [], List.mem_map.mpr ⟨_, h, rfl⟩, by decide +kernel⟩
      obtain ⟨l, _, rfl⟩ := List.mem_map.mp hx
      rfl
    · refine .inl (.inl fun x hx => ?_)
      obtain ⟨l, hl, rfl⟩ := List.mem_map.mp hx
      cases l with
      | nil => exact absurd hl h
      | cons k l => rfl
theorem gSorted_nats {S : List (List Nat)} {st : Store} : gSorted (S.map nats) st = .ok (.ref st.length) (st ++ [.lst ((sortL S).map nats)]) := by
  unfold gSorted
  rw [if_pos sortable_nats, sort_nats]
/-- numbers sorted -/
theorem lt_ints {a b : Int} : PySem.W.dataLt ((D.int a).toP 60) ((D.int b).toP 60) = decide (a < b) := by
  show PySem.W.dataLt (.int a) (.int b) = _
  rw [PySem.W.dataLt_int]
theorem gSorted_ints {l : List Nat} {st : Store} : gSorted (l.map fun k => D.int (k : Nat)) st = .ok (.ref st.length) (st ++ [.lst ((l.mergeSort fun a b => decide (a ≤ b)).map fun k => D.int (k : Nat))]) := by
  have hs : sortable (l.map fun k => D.int (k : Nat)) = true := by
    unfold sortable
    simp only [Bool.and_eq_true, Bool.or_eq_true, List.all_eq_true]
    refine ⟨⟨fun x hx => ?_, fun x hx y hy => ?_⟩, .inl (.inr fun x hx => ?_)⟩
    · obtain ⟨k, _, rfl⟩ := List.mem_map.mp hx
      simp
    · obtain ⟨k, _, rfl⟩ := List.mem_map.mp hx
      obtain ⟨j, _, rfl⟩ := List.mem_map.mp hy
      rfl
    · obtain ⟨k, _, rfl⟩ := List.mem_map.mp hx
      rfl
  unfold gSorted
  rw [if_pos hs]
  have : sortD (l.map fun k => D.int (k : Nat)) = (l.mergeSort fun a b => decide (a ≤ b)).map fun k => D.int (k : Nat) := by
    unfold sortD
    exact (PySem.W.sort_maps (s := sortLeD) (fun k : Nat => D.int (k : Nat)) fun a _ b _ => by
      show decide (a ≤ b) = !(PySem.W.dataLt ((D.int (b : Nat)).toP 60) ((D.int (a : Nat)).toP 60))
      rw [lt_ints, Bool.eq_iff_iff]
      simp).symm
  rw [this]

/-! the order of fractions -/
def ltP (x y : Int × Int) : Bool := decide (x.1 * y.2 < y.1 * x.2)
theorem ltP_le {x y z : Int × Int} (hx : 0 < x.2) (hy : 0 < y.2) (hz : 0 < z.2) (h1 : ltP x y = true) (h2 : ltP z y = false) : ltP x z = true := by
  unfold ltP at *
  simp only [decide_eq_true_eq, decide_eq_false_iff_not, Int.not_lt] at *
  have h3 : x.1 * y.2 * z.2 < y.1 * x.2 * z.2 := Int.mul_lt_mul_of_pos_right h1 hz
  have h4 : y.1 * z.2 * x.2 ≤ z.1 * y.2 * x.2 := Int.mul_le_mul_of_nonneg_right h2 (Int.le_of_lt hx)
  have h5 : x.1 * z.2 * y.2 < z.1 * x.2 * y.2 := by
    calc x.1 * z.2 * y.2 = x.1 * y.2 * z.2 := by ac_rfl
      _ < y.1 * x.2 * z.2 := h3
      _ = y.1 * z.2 * x.2 := by ac_rfl
      _ ≤ z.1 * y.2 * x.2 := h4
      _ = _ := by ac_rfl
  exact Int.lt_of_mul_lt_mul_right h5 (Int.le_of_lt hy)
theorem ltP_lt {x y z : Int × Int} (hx : 0 < x.2) (hy : 0 < y.2) (hz : 0 < z.2) (h1 : ltP x y = true) (h2 : ltP y z = true) : ltP x z = true := by
  unfold ltP at *
  simp only [decide_eq_true_eq] at *
  have h3 : x.1 * y.2 * z.2 < y.1 * x.2 * z.2 := Int.mul_lt_mul_of_pos_right h1 hz
  have h4 : y.1 * z.2 * x.2 < z.1 * y.2 * x.2 := Int.mul_lt_mul_of_pos_right h2 hx
  have h5 : x.1 * z.2 * y.2 < z.1 * x.2 * y.2 := by
    calc x.1 * z.2 * y.2 = x.1 * y.2 * z.2 := by ac_rfl
      _ < y.1 * x.2 * z.2 := h3
      _ = y.1 * z.2 * x.2 := by ac_rfl
      _ < z.1 * y.2 * x.2 := h4
      _ = _ := by ac_rfl
  exact Int.lt_of_mul_lt_mul_right h5 (Int.le_of_lt hy)
theorem r_is_below {k l : Nat} {x y : Int × Int} {st : Store} (hx : FQ k x.1 x.2) (hy : FQ l y.1 y.2) (h : k + l ≤ 8000) : f_is_below [frp x, frp y] st = .ok (.bl (ltP x y)) st := by
  have o1 := om hx.an hy.bn (by omega)
  have o2 := om hy.an hx.bn (by omega)
  simp [f_is_below, runB_e, m_is_below, frp, fr, ltP, o1, o2]
section
variable {k l : Nat} {a b c e : Int} {st : Store}
theorem r_times (x : FQ k a b) (y : FQ l c e) (h : k + l ≤ 8000) : f_times [fr a b, fr c e] st = .ok (rat (a * c) (b * e)) st := by
  have o1 := om x.an y.an (by omega)
  have o2 := om x.bn y.bn (by omega)
  have z := r_ratio (st := st) (n := a * c) (ne2 x.pos y.pos) (mul_lt x.bn y.bn) (by omega)
  simp [f_times, runB_e, m_times, o1, o2, z]
end
/-- a fraction, not of lowest terms -/
structure Bd (k : Nat) (x : Int × Int) : Prop where
  pos : 0 < x.2
  an : x.1.natAbs < 2 ^ k
  bn : x.2.natAbs < 2 ^ k
theorem Bd.fq {k : Nat} {x : Int × Int} (h : Bd k x) : FQ k (rn x.1 x.2) (rd x.1 x.2) := .rat (Int.ne_of_gt h.pos) h.an h.bn
def mulP (x p : Int × Int) : Int × Int := (x.1 * p.1, x.2 * p.2)
def prs (x : Int × Int) (l : List (Int × Int)) : Int × Int := l.foldl mulP x
theorem Bd.mul {k : Nat} {x p : Int × Int} (h : Bd k x) (hp : FQ 140 p.1 p.2) : Bd (k + 140) (mulP x p) :=
  ⟨Int.mul_pos h.pos hp.pos, mul_lt h.an hp.an, mul_lt h.bn hp.bn⟩
theorem Bd.prs {k : Nat} : ∀ (l : List (Int × Int)) {k : Nat} {x : Int × Int}, Bd k x → (∀ p ∈ l, FQ 140 p.1 p.2) → Bd (k + 140 * l.length) (prs x l)
  | [], _, _, h, _ => h
  | p :: l, k, x, h, hp => by
    have := Bd.prs (k := k) l (h.mul (hp p (List.mem_cons_self ..))) fun q hq => hp q (List.mem_cons_of_mem _ hq)
    rw [List.length_cons, show k + 140 * (l.length + 1) = k + 140 + 140 * l.length by omega]
    exact this
theorem r_mulP {k : Nat} {x p : Int × Int} {st : Store} (h : Bd k x) (hp : FQ 140 p.1 p.2) (hk : k + 140 ≤ 8000) : f_times [ratp x, frp p] st = .ok (ratp (mulP x p)) st := by
  have z := r_times (st := st) h.fq hp hk
  have w := rat_eq (n := rn x.1 x.2 * p.1) (d := rd x.1 x.2 * p.2) (m := x.1 * p.1) (e := x.2 * p.2) (ne2 h.fq.pos hp.pos) (ne2 h.pos hp.pos) (by
    have := rat_cross (n := x.1) (d := x.2) (Int.ne_of_gt h.pos)
    calc rn x.1 x.2 * p.1 * (x.2 * p.2) = (rn x.1 x.2 * x.2) * (p.1 * p.2) := by ac_rfl
      _ = (x.1 * rd x.1 x.2) * (p.1 * p.2) := by rw [this]
      _ = _ := by ac_rfl)
  unfold ratp frp mulP
  rw [show rat x.1 x.2 = fr (rn x.1 x.2) (rd x.1 x.2) from rfl, z, rat, w.1, w.2]
theorem load_loop {q : Sq} {st : Store} (hq : q.chk st = true) {x1 x2 x3 : Option D} : ∀ (l : List (Int × Int)) (x : Int × Int) (k : Nat) (t : Option D), Bd k x → (∀ p ∈ l, FQ 140 p.1 p.2) → k + 140 * l.length ≤ 7000 →
    ∃ t', forL q (gN 4) (sSet 3 (eCall 2 f_times (aCons (eVar 3) (aCons (eVar 4) aNil)))) (l.map frp) [x1, x2, x3, some (ratp x), t] st = .nx [x1, x2, x3, some (ratp (prs x l)), t'] st
  | [], x, k, t, _, _, _ => ⟨t, by
      rw [List.map_nil, forL, if_pos hq]
      rfl⟩
  | p :: l, x, k, t, hx, hp, hk => by
    rw [List.length_cons] at hk
    have h1 := hp p (List.mem_cons_self ..)
    obtain ⟨t', ih⟩ := load_loop hq (x1 := x1) (x2 := x2) (x3 := x3) l (mulP x p) (k + 140) (some (frp p)) (hx.mul h1) (fun q hq => hp q (List.mem_cons_of_mem _ hq)) (by omega)
    refine ⟨t', ?_⟩
    rw [List.map_cons, forL, if_pos hq]
    have s2 : gN 4 (frp p) [x1, x2, x3, some (ratp x), t] = some [x1, x2, x3, some (ratp x), some (frp p)] := rfl
    have s1 : sSet 3 (eCall 2 f_times (aCons (eVar 3) (aCons (eVar 4) aNil))) [x1, x2, x3, some (ratp x), some (frp p)] st = .nx [x1, x2, x3, some (ratp (mulP x p)), some (frp p)] st := by
      simp [r_mulP (st := st) hx h1 (by omega)]
    simp only [s2, s1]
    exact ih
/-- polls as the law draws them -/
structure PS (ps : List Po) : Prop where
  fq : ∀ p ∈ ps, FQ 140 p.2.1 p.2.2
  ge : ∀ p ∈ ps, p.2.2 ≤ p.2.1
theorem ps_gp {ps : List Po} (h : PS ps) {k : Nat} (hk : k < ps.length) : FQ 140 (gp ps k).2.1 (gp ps k).2.2 := by
  exact h.fq _ (by simp [gp, List.getD, hk])
/-- what the law takes a part for -/
def load (e : Ed) (ps : List Po) (l : List Nat) : Int × Int := prs (1, 1) (fcts e ps l)
theorem fcts_fq {e : Ed} {ps : List Po} {l : List Nat} (h : PS ps) (hl : ∀ k ∈ l, k < ps.length) : ∀ p ∈ fcts e ps l, FQ 140 p.1 p.2 := by
  intro p hp
  unfold fcts at hp
  obtain ⟨x, hx, rfl⟩ := List.mem_map.mp hp
  obtain ⟨k, hk, rfl⟩ := List.mem_map.mp (List.mem_filter.mp hx).1
  exact ps_gp h (hl k hk)
theorem fcts_len {e : Ed} {ps : List Po} {l : List Nat} : (fcts e ps l).length ≤ l.length := by
  unfold fcts
  rw [List.length_map]
  exact Nat.le_trans (List.length_filter_le _ _) (by rw [List.length_map]; exact Nat.le_refl _)
theorem bd_one : Bd 1 (1, 1) := ⟨by decide, by decide, by decide⟩
theorem load_bd {e : Ed} {ps : List Po} {l : List Nat} (h : PS ps) (hl : ∀ k ∈ l, k < ps.length) (hn : l.length ≤ 9) : Bd 1261 (load e ps l) := by
  have := Bd.prs (k := 1) (fcts e ps l) bd_one (fcts_fq h hl)
  have h2 := fcts_len (e := e) (ps := ps) (l := l)
  exact ⟨this.pos, lt_up this.an (by omega), lt_up this.bn (by omega)⟩
theorem ratp_one : ratp (1, 1) = .tup [.int 1, .int 1] := by decide +kernel
theorem r_load {e : Ed} {ps : List Po} {l : List Nat} {st : Store} (h : PS ps) (hl : ∀ k ∈ l, k < ps.length) (hn : l.length ≤ 9) : f_load [e.d, pls ps, nats l] st = .ok (ratp (load e ps l)) (st ++ [.lst ((fcts e ps l).map frp)]) := by
  have h1 := r_changed_factors (e := e) (st := st) hl (by omega)
  have h2 := fcts_len (e := e) (ps := ps) (l := l)
  obtain ⟨t', h3⟩ := load_loop (q := .cell st.length ((fcts e ps l).map frp)) (st := st ++ [.lst ((fcts e ps l).map frp)]) (by simp [Sq.chk, lstAt_new]) (x1 := some e.d) (x2 := some (pls ps)) (x3 := some (nats l)) (fcts e ps l) (1, 1) 1 none bd_one (fcts_fq h hl) (by omega)
  rw [ratp_one] at h3
  have h4 : dSq (st ++ [.lst ((fcts e ps l).map frp)]) (.ref st.length) = _ := dSq_ref (lstAt_new (a := st) (xs := (fcts e ps l).map frp))
  obtain ⟨F, eF⟩ : ∃ F, F = (fcts e ps l).map frp := ⟨_, rfl⟩
  rw [← eF] at h1 h3 h4 ⊢
  unfold f_load
  rw [runB_e]
  unfold m_load
  simp [sFor_e, q_ONE, h1, h4, List.replicate]
  rw [h3]
  simp [load]
theorem ratp_frp {x : Int × Int} : ratp x = frp (rn x.1 x.2, rd x.1 x.2) := rfl
def lq (ps : List Po) (l : List Nat) (e : Ed) : Int × Int := (rn (load e ps l).1 (load e ps l).2, rd (load e ps l).1 (load e ps l).2)
theorem lq_fq {e : Ed} {ps : List Po} {l : List Nat} (h : PS ps) (hl : ∀ k ∈ l, k < ps.length) (hn : l.length ≤ 9) : FQ 1261 (lq ps l e).1 (lq ps l e).2 := (load_bd h hl hn).fq
theorem one_fq : FQ 1261 (1 : Int) 1 := ⟨by decide, by decide, lt_up (k := 1) (by decide) (by decide), lt_up (k := 1) (by decide) (by decide)⟩
def eds (es : List Ed) : D := .tup (es.map Ed.d)

theorem ltP_rat {L x : Int × Int} (hx : 0 < x.2) : ltP L (rn x.1 x.2, rd x.1 x.2) = ltP L x := by
  have c := rat_cross (n := x.1) (d := x.2) (Int.ne_of_gt hx)
  have p := rat_pos (n := x.1) (d := x.2) (Int.ne_of_gt hx)
  unfold ltP
  simp only
  rw [Bool.eq_iff_iff, decide_eq_true_eq, decide_eq_true_eq]
  constructor
  · intro h
    have h1 : L.1 * rd x.1 x.2 * x.2 < rn x.1 x.2 * L.2 * x.2 := Int.mul_lt_mul_of_pos_right h hx
    have h2 : L.1 * x.2 * rd x.1 x.2 < x.1 * L.2 * rd x.1 x.2 := by
      calc L.1 * x.2 * rd x.1 x.2 = L.1 * rd x.1 x.2 * x.2 := by ac_rfl
        _ < rn x.1 x.2 * L.2 * x.2 := h1
        _ = rn x.1 x.2 * x.2 * L.2 := by ac_rfl
        _ = x.1 * rd x.1 x.2 * L.2 := by rw [c]
        _ = _ := by ac_rfl
    exact Int.lt_of_mul_lt_mul_right h2 (Int.le_of_lt p)
  · intro h
    have h1 : L.1 * x.2 * rd x.1 x.2 < x.1 * L.2 * rd x.1 x.2 := Int.mul_lt_mul_of_pos_right h p
    have h2 : L.1 * rd x.1 x.2 * x.2 < rn x.1 x.2 * L.2 * x.2 := by
      calc L.1 * rd x.1 x.2 * x.2 = L.1 * x.2 * rd x.1 x.2 := by ac_rfl
        _ < x.1 * L.2 * rd x.1 x.2 := h1
        _ = x.1 * rd x.1 x.2 * L.2 := by ac_rfl
        _ = rn x.1 x.2 * x.2 * L.2 := by rw [c]
        _ = _ := by ac_rfl
    exact Int.lt_of_mul_lt_mul_right h2 (Int.le_of_lt hx)
/-- the first edit that bursts the limit -/
def brst (ps : List Po) (l : List Nat) (es : List Ed) (L : Int × Int) : Option Ed := es.find? fun e => ltP L (load e ps l)
def edO : Option Ed → D
  | none => .non
  | some e => e.d
def fits (ps : List Po) (es : List Ed) (L : Int × Int) (l : List Nat) : Bool := !(ltP L (1, 1)) && (brst ps l es L).isNone
section
variable {ps : List Po} {l : List Nat} {es : List Ed} {L : Int × Int} {st : Store}
theorem w_burst (h : PS ps) (hl : ∀ k ∈ l, k < ps.length) (hn : l.length ≤ 9) (hL : FQ 1500 L.1 L.2) : W (f_first_burst [eds es, pls ps, frp L, nats l] st) fun d s => d = edO (brst ps l es L) ∧ Gr st s := by
  unfold f_first_burst
  rw [runB_e]
  unfold m_first_burst
  rw [W_fin]
  refine ws_cons (N' := fun τ s => brst ps l es L = none ∧ Gr st s) ?_ fun τ s hp => ?_
  · refine ws_forD (fun q s => q = .fix (es.map Ed.d) ∧ s = st) ?_ ?_
    · simp [eds]
    · rintro _ s0 ⟨rfl, rfl⟩
      refine ws_find Ed.d (fun e => ltP L (load e ps l)) (fun τ => ∃ t, τ = [some (eds es), some (pls ps), some (frp L), some (nats l), t]) (fun s' => Gr s0 s') (fun _ _ => rfl) es _ _ _ rfl ⟨none, rfl⟩ Gr.refl (fun e he τ s1 hτ G => ?_) (fun τ s1 h _ G => ⟨h, G⟩) (fun e s1 h G => ⟨by unfold brst; rw [h]; rfl, G⟩)
      obtain ⟨t, rfl⟩ := hτ
      refine ⟨_, rfl, ?_⟩
      have h1 := r_load (e := e) (st := s1) h hl hn
      rw [ratp_frp] at h1
      have h2 := r_is_below (st := s1 ++ [.lst ((fcts e ps l).map frp)]) hL (lq_fq (e := e) h hl hn) (by omega)
      rw [show ltP L (lq ps l e) = ltP L (load e ps l) from ltP_rat (load_bd h hl hn).pos] at h2
      obtain ⟨F, eF⟩ : ∃ F, F = (fcts e ps l).map frp := ⟨_, rfl⟩
      rw [← eF] at h1 h2
      have h2 : f_is_below [frp L, frp (rn (load e ps l).1 (load e ps l).2, rd (load e ps l).1 (load e ps l).2)] (s1 ++ [.lst F]) = .ok (.bl (ltP L (load e ps l))) (s1 ++ [.lst F]) := h2
      cases hb : ltP L (load e ps l) <;> rw [hb] at h2
      · simp [h1, h2]
        exact G.trans Gr.app
      · simp [h1, h2]
        exact G.trans Gr.app
  · refine ws_ret ?_
    simp
    rw [hp.1]
    exact ⟨rfl, hp.2⟩
theorem w_fitting (h : PS ps) (hl : ∀ k ∈ l, k < ps.length) (hn : l.length ≤ 9) (hL : FQ 1500 L.1 L.2) : W (f_is_fitting [eds es, pls ps, frp L, nats l] st) fun d s => d = .bl (fits ps es L l) ∧ Gr st s := by
  unfold f_is_fitting
  rw [runB_e]
  unfold m_is_fitting
  rw [W_fin]
  have h1 := r_is_below (k := 1500) (l := 1261) (x := L) (y := (1, 1)) (st := st) hL one_fq (by omega)
  have one : q_ONE = frp (1, 1) := rfl
  cases hb : ltP L (1, 1) with
  | true =>
    rw [hb] at h1
    refine ws_take (by simp [one, h1]) ?_
    simp only [sSeq_e, sIf_e, sSet_e, sExpr_e, sRet_e, sRetN_e, sNil_e, sFor_e, sBrk_e, sCnt_e, sSub_e, sAsg_e, W_fin, WS_seq, WS_bindE, WS_nx, WS_rt, WS_bk, WS_ct]
    simp [fits, hb]
    exact Gr.refl
  | false =>
    rw [hb] at h1
    refine ws_skip (by simp [one, h1]) ?_
    simp only [sSeq_e, sIf_e, sSet_e, sExpr_e, sRet_e, sRetN_e, sNil_e, sFor_e, sBrk_e, sCnt_e, sSub_e, sAsg_e, W_fin, WS_seq, WS_bindE, WS_nx, WS_rt, WS_bk, WS_ct]
    simp
    refine (w_burst h hl hn hL).mono fun d s hp => ?_
    obtain ⟨rfl, G⟩ := hp
    cases hx : brst ps l es L with
    | none => simp [edO, fits, hb, hx]; exact G
    | some e =>
      have : ∀ e : Ed, oIs e.d .non s = .ok (.bl false) s := fun e => by cases e <;> rfl
      simp [edO, this, fits, hb, hx]
      exact G
end
/-! with one question less, no load is more -/
def leP (x y : Int × Int) : Prop := x.1 * y.2 ≤ y.1 * x.2
theorem prs_le {l' l : List (Int × Int)} (h : l'.Sublist l) : (∀ p ∈ l, 0 < p.2 ∧ p.2 ≤ p.1) → ∀ {x y : Int × Int}, 0 < x.2 → 0 < y.2 → 0 ≤ y.1 → leP x y → leP (prs x l') (prs y l) := by
  induction h with
  | slnil => exact fun _ _ _ _ _ _ h => h
  | @cons l1 l2 a h ih =>
    intro hp x y hx hy hy1 h2
    obtain ⟨a0, a1⟩ := hp a (by simp)
    show leP (prs x l1) (prs (mulP y a) l2)
    refine ih (fun p hq => hp p (by simp [hq])) hx (Int.mul_pos hy a0) (Int.mul_nonneg hy1 (by omega)) ?_
    unfold leP mulP at *
    simp only
    calc x.1 * (y.2 * a.2) = x.1 * y.2 * a.2 := by ac_rfl
      _ ≤ y.1 * x.2 * a.2 := Int.mul_le_mul_of_nonneg_right h2 (Int.le_of_lt a0)
      _ ≤ y.1 * x.2 * a.1 := Int.mul_le_mul_of_nonneg_left a1 (Int.mul_nonneg hy1 (Int.le_of_lt hx))
      _ = _ := by ac_rfl
  | @cons_cons l1 l2 a h ih =>
    intro hp x y hx hy hy1 h2
    obtain ⟨a0, a1⟩ := hp a (by simp)
    show leP (prs (mulP x a) l1) (prs (mulP y a) l2)
    refine ih (fun p hq => hp p (by simp [hq])) (Int.mul_pos hx a0) (Int.mul_pos hy a0) (Int.mul_nonneg hy1 (by omega)) ?_
    unfold leP mulP at *
    simp only
    have n : 0 ≤ a.1 * a.2 := Int.mul_nonneg (by omega) (by omega)
    calc x.1 * a.1 * (y.2 * a.2) = x.1 * y.2 * (a.1 * a.2) := by ac_rfl
      _ ≤ y.1 * x.2 * (a.1 * a.2) := Int.mul_le_mul_of_nonneg_right h2 n
      _ = _ := by ac_rfl
theorem fits_sub {ps : List Po} {es : List Ed} {L : Int × Int} {l' l : List Nat} (h : PS ps) (hl : ∀ k ∈ l, k < ps.length) (hn : l.length ≤ 9) (hL : 0 < L.2) (s : l'.Sublist l) (hf : fits ps es L l = true) : fits ps es L l' = true := by
  unfold fits at *
  rw [Bool.and_eq_true] at *
  refine ⟨hf.1, ?_⟩
  have hf2 := hf.2
  unfold brst at *
  rw [Option.isNone_iff_eq_none, List.find?_eq_none] at *
  intro e he q
  refine hf2 e he ?_
  have hl' : ∀ k ∈ l', k < ps.length := fun k hk => hl k (s.subset hk)
  have hn' : l'.length ≤ 9 := Nat.le_trans s.length_le hn
  refine ltP_le hL (load_bd h hl' hn').pos (load_bd h hl hn).pos q ?_
  have : leP (load e ps l') (load e ps l) := by
    unfold load
    refine prs_le (((s.map (gp ps)).filter _).map _) (fun p hp => ?_) (by decide) (by decide) (by decide) (by unfold leP; decide)
    obtain ⟨x, hx, rfl⟩ := List.mem_map.mp hp
    obtain ⟨k, hk, rfl⟩ := List.mem_map.mp (List.mem_filter.mp hx).1
    have hm : gp ps k ∈ ps := by simp [gp, List.getD, hl k hk]
    exact ⟨(h.fq _ hm).pos, h.ge _ hm⟩
  unfold ltP leP at *
  rw [decide_eq_false_iff_not]
  omega

/-! the program's sets of questions -/
theorem rng_nat {a b : Nat} : rng (a : Nat) (b : Nat) = (List.range' a (b - a)).map fun k => D.int (k : Nat) := by
  unfold rng
  have e : ((b : Int) - (a : Int)).toNat = b - a := by omega
  rw [e, List.range'_eq_map_range, List.map_map]
  refine List.map_congr_left fun k _ => ?_
  show D.int _ = D.int _
  congr 1
theorem ff_le {n : Nat} {l : List Nat} (h : Asc n l) : ff l ≤ n := by
  unfold ff
  split
  · exact Nat.zero_le _
  · rename_i k hk
    exact h.lt k (List.mem_of_getLast? hk)
theorem tupQ_nats {l : List Nat} : (nats l).tupQ = true := plain_nats (n := 7)
/-- a dict that notes just these sets -/
def Dk (s : Store) (m : Nat) (S : List (List Nat)) : Prop := ∃ kvs, dctAt s m = some kvs ∧ (kvs.all fun p => p.1.tupQ) = true ∧ ∀ l, (dGet kvs (nats l)).isSome = decide (l ∈ S)
theorem Dk.in_ {s : Store} {m : Nat} {S : List (List Nat)} {l : List Nat} (h : Dk s m S) : dIn (nats l) (.ref m) s = some (decide (l ∈ S)) := by
  obtain ⟨kvs, h1, h2, h3⟩ := h
  rw [dIn_dct h1 (keyFit_tup h2 tupQ_nats), h3]
theorem Dk.gr {s s' : Store} {m : Nat} {S : List (List Nat)} (h : Dk s m S) (G : Gr s s') : Dk s' m S := by
  obtain ⟨kvs, h1, h2⟩ := h
  exact ⟨kvs, G.dct h1, h2⟩
theorem Dk.fr {s s' : Store} {m : Nat} {S : List (List Nat)} (h : Dk s m S) (F : Fr s s') (hm : m ≠ 1) : Dk s' m S := by
  obtain ⟨kvs, h1, h2⟩ := h
  exact ⟨kvs, F.dct h1 hm, h2⟩
section
variable {st : Store} {n : Nat} {l c : List Nat} {S : List (List Nat)}
theorem r_first_free : f_first_free [nats l] st = .ok (.int (ff l : Nat)) st := by
  by_cases e : l = []
  · subst e
    simp [f_first_free, runB_e, m_first_free, nats, ff]
  · have h0 : ¬ (l.length : Int) = 0 := by
      have := List.length_pos_iff.mpr e
      omega
    have e2 : (l.length : Int) - 1 = ((l.length - 1 : Nat) : Int) := by
      have := List.length_pos_iff.mpr e
      omega
    have hl : l.length - 1 < l.length := by
      have := List.length_pos_iff.mpr e
      omega
    have h1 : atI (l.map fun k => D.int (k : Nat)) ((l.length - 1 : Nat) : Int) = some (.int (l.getLast e : Nat)) := atI_nat (by
      rw [List.getElem?_map, List.getElem?_eq_getElem hl, List.getLast_eq_getElem]
      rfl)
    have h2 : ff l = l.getLast e + 1 := by
      unfold ff
      rw [List.getLast?_eq_some_getLast e]
    rw [h2]
    simp [f_first_free, runB_e, m_first_free, nats, e, e2, h1]
theorem r_longer (h : Asc n l) (hn : n ≤ 100) : f_longer_sets [nats l, .int (n : Nat)] st = .ok (.ref st.length) (st ++ [.lst ((longer n l).map nats)]) := by
  have h1 := r_first_free (l := l) (st := st)
  have hf := ff_le h
  have hl := h.len
  have h2 : rg2 (.int (ff l : Nat)) (.int (n : Nat)) st = .ok (.fix (rng (ff l : Nat) (n : Nat))) st := rg2_int (by omega) (by omega)
  have e1 := comp_map (q := .fix (rng (ff l : Nat) (n : Nat))) (set := gN 2) (fe := eBin oAdd (eVar 0) (eTup (aCons (eVar 2) aNil))) (τ := [some (nats l), some (.int (n : Nat)), none]) (st := st) rfl (fun k : Nat => D.int (k : Nat)) (fun k => nats (l ++ [k])) (List.range' (ff l) (n - ff l)) [] (fun k _ => ⟨[some (nats l), some (.int (n : Nat)), some (.int (k : Nat))], rfl, by
    simp [nats]
    omega⟩)
  rw [← rng_nat, List.nil_append] at e1
  have e2 : (List.range' (ff l) (n - ff l)).map (fun k => nats (l ++ [k])) = (longer n l).map nats := by
    unfold longer
    rw [List.map_map]
    rfl
  rw [e2] at e1
  have len : (rng (ff l : Nat) (n : Nat)).length ≤ 16777216 := by
    rw [rng_nat, List.length_map, List.length_range']
    omega
  unfold f_longer_sets
  rw [runB_e]
  unfold m_longer_sets
  simp [lComp_e, lc1, wipeD, List.replicate, h1, h2, len, e1]
theorem w_all_sets (hn : n ≤ 8) : W (f_all_sets [.int (n : Nat)] st) fun d s => ∃ r S, d = .ref r ∧ lstAt s r = some (List.map nats S) ∧ S.Nodup ∧ (∀ l, l ∈ S ↔ Asc n l) ∧ S.length ≤ 256 ∧ Gr st s := by
  unfold f_all_sets
  rw [runB_e]
  unfold m_all_sets
  rw [W_fin]
  have p2 : 2 ^ n ≤ 256 := Nat.pow_le_pow_right (n := 2) (i := n) (j := 8) (by decide) hn
  refine ws_cons (N' := fun τ s => τ = [some (.int (n : Nat)), some (.ref st.length), none] ∧ s = st ++ [.lst (List.map nats [[]])]) ?_ fun τ s hp => ?_
  · simp only [sSeq_e, sIf_e, sSet_e, sExpr_e, sRet_e, sRetN_e, sNil_e, sFor_e, sBrk_e, sCnt_e, sSub_e, sAsg_e, W_fin, WS_seq, WS_bindE, WS_nx, WS_rt, WS_bk, WS_ct]
    simp [nats]
  obtain ⟨rfl, rfl⟩ := hp
  refine ws_cons (N' := fun τ s => τ = [some (.int (n : Nat)), some (.ref st.length), some (.int (0 : Nat))] ∧ s = st ++ [.lst (List.map nats [[]])]) ?_ fun τ s hp => ?_
  · simp only [sSeq_e, sIf_e, sSet_e, sExpr_e, sRet_e, sRetN_e, sNil_e, sFor_e, sBrk_e, sCnt_e, sSub_e, sAsg_e, W_fin, WS_seq, WS_bindE, WS_nx, WS_rt, WS_bk, WS_ct]
    simp
  obtain ⟨rfl, rfl⟩ := hp
  obtain ⟨P, hP⟩ : ∃ P : Nat → Sl → Store → Prop, P = fun k τ s => ∃ (a : Nat) (S : List (List Nat)), τ = [some (.int (n : Nat)), some (.ref st.length), some (.int (a : Nat))] ∧ a ≤ S.length ∧ k = 256 - a ∧ lstAt s st.length = some (List.map nats S) ∧ Grown n (fun _ => true) a S ∧ Gr st s := ⟨_, rfl⟩
  refine ws_cons (N' := fun τ s => ∃ (a : Option D) (S : List (List Nat)), τ = [some (.int (n : Nat)), some (.ref st.length), a] ∧ lstAt s st.length = some (List.map nats S) ∧ Grown n (fun _ => true) S.length S ∧ Gr st s) ?_ fun τ s hp => ?_
  · refine ws_while P ?_ big 256 _ _ (Nat.lt_of_lt_of_le (m := 2000) (by omega) (le_big (k := 11) (by decide) (by decide))) (by rw [hP]; exact ⟨0, [[]], rfl, Nat.zero_le _, rfl, lstAt_new, Grown.start rfl, Gr.app⟩)
    intro k τ s hp
    rw [hP] at hp
    obtain ⟨a, S, rfl, ha, rfl, g, gw, G⟩ := hp
    have sl := gw.len
    have hg : W (tBl (eBin oLt (eVar 2) (eCB fLen (aCons (eVar 1) aNil))) [some (.int (n : Nat)), some (.ref st.length), some (.int (a : Nat))] s) fun b s1 => b = decide (a < S.length) ∧ s1 = s := by
      simp [fLen_ref g]
    refine hg.mono fun b s1 hb => ?_
    obtain ⟨rfl, rfl⟩ := hb
    by_cases h2 : a < S.length
    · rw [if_pos (decide_eq_true h2)]
      obtain ⟨l, hl⟩ : ∃ l, S[a]? = some l := ⟨_, List.getElem?_eq_getElem h2⟩
      have hm := (gw.mem l (List.mem_of_getElem? hl)).1
      have i0 : atI (List.map nats S) (a : Nat) = some (nats l) := atI_nat (by rw [List.getElem?_map, hl]; rfl)
      have gr2 := gw.step hl
      have ef : (longer n l).filter (fun _ => true) = longer n l := List.filter_eq_self.mpr fun _ _ => rfl
      rw [ef] at gr2
      have len2 := gr2.len
      refine ws_cons (N' := fun τ s => τ = [some (.int (n : Nat)), some (.ref st.length), some (.int (a : Nat))] ∧ lstAt s st.length = some (List.map nats (S ++ longer n l)) ∧ Gr st s) ?_ fun τ s hp => ?_
      · refine ws_expr ?_
        have h1 := r_longer (st := s1) hm (by omega)
        have g1 : lstAt (s1 ++ [.lst ((longer n l).map nats)]) st.length = some (List.map nats S) := Gr.app.lst g
        have g2 : lstAt (s1 ++ [.lst ((longer n l).map nats)]) s1.length = some ((longer n l).map nats) := lstAt_new
        have ex := mExtend_ref g1 g2 (by simp at len2 ⊢; omega)
        simp [okT_ref g, oIx_ref g, i0, h1, okT_ref g1]
        rw [ex]
        refine ⟨?_, (G.trans Gr.app).put (Nat.le_refl _)⟩
        rw [lstAt_set g1]
      obtain ⟨rfl, g3, G3⟩ := hp
      refine ws_set ?_
      simp
      rw [hP]
      refine ⟨256 - (a + 1), by omega, a + 1, S ++ longer n l, by simp, by rw [List.length_append]; omega, rfl, g3, gr2, G3⟩
    · rw [if_neg (by simpa using h2)]
      have : a = S.length := by omega
      subst this
      exact ⟨_, S, rfl, g, gw, G⟩
  obtain ⟨a, S, rfl, g, gw, G⟩ := hp
  refine ws_ret ?_
  simp
  have sl := gw.len
  exact ⟨S, g, gw.nd, fun l => by have := gw.all (fun _ _ _ => rfl) l; simpa using this, by omega, G⟩
end
/-- what the family of sets is about -/
structure Fam (ps : List Po) (es : List Ed) (L : Int × Int) : Prop where
  hps : PS ps
  n8 : ps.length ≤ 8
  hL : FQ 1500 L.1 L.2
  hes : es.length ≤ 100
theorem Fam.lt {ps : List Po} {es : List Ed} {L : Int × Int} (F : Fam ps es L) {l : List Nat} (h : Asc ps.length l) : (∀ k ∈ l, k < ps.length) ∧ l.length ≤ 9 := ⟨h.lt, by have := h.len; have := F.n8; omega⟩
theorem Fam.sub {ps : List Po} {es : List Ed} {L : Int × Int} (F : Fam ps es L) {l' l : List Nat} (h : Asc ps.length l) (s : l'.Sublist l) (hf : fits ps es L l = true) : fits ps es L l' = true := fits_sub F.hps (F.lt h).1 (F.lt h).2 F.hL.pos s hf
theorem fits_nil {ps : List Po} {es : List Ed} {L : Int × Int} : fits ps es L [] = !(ltP L (1, 1)) := by
  have : brst ps [] es L = es.find? fun _ => ltP L (1, 1) := rfl
  unfold fits
  rw [this]
  cases ltP L (1, 1) <;> simp
/-- the sets that fit, ascending -/
structure FS (ps : List Po) (es : List Ed) (L : Int × Int) (F : List (List Nat)) : Prop where
  pw : F.Pairwise fun a b => ll a b = true
  mem : ∀ l, l ∈ F ↔ Asc ps.length l ∧ fits ps es L l = true
theorem nd_of_ll {F : List (List Nat)} (h : F.Pairwise fun a b => ll a b = true) : F.Nodup := List.nodup_iff_pairwise_ne.mpr (h.imp fun {a b} q e => by rw [e, ll_irr] at q; cases q)
theorem FS.len {ps : List Po} {es : List Ed} {L : Int × Int} {F : List (List Nat)} (C : Fam ps es L) (h : FS ps es L F) : F.length ≤ 256 := by
  have := nd_le (m := ascL ps.length) (nd_of_ll h.pw) fun l hl => mem_ascL.mpr ((h.mem l).mp hl).1
  rw [ascL_len] at this
  exact Nat.le_trans this (Nat.pow_le_pow_right (n := 2) (j := 8) (by decide) C.n8)
section
variable {ps : List Po} {es : List Ed} {L : Int × Int} {st : Store} {l : List Nat}
theorem w_fitting_sets (C : Fam ps es L) : W (f_fitting_sets [eds es, pls ps, frp L] st) fun d s => ∃ r F, d = .ref r ∧ lstAt s r = some (List.map nats F) ∧ FS ps es L F ∧ Gr st s := by
  unfold f_fitting_sets
  rw [runB_e]
  unfold m_fitting_sets
  rw [W_fin]
  have n8 := C.n8
  have h1 := r_is_below (k := 1500) (l := 1261) (x := L) (y := (1, 1)) (st := st) C.hL one_fq (by omega)
  have one : q_ONE = frp (1, 1) := rfl
  have p2 : 2 ^ ps.length ≤ 256 := Nat.pow_le_pow_right (n := 2) (j := 8) (by decide) n8
  obtain ⟨p, hpd⟩ : ∃ p, p = fits ps es L := ⟨_, rfl⟩
  cases hb : ltP L (1, 1) with
  | true =>
    rw [hb] at h1
    refine ws_take (by simp [one, h1]) ?_
    simp only [sSeq_e, sIf_e, sSet_e, sExpr_e, sRet_e, sRetN_e, sNil_e, sFor_e, sBrk_e, sCnt_e, sSub_e, sAsg_e, W_fin, WS_seq, WS_bindE, WS_nx, WS_rt, WS_bk, WS_ct]
    simp
    refine ⟨⟨.nil, fun l => ?_⟩, Gr.app⟩
    constructor
    · intro h; cases h
    · rintro ⟨_, h⟩
      unfold fits at h
      rw [hb] at h
      cases h
  | false =>
    rw [hb] at h1
    have p0 : p [] = true := by rw [hpd, fits_nil, hb]; rfl
    refine ws_skip (by simp [one, h1]) ?_
    refine ws_cons (N' := fun τ s => τ = [some (eds es), some (pls ps), some (frp L), some (.ref st.length), none, none] ∧ s = st ++ [.lst (List.map nats [[]])]) ?_ fun τ s hp => ?_
    · simp only [sSeq_e, sIf_e, sSet_e, sExpr_e, sRet_e, sRetN_e, sNil_e, sFor_e, sBrk_e, sCnt_e, sSub_e, sAsg_e, W_fin, WS_seq, WS_bindE, WS_nx, WS_rt, WS_bk, WS_ct]
      simp [nats]
    obtain ⟨rfl, rfl⟩ := hp
    refine ws_cons (N' := fun τ s => τ = [some (eds es), some (pls ps), some (frp L), some (.ref st.length), some (.int (0 : Nat)), none] ∧ s = st ++ [.lst (List.map nats [[]])]) ?_ fun τ s hp => ?_
    · simp only [sSeq_e, sIf_e, sSet_e, sExpr_e, sRet_e, sRetN_e, sNil_e, sFor_e, sBrk_e, sCnt_e, sSub_e, sAsg_e, W_fin, WS_seq, WS_bindE, WS_nx, WS_rt, WS_bk, WS_ct]
      simp
    obtain ⟨rfl, rfl⟩ := hp
    obtain ⟨P, hP⟩ : ∃ P : Nat → Sl → Store → Prop, P = fun k τ s => ∃ (a : Nat) (S : List (List Nat)) (x : Option D), τ = [some (eds es), some (pls ps), some (frp L), some (.ref st.length), some (.int (a : Nat)), x] ∧ a ≤ S.length ∧ k = 256 - a ∧ lstAt s st.length = some (List.map nats S) ∧ Grown ps.length p a S ∧ Gr st s := ⟨_, rfl⟩
    refine ws_cons (N' := fun τ s => ∃ (a x : Option D) (S : List (List Nat)), τ = [some (eds es), some (pls ps), some (frp L), some (.ref st.length), a, x] ∧ lstAt s st.length = some (List.map nats S) ∧ Grown ps.length p S.length S ∧ Gr st s) ?_ fun τ s hp => ?_
    · refine ws_while P ?_ big 256 _ _ (Nat.lt_of_lt_of_le (m := 2000) (by omega) (le_big (k := 11) (by decide) (by decide))) (by rw [hP]; exact ⟨0, [[]], none, rfl, Nat.zero_le _, rfl, lstAt_new, Grown.start p0, Gr.app⟩)
      intro k τ s hp
      rw [hP] at hp
      obtain ⟨a, S, x, rfl, ha, rfl, g, gw, G⟩ := hp
      have sl := gw.len
      have hg : W (tBl (eBin oLt (eVar 4) (eCB fLen (aCons (eVar 3) aNil))) [some (eds es), some (pls ps), some (frp L), some (.ref st.length), some (.int (a : Nat)), x] s) fun b s1 => b = decide (a < S.length) ∧ s1 = s := by
        simp [fLen_ref g]
      refine hg.mono fun b s1 hb => ?_
      obtain ⟨rfl, rfl⟩ := hb
      by_cases h2 : a < S.length
      · rw [if_pos (decide_eq_true h2)]
        obtain ⟨l, hl⟩ : ∃ l, S[a]? = some l := ⟨_, List.getElem?_eq_getElem h2⟩
        have hm := (gw.mem l (List.mem_of_getElem? hl)).1
        have i0 : atI (List.map nats S) (a : Nat) = some (nats l) := atI_nat (by rw [List.getElem?_map, hl]; rfl)
        have gr2 := gw.step hl
        have len2 := gr2.len
        refine ws_cons (N' := fun τ s => ∃ x, τ = [some (eds es), some (pls ps), some (frp L), some (.ref st.length), some (.int (a : Nat)), x] ∧ lstAt s st.length = some (List.map nats (S ++ (longer ps.length l).filter p)) ∧ Gr st s) ?_ fun τ s hp => ?_
        · refine ws_forD (fun q s => ∃ c, q = .cell c ((longer ps.length l).map nats) ∧ lstAt s c = some ((longer ps.length l).map nats) ∧ lstAt s st.length = some (List.map nats S) ∧ c ≠ st.length ∧ st.length ≤ c ∧ Gr st s) ?_ ?_
          · have h1 := r_longer (st := s1) hm (by omega)
            simp [oIx_ref g, i0, pls, h1]
            rw [dSq_ref lstAt_new]
            have := lstAt_lt g
            exact ⟨s1.length, rfl, lstAt_new, Gr.app.lst g, by omega, G.len, G.trans Gr.app⟩
          · rintro _ s2 ⟨c, rfl, gc, g2, cne, cge, G2⟩
            obtain ⟨I, hI⟩ : ∃ I : Nat → Sl → Store → Prop, I = fun i τ s => ∃ x, τ = [some (eds es), some (pls ps), some (frp L), some (.ref st.length), some (.int (a : Nat)), x] ∧ lstAt s c = some ((longer ps.length l).map nats) ∧ lstAt s st.length = some (List.map nats (S ++ ((longer ps.length l).take i).filter p)) ∧ Gr st s := ⟨_, rfl⟩
            refine ws_map nats (longer ps.length l) rfl I (fun k τ s hp => ?_) (by rw [hI]; exact ⟨x, rfl, gc, by simpa using g2, G2⟩) (fun i m τ s hi hp => ?_) fun τ s hp => ?_
            · rw [hI] at hp
              obtain ⟨_, _, g, _⟩ := hp
              exact decide_eq_true g
            · rw [hI] at hp
              obtain ⟨x, rfl, gc, g3, G3⟩ := hp
              refine ⟨_, rfl, ?_⟩
              have hma : Asc ps.length m := by
                obtain ⟨k, q1, q2, rfl⟩ := mem_longer.mp (List.mem_of_getElem? hi)
                exact asc_snoc.mpr ⟨hm, q1, q2⟩
              have et : (longer ps.length l).take (i + 1) = (longer ps.length l).take i ++ [m] := by rw [List.take_add_one, hi]; rfl
              have lt3 : (S ++ ((longer ps.length l).take i).filter p).length ≤ 512 := by
                have a1 : (((longer ps.length l).take i).filter p).length ≤ ((longer ps.length l).filter p).length := ((List.take_sublist ..).filter p).length_le
                rw [List.length_append] at len2 ⊢
                omega
              refine ws_ifd (fun b s2 => b = p m ∧ Gr s s2) ?_ (fun s4 h => ?_) (fun s4 h => ?_)
              · simp [gN]
                refine (w_fitting C.hps (C.lt hma).1 (C.lt hma).2 C.hL).mono fun d s4 hp => ?_
                obtain ⟨rfl, G4⟩ := hp
                simp [hpd]
                exact G4
              · obtain ⟨hpm, G4⟩ := h
                have g4 := G4.lst g3
                refine ws_expr ?_
                have ap := mAppend_ref (x := nats m) g4 (by rw [List.length_map]; omega)
                simp [gN, okT_ref g4]
                rw [ap, hI]
                refine ⟨_, rfl, by rw [lstAt_ne cne]; exact G4.lst gc, ?_, (G3.trans G4).put (Nat.le_refl _)⟩
                have ef : [m].filter p = [m] := by rw [List.filter_cons, if_pos hpm.symm]; rfl
                rw [lstAt_set g4, et, List.filter_append, ef, ← List.append_assoc]
                simp
              · obtain ⟨hpm, G4⟩ := h
                rw [sNil_e, WS_nx, hI]
                refine ⟨_, rfl, G4.lst gc, ?_, G3.trans G4⟩
                rw [G4.lst g3, et, List.filter_append, List.filter_cons, if_neg (by rw [← hpm]; decide), List.filter_nil, List.append_nil]
            · rw [hI] at hp
              obtain ⟨x, rfl, gc, g3, G3⟩ := hp
              rw [List.take_length] at g3
              exact ⟨x, rfl, g3, G3⟩
        obtain ⟨x, rfl, g3, G3⟩ := hp
        refine ws_set ?_
        simp
        rw [hP]
        refine ⟨256 - (a + 1), by omega, a + 1, S ++ (longer ps.length l).filter p, x, by simp, by rw [List.length_append]; omega, rfl, g3, gr2, G3⟩
      · rw [if_neg (by simpa using h2)]
        have : a = S.length := by omega
        subst this
        exact ⟨_, _, S, rfl, g, gw, G⟩
    obtain ⟨a, x, S, rfl, g, gw, G⟩ := hp
    refine ws_ret ?_
    simp [fSorted_ref g, gSorted_nats]
    refine ⟨sortL S, rfl, ⟨sortL_asc gw.nd, fun l => ?_⟩, G.trans Gr.app⟩
    rw [mem_sortL, ← hpd]
    have h3 := Grown.all (n := ps.length) (p := fun l => p l && (l.all fun k => decide (k < ps.length))) (S := S)
    have hall : ∀ l, l ∈ S ↔ Asc ps.length l ∧ p l = true := fun l => ⟨gw.mem l, fun h => by
      have go : ∀ (r : List Nat), Asc ps.length r.reverse → p r.reverse = true → r.reverse ∈ S := fun r => by
        induction r with
        | nil => exact fun _ _ => gw.z
        | cons k r ih =>
          rw [List.reverse_cons]
          intro h1 h2
          obtain ⟨a1, a2, a3⟩ := asc_snoc.mp h1
          have hm := ih a1 (by rw [hpd] at h2 ⊢; exact C.sub h1 (List.sublist_append_left ..) h2)
          obtain ⟨i, hi⟩ := List.getElem?_of_mem hm
          exact gw.cl i _ (List.getElem?_eq_some_iff.mp hi).1 hi _ (mem_longer.mpr ⟨k, a2, a3, rfl⟩) h2
      have := go l.reverse
      rw [List.reverse_reverse] at this
      exact this h.1 h.2⟩
    exact hall l
end

/-! greatest sets, bars -/
def larg (n : Nat) (c : List Nat) : List (List Nat) := ((List.range n).filter fun k => decide (k ∉ c)).map (ins c)
def less (c : List Nat) : List (List Nat) := (List.range c.length).map c.eraseIdx
def isG (S : List (List Nat)) (n : Nat) (c : List Nat) : Bool := (larg n c).all fun l => decide (l ∉ S)
def isL (S : List (List Nat)) (c : List Nat) : Bool := (less c).all fun l => decide (l ∈ S)
section
variable {st : Store} {n m : Nat} {l c : List Nat} {S : List (List Nat)}
theorem w_noted {r : Nat} (h : lstAt st r = some (List.map nats S)) (hl : S.length ≤ 1000) : W (f_noted [.ref r] st) fun d s => ∃ m, d = .ref m ∧ Dk s m S ∧ Gr st s := by
  unfold f_noted
  rw [runB_e]
  unfold m_noted
  rw [W_fin]
  refine ws_cons (N' := fun τ s => τ = [some (.ref r), some (.ref st.length), none] ∧ s = st ++ [.dct []]) ?_ fun τ s hp => ?_
  · simp only [sSeq_e, sIf_e, sSet_e, sExpr_e, sRet_e, sRetN_e, sNil_e, sFor_e, sBrk_e, sCnt_e, sSub_e, sAsg_e, W_fin, WS_seq, WS_bindE, WS_nx, WS_rt, WS_bk, WS_ct]
    simp
  obtain ⟨rfl, rfl⟩ := hp
  have g : lstAt (st ++ [.dct []]) r = some (List.map nats S) := Gr.app.lst h
  have hr := lstAt_lt h
  refine ws_cons (N' := fun τ s => ∃ t, τ = [some (.ref r), some (.ref st.length), t] ∧ Dk s st.length S ∧ Gr st s) ?_ fun τ s hp => ?_
  · refine ws_forD (fun q s => q = .cell r (List.map nats S) ∧ s = st ++ [.dct []]) ?_ ?_
    · simp
      rw [dSq_ref g]
      exact ⟨rfl, rfl⟩
    · rintro _ _ ⟨rfl, rfl⟩
      obtain ⟨I, hI⟩ : ∃ I : Nat → Sl → Store → Prop, I = fun i τ s => ∃ t kvs, τ = [some (.ref r), some (.ref st.length), t] ∧ lstAt s r = some (List.map nats S) ∧ dctAt s st.length = some kvs ∧ (kvs.all fun p => p.1.tupQ) = true ∧ kvs.length ≤ i ∧ (∀ l, (dGet kvs (nats l)).isSome = decide (l ∈ S.take i)) ∧ Gr st s := ⟨_, rfl⟩
      refine ws_map nats S rfl I (fun k τ s hp => ?_) (by rw [hI]; exact ⟨none, [], rfl, g, dctAt_new, rfl, Nat.le_refl _, fun l => by simp [dGet], Gr.app⟩) (fun i c τ s hi hp => ?_) fun τ s hp => ?_
      · rw [hI] at hp
        obtain ⟨_, _, _, g, _⟩ := hp
        exact decide_eq_true g
      · rw [hI] at hp
        obtain ⟨t, kvs, rfl, g, gd, ht, hk, hs, G⟩ := hp
        refine ⟨_, rfl, ?_⟩
        have hil : i < S.length := (List.getElem?_eq_some_iff.mp hi).1
        have os := oSet_dct (v := .bl true) gd (keyFit_tup ht (tupQ_nats (l := c))) (by omega)
        simp only [sSub_e, WS_bindE]
        simp [gN]
        rw [os, ofS_some, WS_nx, hI]
        refine ⟨_, _, rfl, by rw [lstAt_ne (by omega)]; exact g, dctAt_set gd, dPut_keys (p := fun d => d.tupQ) ht tupQ_nats, Nat.le_trans dPut_len (by omega), fun l => ?_, G.put (Nat.le_refl _)⟩
        rw [dGet_put]
        have et : S.take (i + 1) = S.take i ++ [c] := by rw [List.take_add_one, hi]; rfl
        rw [et]
        by_cases e : l = c
        · subst e
          simp
        · rw [if_neg (fun q => e (nats_inj q)), hs]
          simp [e]
      · rw [hI] at hp
        obtain ⟨t, kvs, rfl, g, gd, ht, hk, hs, G⟩ := hp
        rw [List.take_length] at hs
        exact ⟨t, rfl, ⟨kvs, gd, ht, hs⟩, G⟩
  obtain ⟨t, rfl, hd, G⟩ := hp
  refine ws_ret ?_
  rw [eVar_e rfl, W_ok]
  exact ⟨_, rfl, hd, G⟩
theorem in_nats {k : Nat} {s : Store} : dIn (.int (k : Nat)) (nats c) s = some (decide (k ∈ c)) := by
  have e : nats c = .tup ((c.map fun k : Nat => (k : Int)).map D.int) := by
    unfold nats
    rw [List.map_map]
    rfl
  rw [e, dIn_ints]
  congr 1
  rw [Bool.eq_iff_iff, decide_eq_true_eq, decide_eq_true_eq, List.mem_map]
  constructor
  · rintro ⟨j, h1, h2⟩
    have : j = k := by omega
    rwa [← this]
  · exact fun h => ⟨k, h, rfl⟩
theorem w_larger (h : c.length ≤ 100) (hn : n ≤ 100) : W (f_larger_sets [nats c, .int (n : Nat)] st) fun d s => ∃ r, d = .ref r ∧ lstAt s r = some (List.map nats (larg n c)) ∧ st.length ≤ r ∧ Gr st s := by
  unfold f_larger_sets
  rw [runB_e]
  unfold m_larger_sets
  rw [W_fin]
  refine ws_ret ?_
  rw [eEl_e, W_bind, lComp_e, W_bind, iRg1_e, W_bind]
  rw [show ent 3 [nats c, D.int (n : Nat)] = [some (nats c), some (.int (n : Nat)), none] from rfl, eVar_e rfl, W_ok, rg1_int (by omega), W_ok]
  refine w_lc (by show (rng 0 (n : Nat)).length ≤ _; rw [rng_len]; omega) ?_
  obtain ⟨I, hI⟩ : ∃ I : Nat → List D → Store → Prop, I = fun i acc s => acc = ((((List.range i).filter fun k => decide (k ∉ c)).map (ins c)).map nats) ∧ Gr st s := ⟨_, rfl⟩
  refine w_rng (n := n) I (fun _ _ _ _ => rfl) (by rw [hI]; exact ⟨rfl, Gr.refl⟩) (fun i acc s hi hp => ⟨_, rfl, ?_⟩) fun acc s hp => ?_
  · rw [hI] at hp
    obtain ⟨rfl, G⟩ := hp
    have ev : tBl (eBin oNotIn (eVar 2) (eVar 0)) [some (nats c), some (.int (n : Nat)), some (.int (i : Nat))] s = .ok (decide (i ∉ c)) s := by
      simp [in_nats]
    refine W.of (a := decide (i ∉ c)) (s := s) ev ?_
    by_cases hc : i ∈ c
    · rw [if_neg (by simpa using hc), hI]
      refine ⟨?_, G⟩
      rw [List.range_succ, List.filter_append, List.filter_cons, if_neg (by simpa using hc), List.filter_nil, List.append_nil]
    · rw [if_pos (by simpa using hc)]
      have e1 : oAdd (nats c) (.tup [.int (i : Nat)]) s = .ok (nats (c ++ [i])) s := by
        simp [nats]
        omega
      have gs := gSorted_ints (l := c ++ [i]) (st := s)
      have ev : eCB fTuple (aCons (eCB fSorted (aCons (eBin oAdd (eVar 0) (eTup (aCons (eVar 2) aNil))) aNil)) aNil) [some (nats c), some (.int (n : Nat)), some (.int (i : Nat))] s = .ok (nats (ins c i)) (s ++ [.lst ((ins c i).map fun k => D.int (k : Nat))]) := by
        have e2 : fSorted [nats (c ++ [i])] s = .ok (.ref s.length) (s ++ [.lst ((ins c i).map fun k => D.int (k : Nat))]) := gs
        have e3 : fTuple [.ref s.length] (s ++ [.lst ((ins c i).map fun k => D.int (k : Nat))]) = .ok (nats (ins c i)) (s ++ [.lst ((ins c i).map fun k => D.int (k : Nat))]) := fTuple_ref lstAt_new
        simp [e1, e2, e3]
      refine W.of ev ?_
      rw [hI]
      refine ⟨?_, G.trans Gr.app⟩
      rw [List.range_succ, List.filter_append, List.filter_cons, if_pos (by simpa using hc), List.filter_nil, List.map_append, List.map_append]
      rfl
  · rw [hI] at hp
    obtain ⟨rfl, G⟩ := hp
    exact ⟨_, rfl, lstAt_new, G.len, G.trans Gr.app⟩
theorem w_is_greatest (hd : Dk st m S) (h : c.length ≤ 100) (hn : n ≤ 100) : W (f_is_greatest [.ref m, nats c, .int (n : Nat)] st) fun d s => d = .bl (isG S n c) ∧ Gr st s := by
  unfold f_is_greatest
  rw [runB_e]
  unfold m_is_greatest
  rw [W_fin]
  refine ws_cons (N' := fun τ s => isG S n c = true ∧ Gr st s) ?_ fun τ s hp => ?_
  · refine ws_forD (fun q s => ∃ r, q = .cell r (List.map nats (larg n c)) ∧ lstAt s r = some (List.map nats (larg n c)) ∧ Gr st s) ?_ ?_
    · simp
      refine (w_larger h hn).mono fun d s hp => ?_
      obtain ⟨r, rfl, g, _, G⟩ := hp
      rw [dSq_ref g]
      exact ⟨r, rfl, g, G⟩
    · rintro _ s1 ⟨r, rfl, g, G⟩
      refine ws_all nats (fun l => decide (l ∉ S)) (fun τ => ∃ t, τ = [some (.ref m), some (nats c), some (.int (n : Nat)), t]) (fun s => s = s1) (fun s h => by subst h; exact decide_eq_true g) (larg n c) _ _ _ rfl ⟨none, rfl⟩ rfl (fun l hl τ s hτ hs => ?_) (fun τ s ha _ hs => ⟨ha, hs ▸ G⟩) (fun s ha hs => ⟨by unfold isG; rw [ha], hs ▸ G⟩)
      obtain ⟨t, rfl⟩ := hτ
      subst hs
      refine ⟨_, rfl, ?_⟩
      have hi := (hd.gr G).in_ (l := l)
      by_cases hm : l ∈ S
      · simp [gN, hi, hm]
      · simp [gN, hi, hm]
  · refine ws_ret ?_
    rw [eC_e, W_ok, hp.1]
    exact ⟨rfl, hp.2⟩
theorem w_lesser (h : c.length ≤ 100) : W (f_lesser_sets [nats c] st) fun d s => ∃ r, d = .ref r ∧ lstAt s r = some (List.map nats (less c)) ∧ Gr st s := by
  unfold f_lesser_sets
  rw [runB_e]
  unfold m_lesser_sets
  rw [W_fin]
  refine ws_ret ?_
  rw [eEl_e, W_bind, lComp_e, W_bind, iRg1_e, W_bind]
  have e0 : (eCB fLen (aCons (eVar 0) aNil)) (ent 2 [nats c]) st = .ok (.int (c.length : Nat)) st := by
    simp [nats, List.replicate]
  refine W.of e0 ?_
  rw [rg1_int (by omega), W_ok]
  refine w_lc (by show (rng 0 (c.length : Nat)).length ≤ _; rw [rng_len]; omega) ?_
  refine w_map (fun k : Nat => D.int k) (fun k : Nat => nats (c.eraseIdx k)) (List.range c.length) (rng_eq _) rfl (fun k hk => ⟨[some (nats c), some (.int (k : Nat))], rfl, ?_⟩) ?_
  · have hk := List.mem_range.mp hk
    have e1 : dCut (nats c) none (some (k : Int)) st = .ok (nats (c.take k)) st := by
      show ER.ok (D.tup (HM.cutD _ _ _)) st = _
      rw [HM.cutD_to, ← List.map_take]
      rfl
    have e2 : dCut (nats c) (some (((k + 1 : Nat) : Int))) none st = .ok (nats (c.drop (k + 1))) st := by
      show ER.ok (D.tup (HM.cutD _ _ _)) st = _
      rw [HM.cutD_from, ← List.map_drop]
      rfl
    have e3 : oAdd (nats (c.take k)) (nats (c.drop (k + 1))) st = .ok (nats (c.eraseIdx k)) st := by
      rw [List.eraseIdx_eq_take_drop_succ]
      unfold nats
      rw [oAdd_tup, if_pos (by simp; omega), List.map_append]
    have e4 : (k : Int) + 1 = ((k + 1 : Nat) : Int) := by omega
    refine W.of (a := nats (c.eraseIdx k)) (s := st) ?_ ⟨rfl, rfl⟩
    have v0 : eVar 0 [some (nats c), some (.int (k : Nat))] st = .ok (nats c) st := rfl
    have v1 : eVar 1 [some (nats c), some (.int (k : Nat))] st = .ok (.int (k : Nat)) st := rfl
    simp only [eBin_e, eSl_e, v0, v1, ER.bind_ok, oNone_e, oSome_e, ofI_int, e1, eC_e, oAdd_int, e4, e2, e3]
  · refine ⟨_, rfl, ?_, Gr.app⟩
    rw [lstAt_new]
    unfold less
    rw [List.map_map]
    rfl
theorem w_is_least (hd : Dk st m S) (h : c.length ≤ 100) : W (f_is_least [.ref m, nats c] st) fun d s => d = .bl (isL S c) ∧ Gr st s := by
  unfold f_is_least
  rw [runB_e]
  unfold m_is_least
  rw [W_fin]
  refine ws_cons (N' := fun τ s => isL S c = true ∧ Gr st s) ?_ fun τ s hp => ?_
  · refine ws_forD (fun q s => ∃ r, q = .cell r (List.map nats (less c)) ∧ lstAt s r = some (List.map nats (less c)) ∧ Gr st s) ?_ ?_
    · simp
      refine (w_lesser h).mono fun d s hp => ?_
      obtain ⟨r, rfl, g, G⟩ := hp
      rw [dSq_ref g]
      exact ⟨r, rfl, g, G⟩
    · rintro _ s1 ⟨r, rfl, g, G⟩
      refine ws_all nats (fun l => decide (l ∈ S)) (fun τ => ∃ t, τ = [some (.ref m), some (nats c), t]) (fun s => s = s1) (fun s h => by subst h; exact decide_eq_true g) (less c) _ _ _ rfl ⟨none, rfl⟩ rfl (fun l hl τ s hτ hs => ?_) (fun τ s ha _ hs => ⟨ha, hs ▸ G⟩) (fun s ha hs => ⟨by unfold isL; rw [ha], hs ▸ G⟩)
      obtain ⟨t, rfl⟩ := hτ
      subst hs
      refine ⟨_, rfl, ?_⟩
      have hi := (hd.gr G).in_ (l := l)
      by_cases hm : l ∈ S
      · simp [gN, hi, hm]
      · simp [gN, hi, hm]
  · refine ws_ret ?_
    rw [eC_e, W_ok, hp.1]
    exact ⟨rfl, hp.2⟩
end

section
variable {ps : List Po} {es : List Ed} {L : Int × Int} {st : Store}
theorem w_greatest_sets (C : Fam ps es L) : W (f_greatest_sets [eds es, pls ps, frp L] st) fun d s => ∃ F, FS ps es L F ∧ d = .tup (List.map nats (F.filter (isG F ps.length))) ∧ Gr st s := by
  unfold f_greatest_sets
  rw [runB_e]
  unfold m_greatest_sets
  rw [W_fin]
  have n8 := C.n8
  refine ws_cons (N' := fun τ s => ∃ r F, τ = [some (eds es), some (pls ps), some (frp L), some (.ref r), none, none] ∧ lstAt s r = some (List.map nats F) ∧ FS ps es L F ∧ Gr st s) ?_ fun τ s hp => ?_
  · refine ws_set ?_
    simp
    refine (w_fitting_sets C).mono fun d s hp => ?_
    obtain ⟨r, F, rfl, g, fs, G⟩ := hp
    exact ⟨r, rfl, F, g, fs, G⟩
  obtain ⟨r, F, rfl, g, fs, G⟩ := hp
  have fl := fs.len C
  refine ws_cons (N' := fun τ s => ∃ m, τ = [some (eds es), some (pls ps), some (frp L), some (.ref r), some (.ref m), none] ∧ lstAt s r = some (List.map nats F) ∧ Dk s m F ∧ Gr st s) ?_ fun τ s hp => ?_
  · refine ws_set ?_
    simp
    refine (w_noted g (by omega)).mono fun d s hp => ?_
    obtain ⟨m, rfl, hd, G2⟩ := hp
    exact ⟨m, rfl, G2.lst g, hd, G.trans G2⟩
  obtain ⟨m, rfl, g, hd, G⟩ := hp
  refine ws_ret ?_
  rw [eCS_e, W_bind, lComp_e, W_bind, iEx_e, W_bind, eVar_e rfl, W_ok, dSq_ref g, ofQ_some, W_ok]
  refine w_lc (by show (List.map nats F).length ≤ _; rw [List.length_map]; omega) ?_
  obtain ⟨I, hI⟩ : ∃ I : Nat → List D → Store → Prop, I = fun i acc s' => acc = ((F.take i).filter (isG F ps.length)).map nats ∧ Gr s s' := ⟨_, rfl⟩
  refine w_mapc nats F rfl I (fun k acc s' hp => ?_) (by rw [hI]; exact ⟨rfl, Gr.refl⟩) (fun i c acc s' hi hp => ⟨_, rfl, ?_⟩) fun acc s' hp => ?_
  · rw [hI] at hp
    exact decide_eq_true (hp.2.lst g)
  · rw [hI] at hp
    obtain ⟨rfl, G2⟩ := hp
    have hc := ((fs.mem c).mp (List.mem_of_getElem? hi)).1
    have et : F.take (i + 1) = F.take i ++ [c] := by rw [List.take_add_one, hi]; rfl
    simp [wipeD, pls]
    refine (w_is_greatest (hd.gr G2) (by have := hc.len; omega) (by omega)).mono fun d s2 hp => ?_
    obtain ⟨rfl, G3⟩ := hp
    rw [hI]
    cases hg : isG F ps.length c
    · simp [et, hg]
      exact G2.trans G3
    · simp [et, hg]
      exact G2.trans G3
  · rw [hI] at hp
    obtain ⟨rfl, G2⟩ := hp
    rw [List.take_length, gTuple_e, W_ok]
    exact ⟨F, fs, rfl, G.trans G2⟩
def bD (ps : List Po) (es : List Ed) (L : Int × Int) (c : List Nat) : D := .tup [nats c, edO (brst ps c es L)]
def isB (F : List (List Nat)) (c : List Nat) : Bool := decide (c ∉ F) && isL F c
theorem w_bars0 (C : Fam ps es L) (h : ltP L (1, 1) = true) : W (f_bars_of [eds es, pls ps, frp L] st) fun d s => d = .tup [.tup [.tup [], .non]] ∧ Gr st s := by
  unfold f_bars_of
  rw [runB_e]
  unfold m_bars_of
  rw [W_fin]
  have h1 := r_is_below (k := 1500) (l := 1261) (x := L) (y := (1, 1)) (st := st) C.hL one_fq (by omega)
  have one : q_ONE = frp (1, 1) := rfl
  rw [h] at h1
  refine ws_take (by simp [one, h1]) ?_
  simp only [sSeq_e, sIf_e, sSet_e, sExpr_e, sRet_e, sRetN_e, sNil_e, sFor_e, sBrk_e, sCnt_e, sSub_e, sAsg_e, W_fin, WS_seq, WS_bindE, WS_nx, WS_rt, WS_bk, WS_ct]
  simp
  exact Gr.refl
theorem w_bars (C : Fam ps es L) (h : ltP L (1, 1) = false) : W (f_bars_of [eds es, pls ps, frp L] st) fun d s => ∃ (F A : List (List Nat)), FS ps es L F ∧ A.Pairwise (fun a b => ll a b = true) ∧ (∀ l, l ∈ A ↔ Asc ps.length l) ∧ d = .tup (List.map (bD ps es L) (A.filter (isB F))) ∧ Gr st s := by
  unfold f_bars_of
  rw [runB_e]
  unfold m_bars_of
  rw [W_fin]
  have n8 := C.n8
  have h1 := r_is_below (k := 1500) (l := 1261) (x := L) (y := (1, 1)) (st := st) C.hL one_fq (by omega)
  have one : q_ONE = frp (1, 1) := rfl
  rw [h] at h1
  refine ws_skip (by simp [one, h1]) ?_
  refine ws_cons (N' := fun τ s => ∃ m F, τ = [some (eds es), some (pls ps), some (frp L), some (.ref m), none, none] ∧ FS ps es L F ∧ Dk s m F ∧ Gr st s) ?_ fun τ s hp => ?_
  · refine ws_set ?_
    simp
    refine (w_fitting_sets C).mono fun d s hp => ?_
    obtain ⟨r, F, rfl, g, fs, G⟩ := hp
    have fl := fs.len C
    refine (w_noted g (by omega)).mono fun d s hp => ?_
    obtain ⟨m, rfl, hd, G2⟩ := hp
    exact ⟨m, rfl, F, fs, hd, G.trans G2⟩
  obtain ⟨m, F, rfl, fs, hd, G⟩ := hp
  refine ws_cons (N' := fun τ s' => τ = [some (eds es), some (pls ps), some (frp L), some (.ref m), some (.ref s.length), none] ∧ s' = s ++ [.lst []]) ?_ fun τ s' hp => ?_
  · simp only [sSeq_e, sIf_e, sSet_e, sExpr_e, sRet_e, sRetN_e, sNil_e, sFor_e, sBrk_e, sCnt_e, sSub_e, sAsg_e, W_fin, WS_seq, WS_bindE, WS_nx, WS_rt, WS_bk, WS_ct]
    simp
  obtain ⟨rfl, rfl⟩ := hp
  refine ws_cons (N' := fun τ s' => ∃ (t : Option D) (A : List (List Nat)), τ = [some (eds es), some (pls ps), some (frp L), some (.ref m), some (.ref s.length), t] ∧ A.Pairwise (fun a b => ll a b = true) ∧ (∀ l, l ∈ A ↔ Asc ps.length l) ∧ lstAt s' s.length = some (List.map (bD ps es L) (A.filter (isB F))) ∧ Gr st s') ?_ fun τ s' hp => ?_
  · refine ws_forD (fun q s' => ∃ (c : Nat) (A : List (List Nat)), q = .cell c (List.map nats A) ∧ A.Pairwise (fun a b => ll a b = true) ∧ (∀ l, l ∈ A ↔ Asc ps.length l) ∧ A.length ≤ 256 ∧ lstAt s' c = some (List.map nats A) ∧ s.length < c ∧ Gr (s ++ [.lst []]) s') ?_ ?_
    · have e0 : eCB fLen (aCons (eVar 1) aNil) [some (eds es), some (pls ps), some (frp L), some (.ref m), some (.ref s.length), none] (s ++ [.lst []]) = .ok (.int (ps.length : Nat)) (s ++ [.lst []]) := by
        simp [pls]
      rw [iEx_e, W_bind, eCB_e, W_bind]
      simp only [aCons_e, aNil_e, eCall_e, W_bind, e0, W_ok]
      simp only [List.length_cons, List.length_nil, if_true]
      refine (w_all_sets n8).mono fun d s' hp => ?_
      obtain ⟨r, S, rfl, g, nd, mem, sl, G2⟩ := hp
      rw [fSorted_ref g, gSorted_nats, W_ok, dSq_ref lstAt_new]
      have := G2.len
      refine ⟨s'.length, sortL S, rfl, sortL_asc nd, fun l => by rw [mem_sortL]; exact mem l, by rw [sortL_len]; exact sl, lstAt_new, ?_, G2.trans Gr.app⟩
      simp at this
      omega
    · rintro _ s2 ⟨c, A, rfl, pw, mem, sl, gc, hc, G2⟩
      obtain ⟨I, hI⟩ : ∃ I : Nat → Sl → Store → Prop, I = fun i τ s' => ∃ t, τ = [some (eds es), some (pls ps), some (frp L), some (.ref m), some (.ref s.length), t] ∧ lstAt s' c = some (List.map nats A) ∧ lstAt s' s.length = some (List.map (bD ps es L) ((A.take i).filter (isB F))) ∧ Gr s s' := ⟨_, rfl⟩
      refine ws_map nats A rfl I (fun k τ s hp => ?_) (by rw [hI]; exact ⟨none, rfl, gc, G2.lst lstAt_new, Gr.app.trans G2⟩) (fun i x τ s' hi hp => ?_) fun τ s' hp => ?_
      · rw [hI] at hp
        obtain ⟨_, _, g, _⟩ := hp
        exact decide_eq_true g
      · rw [hI] at hp
        obtain ⟨t, rfl, gc, gf, G3⟩ := hp
        refine ⟨_, rfl, ?_⟩
        have hx := (mem x).mp (List.mem_of_getElem? hi)
        have hil : i < A.length := (List.getElem?_eq_some_iff.mp hi).1
        have et : A.take (i + 1) = A.take i ++ [x] := by rw [List.take_add_one, hi]; rfl
        have hin := (hd.gr G3).in_ (l := x)
        refine ws_ifd (fun b s2 => b = isB F x ∧ Gr s' s2) ?_ (fun s4 h => ?_) (fun s4 h => ?_)
        · by_cases hm : x ∈ F
          · simp [gN, hin, hm, isB]
            exact Gr.refl
          · simp [gN, hin, hm, isB]
            refine (w_is_least (hd.gr G3) (by have := hx.len; omega)).mono fun d s4 hp => ?_
            obtain ⟨rfl, G4⟩ := hp
            simp
            exact G4
        · obtain ⟨hb, G4⟩ := h
          refine ws_expr ?_
          simp [gN, okT_ref (G4.lst gf)]
          refine (w_burst C.hps (C.lt hx).1 (C.lt hx).2 C.hL).mono fun d s5 hp => ?_
          obtain ⟨rfl, G5⟩ := hp
          have g5 := G5.lst (G4.lst gf)
          have len : (List.map (bD ps es L) ((A.take i).filter (isB F))).length < 16777216 := by
            have := List.length_filter_le (isB F) (A.take i)
            rw [List.length_map]
            rw [List.length_take] at this
            omega
          have ap := mAppend_ref (x := .tup [nats x, edO (brst ps x es L)]) g5 len
          have hcs := lstAt_lt gc
          rw [ap, W_ok, hI]
          refine ⟨_, rfl, by rw [lstAt_ne (by omega)]; exact G5.lst (G4.lst gc), ?_, ((G3.trans G4).trans G5).put (Nat.le_refl _)⟩
          have ef : [x].filter (isB F) = [x] := by rw [List.filter_cons, if_pos hb.symm]; rfl
          rw [lstAt_set g5, et, List.filter_append, ef, List.map_append]
          rfl
        · obtain ⟨hb, G4⟩ := h
          rw [sNil_e, WS_nx, hI]
          refine ⟨_, rfl, G4.lst gc, ?_, G3.trans G4⟩
          rw [G4.lst gf, et, List.filter_append, List.filter_cons, if_neg (by rw [← hb]; decide), List.filter_nil, List.append_nil]
      · rw [hI] at hp
        obtain ⟨t, rfl, gc, gf, G3⟩ := hp
        rw [List.take_length] at gf
        exact ⟨t, A, rfl, pw, mem, gf, G.trans G3⟩
  obtain ⟨t, A, rfl, pw, mem, gf, G⟩ := hp
  refine ws_ret ?_
  refine W.of (a := .tup (List.map (bD ps es L) (A.filter (isB F)))) (s := s') (by simp [fTuple_ref gf]) ?_
  exact ⟨F, A, fs, pw, mem, rfl, G⟩
end
/-! what they are -/
section
variable {ps : List Po} {es : List Ed} {L : Int × Int} {F : List (List Nat)}
/-- every set that fits lies within a greatest one -/
theorem in_greatest (C : Fam ps es L) (fs : FS ps es L F) : ∀ (k : Nat) (c : List Nat), c ∈ F → ps.length - c.length ≤ k → ∃ t ∈ F, isG F ps.length t = true ∧ ∀ x ∈ c, x ∈ t
  | 0, c, hc, hk => by
    have hca := ((fs.mem c).mp hc).1
    refine ⟨c, hc, ?_, fun _ h => h⟩
    unfold isG larg
    rw [List.all_eq_true]
    intro l hl
    obtain ⟨j, hj, rfl⟩ := List.mem_map.mp hl
    obtain ⟨j1, j2⟩ := List.mem_filter.mp hj
    have hi := ins_asc hca (List.mem_range.mp j1) (of_decide_eq_true j2)
    have := hi.len
    rw [ins_len] at this
    omega
  | k + 1, c, hc, hk => by
    have hca := ((fs.mem c).mp hc).1
    cases hg : isG F ps.length c with
    | true => exact ⟨c, hc, hg, fun _ h => h⟩
    | false =>
      unfold isG larg at hg
      rw [List.all_eq_false] at hg
      obtain ⟨l, hl, hm⟩ := hg
      obtain ⟨j, hj, rfl⟩ := List.mem_map.mp hl
      obtain ⟨j1, j2⟩ := List.mem_filter.mp hj
      have hin : ins c j ∈ F := by simpa using hm
      obtain ⟨t, ht, gt, sub⟩ := in_greatest C fs k (ins c j) hin (by rw [ins_len]; omega)
      exact ⟨t, ht, gt, fun x hx => sub x (mem_ins.mpr (.inl hx))⟩
/-- every set that does not fit holds a bar -/
theorem has_bar (C : Fam ps es L) : ∀ (k : Nat) (c : List Nat), Asc ps.length c → c ∉ F → c.length ≤ k → ∃ t, Asc ps.length t ∧ isB F t = true ∧ ∀ x ∈ t, x ∈ c
  | 0, c, hc, hm, hk => by
    refine ⟨c, hc, ?_, fun _ h => h⟩
    have : c = [] := List.eq_nil_of_length_eq_zero (by omega)
    subst this
    simp [isB, isL, less, hm]
  | k + 1, c, hc, hm, hk => by
    cases hg : isL F c with
    | true => exact ⟨c, hc, by simp [isB, hm, hg], fun _ h => h⟩
    | false =>
      unfold isL less at hg
      rw [List.all_eq_false] at hg
      obtain ⟨l, hl, hn⟩ := hg
      obtain ⟨i, hi, rfl⟩ := List.mem_map.mp hl
      have hi := List.mem_range.mp hi
      have s := List.eraseIdx_sublist (l := c) (k := i)
      obtain ⟨t, ht, bt, sub⟩ := has_bar C k (c.eraseIdx i) (hc.sub (List.eraseIdx_sublist ..)) (by simpa using hn) (by rw [List.length_eraseIdx_of_lt hi]; omega)
      exact ⟨t, ht, bt, fun x hx => (List.eraseIdx_sublist ..).subset (sub x hx)⟩
end

def rp (n d : Int) : Int × Int := (rn n d, rd n d)
theorem rp_d {n d : Int} : rat n d = frp (rp n d) := rfl
theorem fqc {a b : Int} (h1 : 0 < b) (h2 : Nat.gcd a.natAbs b.natAbs = 1) (h3 : a.natAbs < 2 ^ 64) (h4 : b.natAbs < 2 ^ 64) : FQ 1500 a b := ⟨h1, h2, lt_up h3 (by decide), lt_up h4 (by decide)⟩
theorem fqr {a b : Int} (h1 : 0 < b) (h3 : a.natAbs < 2 ^ 64) (h4 : b.natAbs < 2 ^ 64) : FQ 1500 (rp a b).1 (rp a b).2 := FQ.rat (Int.ne_of_gt h1) (lt_up h3 (by decide)) (lt_up h4 (by decide))
section
variable {ns : List Int} {st : Store}
theorem r_pickT {xs : List D} (H : DS ns st) (h0 : 0 < xs.length) (h1 : xs.length < 2 ^ 60) :
    ∃ v st', f__law_pick [.ref 1, .tup xs] st = .ok v st' ∧ v ∈ xs ∧ DS ns st' ∧ Fr st st' := by
  obtain ⟨v, s1, e, v0, v1, D1, F1⟩ := r_draw (many := (xs.length : Nat)) H (by omega) (by
    rw [Int.natAbs_natCast]
    have := log2_le h1
    omega)
  have hv : v.toNat < xs.length := by omega
  refine ⟨xs[v.toNat], s1, ?_, List.getElem_mem _, D1, F1⟩
  have ha : atI xs v = some xs[v.toNat] := by
    have := atI_nat (xs := xs) (j := v.toNat) (v := xs[v.toNat]) (by simp [hv])
    rwa [Int.toNat_of_nonneg v0] at this
  simp [f__law_pick, runB_e, m__law_pick, e, ha]
end
section
variable {ns : List Int} {st : Store}
theorem edd_inj {es : List Ed} : es.length = (es.map Ed.d).length := (List.length_map ..).symm
theorem r_all_edits {n : Nat} (hn : 0 < n) (h5 : n ≤ 5) : ∃ es st', f__law_all_edits [.int (n : Nat)] st = .ok (eds es) st' ∧ Gr st st' ∧ 0 < es.length ∧ es.length ≤ 100 := by
  have hr : ∀ s, rg1 (.int (n : Nat)) s = .ok (.fix (rng 0 n)) s := fun s => rg1_int (by omega)
  have hl : (rng 0 (n : Nat)).length ≤ 16777216 := by rw [rng_len]; omega
  have c1 : ∀ (w : List Nat) (s : Store), w.length = 3 → compL (.fix (rng 0 n)) (gN 2) HM.tYes (eTup (aCons (eC (.str w)) (aCons (eVar 2) aNil))) [some (.int (n : Nat)), none, none, none] (rng 0 n) [] s = .ok ((List.range n).map fun k => .tup [.str w, .int (k : Nat)]) s := fun w s hw => by
    have := comp_map (q := .fix (rng 0 n)) (set := gN 2) (fe := eTup (aCons (eC (.str w)) (aCons (eVar 2) aNil))) (τ := [some (.int (n : Nat)), none, none, none]) (st := s) rfl (fun k : Nat => D.int k) (fun k : Nat => .tup [.str w, .int (k : Nat)]) (List.range n) [] (fun k _ => ⟨[some (.int (n : Nat)), none, some (.int (k : Nat)), none], rfl, by simp⟩)
    rw [← rng_eq, List.nil_append] at this
    exact this
  have a1 := c1 [99, 117, 116] st rfl
  obtain ⟨A, eA⟩ : ∃ A, A = (List.range n).map fun k => Ed.cut (k : Nat) := ⟨_, rfl⟩
  obtain ⟨B, eB⟩ : ∃ B, B = (List.range n).map fun k => Ed.put (k : Nat) := ⟨_, rfl⟩
  have eA2 : ((List.range n).map fun k => D.tup [.str [99, 117, 116], .int (k : Nat)]) = A.map Ed.d := by rw [eA, List.map_map]; rfl
  have eB2 : ((List.range n).map fun k => D.tup [.str [112, 117, 116], .int (k : Nat)]) = B.map Ed.d := by rw [eB, List.map_map]; rfl
  have lA : A.length = n := by rw [eA]; simp
  have lB : B.length = n := by rw [eB]; simp
  have a2 := c1 [112, 117, 116] (st ++ [.lst (A.map Ed.d)]) rfl
  rw [eA2] at a1
  rw [eB2] at a2
  obtain ⟨s2, es2⟩ : ∃ s2, s2 = st ++ [.lst (A.map Ed.d), .lst (B.map Ed.d)] := ⟨_, rfl⟩
  have g1 : lstAt s2 st.length = some (A.map Ed.d) := by rw [es2]; simp [lstAt]
  have g2 : lstAt s2 (st.length + 1) = some (B.map Ed.d) := by rw [es2]; simp [lstAt]
  have g3 := oAdd_ref g1 g2 (by simp [lA, lB]; omega)
  rw [← List.map_append] at g3
  obtain ⟨AB, eAB⟩ : ∃ AB, AB = A ++ B := ⟨_, rfl⟩
  have lAB : AB.length = n + n := by rw [eAB, List.length_append, lA, lB]
  rw [← eAB] at g3
  obtain ⟨m, em⟩ : ∃ m, m = s2.length := ⟨_, rfl⟩
  have hm : st.length ≤ m := by rw [em, es2]; simp
  have Gs : Gr st s2 := ⟨_, es2⟩
  obtain ⟨τ', s4, e4, es, hτ, g4, l4, l5, G4⟩ := for_inv (q := .fix (rng 0 n)) (set := gN 2) (u := sExpr (eM "list" mExtend (eVar 1) (aCons (eEl (lComp [3] (iRg1 (eVar 0)) (gN 3) (tBl (eBin oNe (eVar 3) (eVar 2))) (eTup (aCons (eC (.str [116, 117, 114, 110])) (aCons (eVar 2) (aCons (eVar 3) aNil)))))) aNil)))
    (fun k τ s => ∃ es : List Ed, (∃ a, τ = [some (.int (n : Nat)), some (.ref m), a, none]) ∧ lstAt s m = some (es.map Ed.d) ∧ 2 ≤ es.length ∧ es.length ≤ 10 + 5 * k ∧ Gr st s) (fun _ _ _ _ => rfl) (rng 0 n) 0 [some (.int (n : Nat)), some (.ref m), none, none] (s2 ++ [.lst (AB.map Ed.d)])
    ⟨AB, ⟨none, rfl⟩, by rw [em]; exact lstAt_new, by omega, by omega, Gs.trans .app⟩ (by
      intro i d τ s hi hp
      obtain ⟨es, ⟨a, rfl⟩, g, l1, l2, G⟩ := hp
      obtain ⟨k, hk, rfl⟩ := rng_mem hi
      have hi5 : i < n := by
        have := (List.getElem?_eq_some_iff.mp hi).1
        rwa [rng_len] at this
      have c2 := comp_fil (q := .fix (rng 0 n)) (set := gN 3) (ft := tBl (eBin oNe (eVar 3) (eVar 2))) (fe := eTup (aCons (eC (.str [116, 117, 114, 110])) (aCons (eVar 2) (aCons (eVar 3) aNil)))) (τ := [some (.int (n : Nat)), some (.ref m), some (.int (k : Nat)), none]) (st := s) rfl (fun j : Nat => D.int j) (fun j : Nat => (Ed.turn (k : Nat) (j : Nat)).d) (fun j : Nat => !(decide ((j : Int) = k))) (List.range n) [] (fun j _ => ⟨[some (.int (n : Nat)), some (.ref m), some (.int (k : Nat)), some (.int (j : Nat))], rfl, by simp, fun _ => by simp [Ed.d]⟩)
      rw [← rng_eq, List.nil_append] at c2
      obtain ⟨C, eC⟩ : ∃ C, C = ((List.range n).filter fun j : Nat => !(decide ((j : Int) = k))).map fun j : Nat => Ed.turn (k : Nat) (j : Nat) := ⟨_, rfl⟩
      have eC2 : (((List.range n).filter fun j : Nat => !(decide ((j : Int) = k))).map fun j : Nat => (Ed.turn (k : Nat) (j : Nat)).d) = C.map Ed.d := by rw [eC, List.map_map]; rfl
      have lC : C.length ≤ n := by
        rw [eC, List.length_map]
        exact Nat.le_trans (List.length_filter_le _ _) (by simp)
      rw [eC2] at c2
      have g' : lstAt (s ++ [.lst (C.map Ed.d)]) m = some (es.map Ed.d) := (Gr.app (c := Cell.lst (C.map Ed.d))).lst g
      have g3 := mExtend_ref g' (lstAt_new (a := s) (xs := C.map Ed.d)) (by simp; omega)
      rw [← List.map_append] at g3
      refine ⟨[some (.int (n : Nat)), some (.ref m), some (.int (k : Nat)), none], rfl, [some (.int (n : Nat)), some (.ref m), some (.int (k : Nat)), none], (s ++ [Cell.lst (C.map Ed.d)]).set m (Cell.lst ((es ++ C).map Ed.d)), .inl ?_, es ++ C, ⟨_, rfl⟩, lstAt_set g', by simp; omega, by simp; omega, (G.trans .app).put hm⟩
      simp [lComp_e, lc1, wipeD, hr, hl, c2, okT_ref g, g3])
  obtain ⟨a, rfl⟩ := hτ
  rw [rng_len] at l5
  refine ⟨es, s4, ?_, G4, by omega, by omega⟩
  unfold f__law_all_edits
  rw [runB_e]
  unfold m__law_all_edits
  simp [List.replicate, lComp_e, lc1, wipeD, hr, hl, a1, a2, ← es2, sFor_e]
  rw [g3]
  simp [sFor_e, hr, ← em, e4, fTuple_ref g4]
  rfl
end
section
variable {ns : List Int} {st : Store}
theorem r_near {n : Nat} (H : DS ns st) (hn : 0 < n) (h5 : n ≤ 5) : ∃ es st', f__law_near [.ref 1, .int (n : Nat)] st = .ok (eds es) st' ∧ es.length ≤ 100 ∧ DS ns st' ∧ Fr st st' := by
  obtain ⟨es, s1, e1, G1, l0, l1⟩ := r_all_edits (st := st) hn h5
  obtain ⟨v, s2, e2, v0, v1, D2, F2⟩ := r_draw (many := 5) (G1.ds H) (by decide) (by decide)
  have F12 := G1.fr.trans F2
  have lm : (es.map Ed.d).length ≤ 16777216 := by simp; omega
  have ee : ∀ s, dSq s (eds es) = some (.fix (es.map Ed.d)) := fun _ => rfl
  unfold f__law_near
  rw [runB_e]
  unfold m__law_near
  by_cases c0 : v = 0
  · exact ⟨es, s2, by simp [List.replicate, e1, e2, c0], l1, D2, F12⟩
  by_cases c1 : v = 1
  · subst c1
    have c2 := comp_fil (q := .fix (es.map Ed.d)) (set := gN 5) (ft := tBl (eBin oNe (eBin oIx (eVar 5) (eC (.int 0))) (eC (.str [116, 117, 114, 110])))) (fe := eVar 5) (τ := [some (.ref 1), some (.int (n : Nat)), some (eds es), some (.int 1), none, none]) (st := s2) rfl Ed.d Ed.d (fun e : Ed => match e with | .turn _ _ => false | _ => true) es [] (fun e _ => ⟨[some (.ref 1), some (.int (n : Nat)), some (eds es), some (.int 1), none, some e.d], rfl, by cases e <;> simp [Ed.d], fun _ => by simp⟩)
    rw [List.nil_append] at c2
    exact ⟨_, s2, by simp [List.replicate, lComp_e, lc1, wipeD, e1, e2, ee, lm, c2, show es.length ≤ 16777216 by omega]; rfl, Nat.le_trans (List.length_filter_le _ _) l1, D2, F12⟩
  by_cases c2 : v = 2
  · subst c2
    have c2 := comp_fil (q := .fix (es.map Ed.d)) (set := gN 5) (ft := tBl (eBin oEq (eBin oIx (eVar 5) (eC (.int 0))) (eC (.str [116, 117, 114, 110])))) (fe := eVar 5) (τ := [some (.ref 1), some (.int (n : Nat)), some (eds es), some (.int 2), none, none]) (st := s2) rfl Ed.d Ed.d (fun e : Ed => match e with | .turn _ _ => true | _ => false) es [] (fun e _ => ⟨[some (.ref 1), some (.int (n : Nat)), some (eds es), some (.int 2), none, some e.d], rfl, by cases e <;> simp [Ed.d], fun _ => by simp⟩)
    rw [List.nil_append] at c2
    exact ⟨_, s2, by simp [List.replicate, lComp_e, lc1, wipeD, e1, e2, ee, lm, c2, show es.length ≤ 16777216 by omega]; rfl, Nat.le_trans (List.length_filter_le _ _) l1, D2, F12⟩
  have hm0 : 2 ≤ s2.length := D2.len
  obtain ⟨τ', s4, e4, fs, ⟨a, rfl⟩, g4, l4, D4, F4⟩ := for_inv (q := .fix (es.map Ed.d)) (set := gN 5) (u := sIf (tBl (eBin oLt (eCall 2 f__law_draw (aCons (eVar 0) (aCons (eC (.int 3)) aNil))) (eC (.int 2)))) (sExpr (eM "list" mAppend (eVar 4) (aCons (eVar 5) aNil))) sNil)
    (fun k τ s => ∃ fs : List Ed, (∃ a, τ = [some (.ref 1), some (.int (n : Nat)), some (eds es), some (.int v), some (.ref s2.length), a]) ∧ lstAt s s2.length = some (fs.map Ed.d) ∧ fs.length ≤ k ∧ DS ns s ∧ Fr s2 s) (fun _ _ _ _ => rfl) (es.map Ed.d) 0 [some (.ref 1), some (.int (n : Nat)), some (eds es), some (.int v), some (.ref s2.length), none] (s2 ++ [.lst []])
    ⟨[], ⟨none, rfl⟩, lstAt_new, Nat.le_refl _, D2.app, .app⟩ (by
      intro i d τ s hi hp
      obtain ⟨fs, ⟨a, rfl⟩, g, l2, D, F⟩ := hp
      obtain ⟨e, _, rfl⟩ := map_mem hi
      have hi2 : i < es.length := by simpa using (List.getElem?_eq_some_iff.mp hi).1
      obtain ⟨w, s3, e3, w0, w1, D3, F3⟩ := r_draw (many := 3) D (by decide) (by decide)
      have g3 := F3.lst g (by omega)
      refine ⟨[some (.ref 1), some (.int (n : Nat)), some (eds es), some (.int v), some (.ref s2.length), some e.d], rfl, ?_⟩
      by_cases hw : w < 2
      · have g5 := mAppend_ref (x := e.d) g3 (by simp; omega)
        refine ⟨[some (.ref 1), some (.int (n : Nat)), some (eds es), some (.int v), some (.ref s2.length), some e.d], s3.set s2.length (Cell.lst (fs.map Ed.d ++ [e.d])), .inl ?_, fs ++ [e], ⟨_, rfl⟩, by rw [lstAt_set g3]; simp, by simp; omega, D3.put2 (by omega) (by omega), (F.trans F3).put2 (Nat.le_refl _)⟩
        simp [e3, hw, okT_ref g3, g5]
      · refine ⟨[some (.ref 1), some (.int (n : Nat)), some (eds es), some (.int v), some (.ref s2.length), some e.d], s3, .inl ?_, fs, ⟨_, rfl⟩, g3, by omega, D3, F.trans F3⟩
        simp [e3, hw])
  have l4 : fs.length ≤ es.length := by simpa using l4
  refine ⟨fs, s4, ?_, by omega, D4, F12.trans F4⟩
  simp [List.replicate, e1, e2, c0, c1, c2, sFor_e, ee, e4, fTuple_ref g4]
  rfl
theorem rn_ge {A B : Int} (hB : 0 < B) (h : B ≤ A) : rd A B ≤ rn A B := by
  have c := rat_cross (n := A) (d := B) (Int.ne_of_gt hB)
  have p := rat_pos (n := A) (d := B) (Int.ne_of_gt hB)
  have h1 : rd A B * B ≤ rn A B * B := by
    rw [c, Int.mul_comm A]
    exact Int.mul_le_mul_of_nonneg_left h (Int.le_of_lt p)
  exact Int.le_of_mul_le_mul_right h1 hB
theorem big140 : (2 : Nat) ^ 140 = 1393796574908163946345982392040522594123776 := by decide +kernel
theorem r_factor {sty : Int} (H : DS ns st) (h0 : 0 ≤ sty) : ∃ p st', f__law_factor [.ref 1, .int sty] st = .ok (frp p) st' ∧ FQ 140 p.1 p.2 ∧ p.2 ≤ p.1 ∧ DS ns st' ∧ Fr st st' := by
  unfold f__law_factor
  rw [runB_e]
  unfold m__law_factor
  by_cases c0 : sty = 0
  · exact ⟨(2, 1), st, by simp [c0]; rfl, ⟨by decide, by decide, by rw [big140]; decide, by rw [big140]; decide⟩, by decide, H, .refl⟩
  by_cases c1 : sty = 1
  · have hm0 : 2 ≤ st.length := H.len
    obtain ⟨v, s1, e1, hv, D1, F1⟩ := r_pick (st := st ++ [.lst [.int 1, .int 2, .int 4, .int 8]]) (m := st.length) H.app lstAt_new (by omega) (by decide) (by decide)
    have : ∃ k : Int, v = .int k ∧ 0 < k ∧ k < 9 := by
      simp only [List.mem_cons, List.not_mem_nil, or_false] at hv
      rcases hv with rfl | rfl | rfl | rfl
      · exact ⟨1, rfl, by decide, by decide⟩
      · exact ⟨2, rfl, by decide, by decide⟩
      · exact ⟨4, rfl, by decide, by decide⟩
      · exact ⟨8, rfl, by decide, by decide⟩
    obtain ⟨k, rfl, k0, k1⟩ := this
    exact ⟨(k, 1), s1, by simp [c1, List.replicate, e1]; rfl, ⟨by show (0 : Int) < 1; decide, by simp, by rw [big140]; show k.natAbs < _; omega, by rw [big140]; show (1 : Int).natAbs < _; decide⟩, by show (1 : Int) ≤ k; omega, D1, Fr.app.trans F1⟩
  by_cases c2 : sty = 2
  · obtain ⟨v, s1, e1, v0, v1, D1, F1⟩ := r_draw (many := 1000000) H (by decide) (by decide)
    obtain ⟨w, s2, e2, w0, w1, D2, F2⟩ := r_draw (many := 1000000) D1 (by decide) (by decide)
    have p1 : okPow 10 6 = true := by decide
    have p2 : okPow 10 40 = true := by decide
    have h1 : (10000000000000000000000000000000000000000 + v).natAbs < 2 ^ 140 := by rw [big140]; omega
    have h2 : (10000000000000000000000000000000000000000 - w).natAbs < 2 ^ 140 := by rw [big140]; omega
    have h3 : (10000000000000000000000000000000000000000 - w) ≠ 0 := by omega
    obtain ⟨A, eA⟩ : ∃ A : Int, A = 10000000000000000000000000000000000000000 + v := ⟨_, rfl⟩
    obtain ⟨B, eB⟩ : ∃ B : Int, B = 10000000000000000000000000000000000000000 - w := ⟨_, rfl⟩
    rw [← eA] at h1
    rw [← eB] at h2 h3
    have z := r_f (st := s2) (n := A) h3 h2 (by decide)
    exact ⟨(rn A B, rd A B), s2, by simp [c2, List.replicate, p1, p2, e1, e2, ← eA, ← eB, z]; rfl, .rat h3 h1 h2, rn_ge (by omega) (by omega), D2, F1.trans F2⟩
  obtain ⟨v, s1, e1, v0, v1, D1, F1⟩ := r_draw (many := 5) H (by decide) (by decide)
  obtain ⟨w, s2, e2, w0, w1, D2, F2⟩ := r_draw (many := 6) D1 (by decide) (by decide)
  have h1 : (1 + v + w).natAbs < 2 ^ 140 := by rw [big140]; omega
  have h2 : (1 + v).natAbs < 2 ^ 140 := by rw [big140]; omega
  have h3 : (1 + v) ≠ 0 := by omega
  have z := r_f (st := s2) (n := 1 + v + w) h3 h2 (by decide)
  exact ⟨(rn (1 + v + w) (1 + v), rd (1 + v + w) (1 + v)), s2, by simp [c0, c1, c2, List.replicate, e1, e2, z]; rfl, .rat h3 h1 h2, rn_ge (by omega) (by omega), D2, F1.trans F2⟩
theorem r_poll {n : Nat} {sty : Int} (H : DS ns st) (hn : 0 < n) (h5 : n ≤ 5) (h0 : 0 ≤ sty) : ∃ p st', f__law_poll [.ref 1, .int (n : Nat), .int sty] st = .ok (pd p) st' ∧ FQ 140 p.2.1 p.2.2 ∧ p.2.2 ≤ p.2.1 ∧ DS ns st' ∧ Fr st st' := by
  have hr : ∀ s, rg1 (.int (n : Nat)) s = .ok (.fix (rng 0 n)) s := fun s => rg1_int (by omega)
  have hl : (rng 0 (n : Nat)).length ≤ 16777216 := by rw [rng_len]; omega
  obtain ⟨ys, s1, e1, cs, rfl, D1, F1⟩ := comp_gen (q := .fix (rng 0 n)) (set := gN 4) (ft := tBl (eBin oEq (eCall 2 f__law_draw (aCons (eVar 0) (aCons (eC (.int 2)) aNil))) (eC (.int 1)))) (fe := eVar 4) (τ := [some (.ref 1), some (.int (n : Nat)), some (.int sty), none, none])
    (fun _ acc s => ∃ cs : List Int, acc = cs.map D.int ∧ DS ns s ∧ Fr st s) (fun _ _ _ _ => rfl) (rng 0 n) 0 [] st ⟨[], rfl, H, .refl⟩ (by
      intro i d acc s hi hp
      obtain ⟨cs, rfl, D, F⟩ := hp
      obtain ⟨k, hk, rfl⟩ := rng_mem hi
      obtain ⟨v, s3, e3, v0, v1, D3, F3⟩ := r_draw (many := 2) D (by decide) (by decide)
      refine ⟨[some (.ref 1), some (.int (n : Nat)), some (.int sty), none, some (.int (k : Nat))], rfl, decide (v = 1), s3, by simp [e3], fun _ => ⟨cs, rfl, D3, F.trans F3⟩, fun _ => ⟨.int (k : Nat), s3, by simp, cs ++ [(k : Int)], by simp, D3, F.trans F3⟩⟩)
  unfold f__law_poll
  rw [runB_e]
  unfold m__law_poll
  cases cs with
  | nil =>
    obtain ⟨v, s2, e2, v0, v1, D2, F2⟩ := r_draw (many := (n : Nat)) D1 (by omega) (by
      rw [Int.natAbs_natCast]
      exact Nat.lt_of_le_of_lt (log2_le (k := 3) (by omega)) (by decide))
    obtain ⟨p, s3, e3, hq, hge, D3, F3⟩ := r_factor (sty := sty) D2 h0
    exact ⟨([v], p), s3, by simp [List.replicate, lComp_e, lc1, wipeD, hr, hl, e1, e2, e3]; rfl, hq, hge, D3, (F1.trans F2).trans F3⟩
  | cons c cs =>
    obtain ⟨p, s3, e3, hq, hge, D3, F3⟩ := r_factor (sty := sty) D1 h0
    have hz : ¬ ((cs.length : Int) + 1 = 0) := by omega
    exact ⟨(c :: cs, p), s3, by simp [List.replicate, lComp_e, lc1, wipeD, hr, hl, e1, e3, hz]; rfl, hq, hge, D3, F1.trans F3⟩
end

/-! the law's own sets -/
theorem fcts_app {e : Ed} {ps : List Po} {a b : List Nat} : fcts e ps (a ++ b) = fcts e ps a ++ fcts e ps b := by simp [fcts]
theorem prs_app {x : Int × Int} {a b : List (Int × Int)} : prs x (a ++ b) = prs (prs x a) b := by simp [prs]
theorem w_pickT {ns : List Int} {st : Store} {xs : List D} {Q : D → Store → Prop} (H : DS ns st) (h0 : 0 < xs.length) (h1 : xs.length < 2 ^ 60) (hQ : ∀ v s, v ∈ xs → DS ns s → Fr st s → Q v s) : W (f__law_pick [.ref 1, .tup xs] st) Q := by
  obtain ⟨v, s, e, hv, D1, F1⟩ := r_pickT H h0 h1
  exact .of e (hQ v s hv D1 F1)
/-- a dict that notes just these sets, in this order -/
def Dq (s : Store) (m : Nat) (S : List (List Nat)) : Prop := ∃ kvs, dctAt s m = some kvs ∧ kvs.map (·.1) = S.map nats
theorem dGet_keys {kvs : List (D × D)} {k : D} : (dGet kvs k).isSome = decide (k ∈ kvs.map (·.1)) := by
  unfold dGet
  rw [Option.isSome_map, Bool.eq_iff_iff, List.find?_isSome, decide_eq_true_eq, List.mem_map]
  simp
theorem Dq.dk {s : Store} {m : Nat} {S : List (List Nat)} (h : Dq s m S) : Dk s m S := by
  obtain ⟨kvs, h1, h2⟩ := h
  refine ⟨kvs, h1, ?_, fun l => ?_⟩
  · rw [List.all_eq_true]
    intro p hp
    have : p.1 ∈ kvs.map (·.1) := List.mem_map_of_mem hp
    rw [h2] at this
    obtain ⟨l, _, e⟩ := List.mem_map.mp this
    rw [← e]
    exact tupQ_nats
  · rw [dGet_keys, h2, Bool.eq_iff_iff, decide_eq_true_eq, decide_eq_true_eq, List.mem_map]
    constructor
    · rintro ⟨a, ha, e⟩
      rwa [← nats_inj e]
    · exact fun h => ⟨l, h, rfl⟩
theorem Dq.gr {s s' : Store} {m : Nat} {S : List (List Nat)} (h : Dq s m S) (G : Gr s s') : Dq s' m S := by
  obtain ⟨kvs, h1, h2⟩ := h
  exact ⟨kvs, G.dct h1, h2⟩
theorem Dq.fr {s s' : Store} {m : Nat} {S : List (List Nat)} (h : Dq s m S) (F : Fr s s') (hm : m ≠ 1) : Dq s' m S := by
  obtain ⟨kvs, h1, h2⟩ := h
  exact ⟨kvs, F.dct h1 hm, h2⟩
theorem Dq.sorted {s : Store} {m : Nat} {S : List (List Nat)} (h : Dq s m S) : fSorted [.ref m] s = .ok (.ref s.length) (s ++ [.lst ((sortL S).map nats)]) := by
  obtain ⟨kvs, h1, h2⟩ := h
  rw [fSorted_dct h1, h2, gSorted_nats]
section
variable {ps : List Po} {es : List Ed} {L : Int × Int} {st : Store} {l a b : List Nat} {e : Ed}
theorem r_lies (ha : a.length ≤ 100) : f__law_lies [nats a, nats b] st = .ok (.bl (a.all fun k => decide (k ∈ b))) st := by
  have key : W (f__law_lies [nats a, nats b] st) fun d s => d = .bl (a.all fun k => decide (k ∈ b)) ∧ s = st := by
    unfold f__law_lies
    rw [runB_e]
    unfold m__law_lies
    rw [W_fin]
    refine ws_ret ?_
    rw [eCS_e, W_bind, lComp_e, W_bind, iEx_e, W_bind, show ent 3 [nats a, nats b] = [some (nats a), some (nats b), none] from rfl, eVar_e rfl, W_ok, show dSq st (nats a) = some (.fix (a.map fun k => D.int (k : Nat))) from rfl, ofQ_some, W_ok]
    refine w_lc (by show (a.map fun k => D.int (k : Nat)).length ≤ _; rw [List.length_map]; omega) ?_
    refine w_map (fun k : Nat => D.int k) (fun k : Nat => D.bl (decide (k ∈ b))) a rfl rfl (fun k hk => ⟨_, rfl, ?_⟩) ?_
    · refine W.of (a := .bl (decide (k ∈ b))) (s := st) ?_ ⟨rfl, rfl⟩
      simp [wipeD, in_nats]
    · rw [gAllB_map, W_ok]
      exact ⟨rfl, rfl⟩
  obtain ⟨d, s, h, rfl, rfl⟩ := key.ex
  exact h
theorem r_is_itup {cs : List Int} (h : cs.length ≤ 1000) : f__law_is_ints [itup cs] st = .ok (.bl true) st := by
  have key : W (f__law_is_ints [itup cs] st) fun d s => d = .bl true ∧ s = st := by
    unfold f__law_is_ints
    rw [runB_e]
    unfold m__law_is_ints
    rw [W_fin]
    refine ws_ret ?_
    have e1 : eCB fIsi (aCons (eVar 0) (aCons (eC (.ty "tuple")) aNil)) (ent 2 [itup cs]) st = .ok (.bl true) st := by simp [itup, List.replicate]
    rw [eAnd_e, e1, ER.bind_ok, oAndV_bl, if_pos rfl]
    rw [eCS_e, W_bind, lComp_e, W_bind, iEx_e, W_bind, show ent 2 [itup cs] = [some (itup cs), none] from rfl, eVar_e rfl, W_ok, show dSq st (itup cs) = some (.fix (cs.map D.int)) from rfl, ofQ_some, W_ok]
    refine w_lc (by show (cs.map D.int).length ≤ _; rw [List.length_map]; omega) ?_
    refine w_map D.int (fun _ => D.bl true) cs rfl rfl (fun k hk => ⟨_, rfl, ?_⟩) ?_
    · refine W.of (a := .bl true) (s := st) ?_ ⟨rfl, rfl⟩
      simp [wipeD, r_is_int]
    · rw [show cs.map (fun _ => D.bl true) = cs.map (fun _ : Int => D.bl ((fun _ => true) ())) from rfl]
      have := gAllB_map (f := fun _ : Int => true) (xs := cs) (st := st)
      rw [this, W_ok]
      exact ⟨by simp, rfl⟩
  obtain ⟨d, s, h, rfl, rfl⟩ := key.ex
  exact h
theorem nats_itup : nats a = itup (a.map fun k : Nat => (k : Int)) := by
  unfold nats itup
  rw [List.map_map]
  rfl
theorem r_is_nats (h : a.length ≤ 1000) : f__law_is_ints [nats a] st = .ok (.bl true) st := by
  rw [nats_itup]
  exact r_is_itup (by rw [List.length_map]; exact h)
theorem w_lproducts {P : D} {q : Sq} (h : PS ps) (hl : ∀ k ∈ l, k < ps.length) (hn : l.length ≤ 9) (hq : dSq st P = some q) (hi : q.items = l.map fun k => D.int (k : Nat)) (hc : q.chk st = true) : W (f__law_products [e.d, pls ps, P] st) fun d s => d = .tup [.int (load e ps l).1, .int (load e ps l).2] ∧ s = st := by
  unfold f__law_products
  rw [runB_e]
  unfold m__law_products
  rw [W_fin]
  refine ws_cons (N' := fun τ s => τ = [some e.d, some (pls ps), some P, some (.int 1), none, none, none, none] ∧ s = st) ?_ fun τ s hp => ?_
  · refine ws_set ?_
    exact ⟨rfl, rfl⟩
  obtain ⟨rfl, hs⟩ := hp
  rw [hs]
  clear hs s
  refine ws_cons (N' := fun τ s => τ = [some e.d, some (pls ps), some P, some (.int 1), some (.int 1), none, none, none] ∧ s = st) ?_ fun τ s hp => ?_
  · refine ws_set ?_
    exact ⟨rfl, rfl⟩
  obtain ⟨rfl, hs⟩ := hp
  rw [hs]
  clear hs s
  refine ws_cons (N' := fun τ s => ∃ a b c, τ = [some e.d, some (pls ps), some P, some (.int (load e ps l).1), some (.int (load e ps l).2), a, b, c] ∧ s = st) ?_ fun τ s hp => ?_
  · refine ws_forD (fun q' s => q' = q ∧ s = st) ?_ ?_
    · rw [iEx_e, W_bind, eVar_e rfl, W_ok, hq, ofQ_some, W_ok]
      exact ⟨rfl, rfl⟩
    · rintro _ s0 ⟨rfl, hs0⟩
      rw [hs0]
      clear hs0 s0
      obtain ⟨I, hI⟩ : ∃ I : Nat → Sl → Store → Prop, I = fun i τ s => ∃ a b c, τ = [some e.d, some (pls ps), some P, some (.int (load e ps (l.take i)).1), some (.int (load e ps (l.take i)).2), a, b, c] ∧ s = st := ⟨_, rfl⟩
      refine ws_map (fun k : Nat => D.int k) l hi I (fun k τ s hp => ?_) (by rw [hI]; exact ⟨_, _, _, rfl, rfl⟩) (fun i k τ s hk hp => ?_) fun τ s hp => ?_
      · rw [hI] at hp
        obtain ⟨_, _, _, _, hs⟩ := hp
        rw [hs]
        exact hc
      · rw [hI] at hp
        obtain ⟨a, b, c, rfl, hs⟩ := hp
        rw [hs]
        clear hs s
        refine ⟨_, rfl, ?_⟩
        have hkm := List.mem_of_getElem? hk
        have hkl := hl k hkm
        have ix := ix_poll (ps := ps) (k := k) (st := st) hkl
        have hb := load_bd (e := e) (l := l.take i) h (fun j hj => hl j (List.mem_of_mem_take hj)) (by rw [List.length_take]; omega)
        have hg := ps_gp h hkl
        have et : l.take (i + 1) = l.take i ++ [k] := by rw [List.take_add_one, hk]; rfl
        have ef : load e ps (l.take (i + 1)) = if chg e (gp ps k).1 then mulP (load e ps (l.take i)) (gp ps k).2 else load e ps (l.take i) := by
          unfold load
          rw [et, fcts_app, prs_app, fcts_cons]
          split <;> simp [fcts, prs]
        refine ws_cons (N' := fun τ s => τ = [some e.d, some (pls ps), some P, some (.int (load e ps (l.take i)).1), some (.int (load e ps (l.take i)).2), some (.int (k : Nat)), some (itup (gp ps k).1), some (frp (gp ps k).2)] ∧ s = st) ?_ fun τ s hp => ?_
        · rw [sAsg_e, WS_bindE]
          refine W.of (a := pd (gp ps k)) (s := st) (by simp [ix]) ⟨rfl, rfl⟩
        obtain ⟨rfl, hs⟩ := hp
        rw [hs]
        clear hs s
        have hch := r_lis_changed (e := e) (cs := (gp ps k).1) (st := st)
        have o1 := om hb.an hg.an (by omega)
        have o2 := om hb.bn hg.bn (by omega)
        cases hx : chg e (gp ps k).1 with
        | false =>
          rw [hx] at hch
          simp [hch]
          rw [hI]
          rw [hx, if_neg (by decide)] at ef
          exact ⟨some (.int (k : Nat)), some (itup (gp ps k).1), some (frp (gp ps k).2), by rw [ef], rfl⟩
        | true =>
          rw [hx] at hch
          simp [hch, frp, fr, o1, o2]
          rw [hI]
          rw [hx, if_pos rfl] at ef
          exact ⟨some (.int (k : Nat)), some (itup (gp ps k).1), some (frp (gp ps k).2), by rw [ef]; rfl, rfl⟩
      · rw [hI] at hp
        obtain ⟨a, b, c, rfl, hs⟩ := hp
        rw [List.take_length]
        exact ⟨a, b, c, rfl, hs⟩
  obtain ⟨a, b, c, rfl, hs⟩ := hp
  rw [hs]
  refine ws_ret ?_
  refine W.of (a := .tup [.int (load e ps l).1, .int (load e ps l).2]) (s := st) (by simp) ⟨rfl, rfl⟩
theorem r_lproducts (h : PS ps) (hl : ∀ k ∈ l, k < ps.length) (hn : l.length ≤ 9) : f__law_products [e.d, pls ps, nats l] st = .ok (.tup [.int (load e ps l).1, .int (load e ps l).2]) st := by
  obtain ⟨d, s, h, rfl, rfl⟩ := (w_lproducts (e := e) (P := nats l) (q := .fix (l.map fun k => D.int (k : Nat))) (st := st) h hl hn rfl rfl rfl).ex
  exact h
theorem r_lburst (h : PS ps) (hl : ∀ k ∈ l, k < ps.length) (hn : l.length ≤ 9) (hL : FQ 1500 L.1 L.2) : f__law_burst [eds es, pls ps, frp L, nats l] st = .ok (edO (brst ps l es L)) st := by
  have key : W (f__law_burst [eds es, pls ps, frp L, nats l] st) fun d s => d = edO (brst ps l es L) ∧ s = st := by
    unfold f__law_burst
    rw [runB_e]
    unfold m__law_burst
    rw [W_fin]
    refine ws_cons (N' := fun τ s => brst ps l es L = none ∧ s = st) ?_ fun τ s hp => ?_
    · refine ws_forD (fun q s => q = .fix (es.map Ed.d) ∧ s = st) ?_ ?_
      · rw [iEx_e, W_bind]
        exact ⟨rfl, rfl⟩
      · rintro _ s0 ⟨rfl, rfl⟩
        refine ws_find Ed.d (fun e => ltP L (load e ps l)) (fun τ => ∃ t a b, τ = [some (eds es), some (pls ps), some (frp L), some (nats l), t, a, b]) (fun s' => s' = s0) (fun _ _ => rfl) es _ _ _ rfl ⟨none, none, none, rfl⟩ rfl (fun e he τ s1 hτ G => ?_) (fun τ s1 h _ G => ⟨h, G⟩) (fun e s1 h G => ⟨by unfold brst; rw [h]; rfl, G⟩)
        obtain ⟨t, a, b, rfl⟩ := hτ
        subst G
        refine ⟨_, rfl, ?_⟩
        have h1 := r_lproducts (e := e) (st := s1) h hl hn
        have hb := load_bd (e := e) h hl hn
        have o1 := om hL.an hb.bn (by omega)
        have o2 := om hb.an hL.bn (by omega)
        refine ws_cons (N' := fun τ s' => τ = [some (eds es), some (pls ps), some (frp L), some (nats l), some e.d, some (.int (load e ps l).1), some (.int (load e ps l).2)] ∧ s' = s1) ?_ fun τ s' hp => ?_
        · rw [sAsg_e, WS_bindE]
          simp [gN, h1]
          exact ⟨rfl, rfl⟩
        obtain ⟨rfl, rfl⟩ := hp
        cases hx : ltP L (load e ps l) with
        | false =>
          have := hx
          unfold ltP at this
          simp [frp, fr, o1, o2, this]
        | true =>
          have := hx
          unfold ltP at this
          simp [frp, fr, o1, o2, this]
    · refine ws_ret ?_
      rw [eC_e, W_ok, hp.1]
      exact ⟨rfl, hp.2⟩
  obtain ⟨d, s, h, rfl, rfl⟩ := key.ex
  exact h
theorem w_lsets {n : Nat} (hn : n ≤ 8) : W (f__law_sets [.int (n : Nat)] st) fun d s => ∃ r, d = .ref r ∧ st.length ≤ r ∧ lstAt s r = some (List.map nats (ascL n)) ∧ Gr st s := by
  unfold f__law_sets
  rw [runB_e]
  unfold m__law_sets
  rw [W_fin]
  refine ws_cons (N' := fun τ s => τ = [some (.int (n : Nat)), some (.ref st.length), none, none] ∧ s = st ++ [.lst (List.map nats [[]])]) ?_ fun τ s hp => ?_
  · simp only [sSeq_e, sIf_e, sSet_e, sExpr_e, sRet_e, sRetN_e, sNil_e, sFor_e, sBrk_e, sCnt_e, sSub_e, sAsg_e, W_fin, WS_seq, WS_bindE, WS_nx, WS_rt, WS_bk, WS_ct]
    simp [nats]
  obtain ⟨rfl, rfl⟩ := hp
  refine ws_cons (N' := fun τ s => ∃ r t, τ = [some (.int (n : Nat)), some (.ref r), t, none] ∧ st.length ≤ r ∧ lstAt s r = some (List.map nats (ascL n)) ∧ Gr st s) ?_ fun τ s hp => ?_
  · refine ws_forD (fun q s => q = .fix (rng 0 (n : Nat)) ∧ s = st ++ [.lst (List.map nats [[]])]) ?_ ?_
    · simp
      rw [rg1_int (by omega)]
      exact ⟨rfl, rfl⟩
    · rintro _ _ ⟨rfl, rfl⟩
      obtain ⟨I, hI⟩ : ∃ I : Nat → Sl → Store → Prop, I = fun i τ s => ∃ r t, τ = [some (.int (n : Nat)), some (.ref r), t, none] ∧ st.length ≤ r ∧ lstAt s r = some (List.map nats (ascL i)) ∧ Gr st s := ⟨_, rfl⟩
      refine ws_rng (n := n) I (fun _ _ _ _ => rfl) (by rw [hI]; exact ⟨_, none, rfl, Nat.le_refl _, lstAt_new, Gr.app⟩) (fun i τ s hi hp => ?_) fun τ s hp => ?_
      · rw [hI] at hp
        obtain ⟨r, t, rfl, hr, g, G⟩ := hp
        refine ⟨_, rfl, ?_⟩
        have len : (ascL i).length ≤ 256 := by rw [ascL_len]; exact Nat.pow_le_pow_right (n := 2) (j := 8) (by decide) (by omega)
        refine ws_set ?_
        rw [eBin_e, W_bind]
        refine W.of (a := .ref r) (s := s) rfl ?_
        rw [eEl_e, W_bind, W_bind, lComp_e, W_bind, iEx_e, W_bind]
        refine W.of (a := .ref r) (s := s) rfl ?_
        rw [dSq_ref g, ofQ_some, W_ok]
        refine w_lc (by show (List.map nats (ascL i)).length ≤ _; rw [List.length_map]; omega) ?_
        refine w_map nats (fun c => nats (c ++ [i])) (ascL i) rfl (by simp [Sq.chk, g]) (fun c hc => ⟨_, rfl, ?_⟩) ?_
        · refine W.of (a := nats (c ++ [i])) (s := s) ?_ ⟨rfl, rfl⟩
          have := (mem_ascL.mp hc).len
          simp [gN, wipeD, nats]
          omega
        · have g1 : lstAt (s ++ [.lst ((ascL i).map fun c => nats (c ++ [i]))]) r = some (List.map nats (ascL i)) := Gr.app.lst g
          rw [W_ok, oAdd_ref g1 lstAt_new (by rw [List.length_map, List.length_map]; omega), W_ok, hI]
          refine ⟨_, _, rfl, by have := G.len; simp; omega, ?_, (G.trans Gr.app).trans Gr.app⟩
          rw [lstAt_new, ascL, List.map_append, List.map_map]
          rfl
      · rw [hI] at hp
        exact hp
  obtain ⟨r, t, rfl, hr, g, G⟩ := hp
  refine ws_ret ?_
  exact ⟨r, rfl, hr, g, G⟩
theorem w_lfitting (C : Fam ps es L) : W (f__law_fitting [eds es, pls ps, frp L] st) fun d s => ∃ m, d = .ref m ∧ st.length ≤ m ∧ Dq s m ((ascL ps.length).filter (fits ps es L)) ∧ Gr st s := by
  unfold f__law_fitting
  rw [runB_e]
  unfold m__law_fitting
  rw [W_fin]
  have n8 := C.n8
  have len : (ascL ps.length).length ≤ 256 := by rw [ascL_len]; exact Nat.pow_le_pow_right (n := 2) (j := 8) (by decide) n8
  refine ws_cons (N' := fun τ s => τ = [some (eds es), some (pls ps), some (frp L), some (.ref st.length), none] ∧ s = st ++ [.dct []]) ?_ fun τ s hp => ?_
  · simp only [sSeq_e, sIf_e, sSet_e, sExpr_e, sRet_e, sRetN_e, sNil_e, sFor_e, sBrk_e, sCnt_e, sSub_e, sAsg_e, W_fin, WS_seq, WS_bindE, WS_nx, WS_rt, WS_bk, WS_ct]
    simp
  obtain ⟨rfl, rfl⟩ := hp
  refine ws_cons (N' := fun τ s => ∃ t, τ = [some (eds es), some (pls ps), some (frp L), some (.ref st.length), t] ∧ Dq s st.length ((ascL ps.length).filter (fits ps es L)) ∧ Gr st s) ?_ fun τ s hp => ?_
  · refine ws_forD (fun q s => ∃ r, q = .cell r (List.map nats (ascL ps.length)) ∧ lstAt s r = some (List.map nats (ascL ps.length)) ∧ st.length < r ∧ Gr (st ++ [.dct []]) s) ?_ ?_
    · simp [pls]
      refine (w_lsets n8).mono fun d s hp => ?_
      obtain ⟨r, rfl, hr, g, G⟩ := hp
      rw [dSq_ref g]
      exact ⟨r, rfl, g, by simp at hr; omega, G⟩
    · rintro _ s1 ⟨r, rfl, g, hr, G⟩
      obtain ⟨I, hI⟩ : ∃ I : Nat → Sl → Store → Prop, I = fun i τ s => ∃ t, τ = [some (eds es), some (pls ps), some (frp L), some (.ref st.length), t] ∧ lstAt s r = some (List.map nats (ascL ps.length)) ∧ Dq s st.length (((ascL ps.length).take i).filter (fits ps es L)) ∧ Gr st s := ⟨_, rfl⟩
      refine ws_map nats (ascL ps.length) rfl I (fun k τ s hp => ?_) (by rw [hI]; exact ⟨none, rfl, g, ⟨[], G.dct dctAt_new, rfl⟩, Gr.app.trans G⟩) (fun i c τ s hi hp => ?_) fun τ s hp => ?_
      · rw [hI] at hp
        obtain ⟨_, _, g, _⟩ := hp
        exact decide_eq_true g
      · rw [hI] at hp
        obtain ⟨t, rfl, g, ⟨kvs, gd, gk⟩, G⟩ := hp
        refine ⟨_, rfl, ?_⟩
        have hc := mem_ascL.mp (List.mem_of_getElem? hi)
        have hb := r_lburst (es := es) (L := L) (st := s) C.hps (C.lt hc).1 (C.lt hc).2 C.hL
        have et : (ascL ps.length).take (i + 1) = (ascL ps.length).take i ++ [c] := by rw [List.take_add_one, hi]; rfl
        have isn : ∀ o : Option Ed, oIs (edO o) .non s = .ok (.bl o.isNone) s := fun o => by
          cases o with
          | none => rfl
          | some e => cases e <;> rfl
        refine ws_ifd (fun b s2 => b = fits ps es L c ∧ s2 = s) ?_ (fun s4 h => ?_) (fun s4 h => ?_)
        · refine W.of (a := fits ps es L c) (s := s) ?_ ⟨rfl, rfl⟩
          unfold fits ltP
          by_cases hx : L.1 * 1 < 1 * L.2
          · have hx2 : ¬ L.2 ≤ L.1 := by omega
            simp [gN, frp, fr, oGe, hx2]
            try omega
          · have hx2 : L.2 ≤ L.1 := by omega
            have hb2 : f__law_burst [eds es, pls ps, .tup [.int L.1, .int L.2], nats c] s = .ok (edO (brst ps c es L)) s := hb
            simp [gN, frp, fr, oGe, hx2, hb2, isn]
            try omega
        · obtain ⟨hf, rfl⟩ := h
          have keys : (kvs.all fun q => q.1.tupQ) = true := by
            obtain ⟨kvs2, q1, q2, _⟩ := (Dq.dk ⟨kvs, gd, gk⟩)
            rw [gd] at q1
            cases q1
            exact q2
          have hl : kvs.length ≤ 256 := by
            have e1 : kvs.length = (kvs.map (·.1)).length := (List.length_map ..).symm
            rw [e1, gk, List.length_map]
            have := List.length_filter_le (fits ps es L) ((ascL ps.length).take i)
            rw [List.length_take] at this
            omega
          have os := oSet_dct (v := .bl true) gd (keyFit_tup keys (tupQ_nats (l := c))) (by omega)
          simp only [sSub_e, WS_bindE]
          simp [gN]
          rw [os, ofS_some, WS_nx, hI]
          have hnew : (dGet kvs (nats c)).isSome = false := by
            rw [dGet_keys, gk, decide_eq_false_iff_not]
            intro q
            obtain ⟨x, hx, ex⟩ := List.mem_map.mp q
            have ex := nats_inj ex
            subst ex
            have h1 := (List.mem_filter.mp hx).1
            obtain ⟨j, hj⟩ := List.getElem?_of_mem h1
            have hj2 : j < ((ascL ps.length).take i).length := (List.getElem?_eq_some_iff.mp hj).1
            rw [List.length_take] at hj2
            rw [List.getElem?_take_of_lt (by omega)] at hj
            have hil := (List.getElem?_eq_some_iff.mp hi)
            have hjl := (List.getElem?_eq_some_iff.mp hj)
            have := (List.getElem_inj (h₀ := hjl.1) (h₁ := hil.1) (ascL_nd _)).mp (hjl.2.trans hil.2.symm)
            omega
          have ep : dPut kvs (nats c) (.bl true) = kvs ++ [(nats c, .bl true)] := by
            unfold dPut
            rw [hnew]
            rfl
          refine ⟨_, rfl, by rw [lstAt_ne (by omega)]; exact g, ⟨_, dctAt_set gd, ?_⟩, G.put (Nat.le_refl _)⟩
          have ef : [c].filter (fits ps es L) = [c] := by rw [List.filter_cons, if_pos hf.symm]; rfl
          rw [ep, List.map_append, gk, et, List.filter_append, ef, List.map_append]
          rfl
        · obtain ⟨hf, rfl⟩ := h
          rw [sNil_e, WS_nx, hI]
          refine ⟨_, rfl, g, ⟨kvs, gd, ?_⟩, G⟩
          rw [gk, et, List.filter_append, List.filter_cons, if_neg (by rw [← hf]; decide), List.filter_nil, List.append_nil]
      · rw [hI] at hp
        obtain ⟨t, rfl, g, hd, G⟩ := hp
        rw [List.take_length] at hd
        exact ⟨t, rfl, hd, G⟩
  obtain ⟨t, rfl, hd, G⟩ := hp
  refine ws_ret ?_
  rw [eVar_e rfl, W_ok]
  exact ⟨_, rfl, Nat.le_refl _, hd, G⟩
end

/-! limits, polls, nearness drawn -/
section
variable {ns : List Int} {ps : List Po} {es : List Ed} {st : Store}
theorem one1500 : FQ 1500 (1 : Int) 1 := fqc (by decide) (by decide) (by decide) (by decide)
theorem w_llimit {Q : D → Store → Prop} (H : DS ns st) (h : PS ps) (n8 : ps.length ≤ 8) (hes : es.length ≤ 100) (hQ : ∀ L s, FQ 1500 L.1 L.2 → DS ns s → Fr st s → Q (frp L) s) : W (f__law_limit [.ref 1, eds es, pls ps] st) Q := by
  unfold f__law_limit
  rw [runB_e]
  unfold m__law_limit
  rw [W_fin]
  refine ws_cons (N' := fun τ s => ∃ w : Nat, τ = [some (.ref 1), some (eds es), some (pls ps), some (.int (w : Nat)), none, none, none, none, none] ∧ DS ns s ∧ Fr st s) ?_ fun τ s hp => ?_
  · refine ws_set ?_
    simp
    refine w_draw (many := 10) H (by decide) (by decide) fun w s hw D F => ?_
    exact ⟨⟨w, rfl⟩, D, F⟩
  obtain ⟨w, rfl, D1, F1⟩ := hp
  by_cases w0 : w = 0
  · subst w0
    refine ws_take (by simp) ?_
    refine ws_ret ?_
    simp
    refine w_draw (many := 6) D1 (by decide) (by decide) fun v s2 hv D2 F2 => ?_
    have z : f__law_f [.int (v : Nat), .int 6] s2 = .ok (rat (v : Nat) 6) s2 := r_f (k := 64) (by decide) (by decide) (by decide)
    rw [z, W_ok]
    exact hQ (rp (v : Nat) 6) s2 (fqr (by decide) (by omega) (by decide)) D2 (F1.trans F2)
  refine ws_skip (by simp; omega) ?_
  by_cases w1 : w = 1 ∨ es = []
  · refine ws_take (by
      rcases w1 with rfl | rfl
      · simp
      · by_cases q : (w : Int) = 1 <;> simp [q, eds]) ?_
    refine ws_ret ?_
    refine W.of (a := frp (1, 1)) (s := s) (by simp [frp, fr]) ?_
    exact hQ (1, 1) s one1500 D1 F1
  have w1' : ¬ (w : Int) = 1 := fun q => w1 (.inl (by omega))
  have e0 : es ≠ [] := fun q => w1 (.inr q)
  refine ws_skip (by simp [w1', eds, e0]) ?_
  refine ws_cons (N' := fun τ s => ∃ (r : Nat) (l : List Nat), τ = [some (.ref 1), some (eds es), some (pls ps), some (.int (w : Nat)), some (.ref r), none, none, none, none] ∧ r ≠ 1 ∧ lstAt s r = some (l.map fun k => D.int (k : Nat)) ∧ (∀ k ∈ l, k < ps.length) ∧ l.length ≤ ps.length ∧ DS ns s ∧ Fr st s) ?_ fun τ s hp => ?_
  · refine ws_setLc (fun q s => q = .fix (rng 0 (ps.length : Nat)) ∧ DS ns s ∧ Fr st s) ?_ ?_ ?_
    · simp [pls]
      rw [rg1_int (by omega)]
      exact ⟨rfl, D1, F1⟩
    · rintro _ _ ⟨rfl, _⟩
      show (rng 0 (ps.length : Nat)).length ≤ _
      rw [rng_len]
      omega
    · rintro _ s1 ⟨rfl, D2, F2⟩
      obtain ⟨I, hI⟩ : ∃ I : Nat → List D → Store → Prop, I = fun i acc s => ∃ l : List Nat, acc = l.map (fun k => D.int (k : Nat)) ∧ (∀ k ∈ l, k < ps.length) ∧ l.length ≤ i ∧ DS ns s ∧ Fr st s := ⟨_, rfl⟩
      refine w_rng (n := ps.length) I (fun _ _ _ _ => rfl) (by rw [hI]; exact ⟨[], rfl, by simp, Nat.le_refl _, D2, F2⟩) (fun i acc s hi hp => ⟨_, rfl, ?_⟩) fun acc s hp => ?_
      · rw [hI] at hp
        obtain ⟨l, rfl, hb, hl, D3, F3⟩ := hp
        simp [wipeD]
        refine w_draw (many := 2) D3 (by decide) (by decide) fun v s4 hv D4 F4 => ?_
        by_cases hv1 : (v : Int) = 1
        · simp [hv1]
          rw [hI]
          refine ⟨l ++ [i], by simp, fun k hk => ?_, by simp; omega, D4, F3.trans F4⟩
          rcases List.mem_append.mp hk with q | q
          · exact hb k q
          · have : k = i := by simpa using q
            omega
        · simp [hv1]
          rw [hI]
          exact ⟨l, rfl, hb, by omega, D4, F3.trans F4⟩
      · rw [hI] at hp
        obtain ⟨l, rfl, hb, hl, D3, F3⟩ := hp
        exact ⟨s.length, l, rfl, by have := D3.len; omega, lstAt_new, hb, hl, D3.app, F3.trans Fr.app⟩
  obtain ⟨r, l, rfl, r1, g, hb, hl, D2, F2⟩ := hp
  refine ws_cons (N' := fun τ s => ∃ e : Ed, τ = [some (.ref 1), some (eds es), some (pls ps), some (.int (w : Nat)), some (.ref r), some (.int (load e ps l).1), some (.int (load e ps l).2), none, none] ∧ DS ns s ∧ Fr st s) ?_ fun τ s hp => ?_
  · rw [sAsg_e, WS_bindE]
    simp [eds]
    refine w_pickT D2 (by rw [List.length_map]; exact List.length_pos_iff.mpr e0) (by rw [List.length_map]; omega) fun v s3 hv D3 F3 => ?_
    obtain ⟨e, _, rfl⟩ := List.mem_map.mp hv
    have g3 := F3.lst g r1
    refine (w_lproducts (e := e) (P := .ref r) (q := .cell r (l.map fun k => D.int (k : Nat))) h hb (by omega) (dSq_ref g3) rfl (decide_eq_true g3)).mono fun d s4 hp => ?_
    obtain ⟨rfl, rfl⟩ := hp
    exact ⟨⟨e, rfl⟩, D3, F2.trans F3⟩
  obtain ⟨e, rfl, D3, F3⟩ := hp
  have hbd := load_bd (e := e) h hb (by omega)
  obtain ⟨A, hA⟩ : ∃ A, A = (load e ps l).1 := ⟨_, rfl⟩
  obtain ⟨B, hB⟩ : ∃ B, B = (load e ps l).2 := ⟨_, rfl⟩
  have z : ∀ s, f__law_f [.int A, .int B] s = .ok (rat A B) s := fun s => r_f (k := 1261) (by rw [hB]; exact Int.ne_of_gt hbd.pos) (by rw [hB]; exact hbd.bn) (by decide)
  have fq : FQ 1261 (rn A B) (rd A B) := by rw [hA, hB]; exact hbd.fq
  rw [← hA, ← hB]
  obtain ⟨m, hm⟩ : ∃ m, m = rp A B := ⟨_, rfl⟩
  have hm2 : rat A B = frp m := by rw [hm]; rfl
  have fq : FQ 1261 m.1 m.2 := by rw [hm]; exact fq
  refine ws_cons (N' := fun τ s' => τ = [some (.ref 1), some (eds es), some (pls ps), some (.int (w : Nat)), some (.ref r), some (.int A), some (.int B), some (frp m), none] ∧ s' = s) ?_ fun τ s' hp => ?_
  · refine ws_set ?_
    refine W.of (a := frp m) (s := s) (by simp [z, hm2]) ⟨rfl, rfl⟩
  obtain ⟨rfl, rfl⟩ := hp
  by_cases w2 : w = 2
  · subst w2
    refine ws_take (by simp) ?_
    refine ws_ret ?_
    simp
    refine w_draw (many := 1000) D3 (by decide) (by decide) fun v s4 hv D4 F4 => ?_
    simp
    obtain ⟨T, hT⟩ : ∃ T : Int, T = 1000 + (v : Int) := ⟨_, rfl⟩
    have fT : FQ 64 1 T := ⟨by omega, by simp, by decide, by omega⟩
    rw [← hT]
    have z3 : f__law_minus [frp m, .tup [.int 1, .int T]] s4 = _ := r_lminus (st := s4) fq fT (by omega)
    rw [z3, W_ok]
    exact hQ (rp (m.1 * T - 1 * m.2) (m.2 * T)) s4 ((q_minus fq fT).up (by decide)) D4 (F3.trans F4)
  refine ws_skip (by simp; omega) ?_
  refine ws_ret ?_
  by_cases w3 : w = 3
  · subst w3
    simp
    refine w_draw (many := 1000) D3 (by decide) (by decide) fun v s4 hv D4 F4 => ?_
    simp
    obtain ⟨T, hT⟩ : ∃ T : Int, T = 1000 + (v : Int) := ⟨_, rfl⟩
    have fT : FQ 64 1 T := ⟨by omega, by simp, by decide, by omega⟩
    rw [← hT]
    have z3 : f__law_plus [frp m, .tup [.int 1, .int T]] s4 = _ := r_lplus (st := s4) fq fT (by omega)
    rw [z3, W_ok]
    exact hQ (rp (m.1 * T + 1 * m.2) (m.2 * T)) s4 ((q_plus fq fT).up (by decide)) D4 (F3.trans F4)
  · have : ¬ (w : Int) = 3 := by omega
    refine W.of (a := frp m) (s := s') (by simp [this]) ?_
    exact hQ m s' (fq.up (by decide)) D3 F3
theorem w_near {n : Nat} {Q : D → Store → Prop} (H : DS ns st) (hn : 0 < n) (h5 : n ≤ 5) (hQ : ∀ es s, es.length ≤ 100 → DS ns s → Fr st s → Q (eds es) s) : W (f__law_near [.ref 1, .int (n : Nat)] st) Q := by
  obtain ⟨es, s, e, hl, D, F⟩ := r_near H hn h5
  exact .of e (hQ es s hl D F)
theorem w_poll {n : Nat} {sty : Int} {Q : D → Store → Prop} (H : DS ns st) (hn : 0 < n) (h5 : n ≤ 5) (h0 : 0 ≤ sty) (hQ : ∀ p s, FQ 140 p.2.1 p.2.2 → p.2.2 ≤ p.2.1 → DS ns s → Fr st s → Q (pd p) s) : W (f__law_poll [.ref 1, .int (n : Nat), .int sty] st) Q := by
  obtain ⟨p, s, e, h1, h2, D, F⟩ := r_poll H hn h5 h0
  exact .of e (hQ p s h1 h2 D F)
end

/-! k71: shared parts -/
section
variable {ps : List Po} {es : List Ed} {L : Int × Int} {st : Store}
theorem gAnyB_map {α : Type} {f : α → Bool} {xs : List α} {st : Store} : gAnyB (xs.map fun a => D.bl (f a)) st = .ok (.bl (xs.any f)) st := by
  have := gAnyB_bls (bs := xs.map f) (st := st)
  rw [List.map_map, List.any_map] at this
  exact this
/-- the law's sets that fit -/
def lfit (ps : List Po) (es : List Ed) (L : Int × Int) : List (List Nat) := (ascL ps.length).filter (fits ps es L)
theorem mem_lfit {l : List Nat} : l ∈ lfit ps es L ↔ Asc ps.length l ∧ fits ps es L l = true := by
  unfold lfit
  rw [List.mem_filter, mem_ascL]
theorem lfit_len (C : Fam ps es L) : (lfit ps es L).length ≤ 256 := by
  have h1 := List.length_filter_le (fits ps es L) (ascL ps.length)
  have h2 : (ascL ps.length).length ≤ 256 := by rw [ascL_len]; exact Nat.pow_le_pow_right (n := 2) (j := 8) (by decide) C.n8
  unfold lfit
  omega
end
theorem PS.app {ps qs : List Po} (h : PS ps) (h2 : PS qs) : PS (ps ++ qs) :=
  ⟨fun p hp => by
    rcases List.mem_append.mp hp with q | q
    · exact h.fq p q
    · exact h2.fq p q, fun p hp => by
    rcases List.mem_append.mp hp with q | q
    · exact h.ge p q
    · exact h2.ge p q⟩
theorem PS.one {p : Po} (h : FQ 140 p.2.1 p.2.2) (h2 : p.2.2 ≤ p.2.1) : PS [p] := ⟨fun q hq => by rw [List.mem_singleton.mp hq]; exact h, fun q hq => by rw [List.mem_singleton.mp hq]; exact h2⟩
theorem PS.sub {ps qs : List Po} (h : PS ps) (s : ∀ p ∈ qs, p ∈ ps) : PS qs := ⟨fun p hp => h.fq p (s p hp), fun p hp => h.ge p (s p hp)⟩
theorem cutT {xs : List D} {k : Nat} {s : Store} : dCut (.tup xs) none (some (k : Int)) s = .ok (.tup (xs.take k)) s ∧ dCut (.tup xs) (some (k : Int)) none s = .ok (.tup (xs.drop k)) s := by
  constructor
  · show ER.ok (D.tup (HM.cutD _ _ _)) s = _
    rw [HM.cutD_to]
  · show ER.ok (D.tup (HM.cutD _ _ _)) s = _
    rw [HM.cutD_from]
section
variable {ns : List Int} {st : Store}
theorem w_polls {τ : Sl} {n N i0 i1 i3 : Nat} {sty : Int} {Q : List D → Store → Prop} (h1 : τ[1]? = some (some (.ref 1))) (h3 : τ[3]? = some (some (.int (n : Nat)))) (h4 : τ[4]? = some (some (.int sty))) (hk : i0 < τ.length) (h5 : 5 ≤ i0) (H : DS ns st) (hn : 0 < n) (hn5 : n ≤ 5) (h0 : 0 ≤ sty)
    (hQ : ∀ ps s, PS ps → ps.length = N → DS ns s → Fr st s → Q (ps.map pd) s) :
    W (compL (.fix (rng 0 (N : Nat))) (gN i0) tYes (eCall 3 f__law_poll (aCons (eVar 1) (aCons (eVar 3) (aCons (eVar 4) aNil)))) τ (rng 0 (N : Nat)) [] st) Q := by
  obtain ⟨I, hI⟩ : ∃ I : Nat → List D → Store → Prop, I = fun i acc s => ∃ ps : List Po, ps.length = i ∧ acc = ps.map pd ∧ PS ps ∧ DS ns s ∧ Fr st s := ⟨_, rfl⟩
  refine w_rng (n := N) I (fun _ _ _ _ => rfl) (by rw [hI]; exact ⟨[], rfl, rfl, ⟨by simp, by simp⟩, H, Fr.refl⟩) (fun i acc s hi hq => ⟨τ.set i0 (some (.int (i : Nat))), by unfold gN; simp [hk], ?_⟩) fun acc s hq => ?_
  · rw [hI] at hq
    obtain ⟨ps, hl, rfl, hp, D1, F1⟩ := hq
    have h1' : (τ.set i0 (some (.int (i : Nat))))[1]? = some (some (.ref 1)) := by rw [List.getElem?_set_ne (by omega)]; exact h1
    have h3' : (τ.set i0 (some (.int (i : Nat))))[3]? = some (some (.int (n : Nat))) := by rw [List.getElem?_set_ne (by omega)]; exact h3
    have h4' : (τ.set i0 (some (.int (i : Nat))))[4]? = some (some (.int sty)) := by rw [List.getElem?_set_ne (by omega)]; exact h4
    simp [eVar_e h1', eVar_e h3', eVar_e h4']
    refine w_poll D1 hn hn5 h0 fun p s2 hq hge D2 F2 => ?_
    rw [hI]
    exact ⟨ps ++ [p], by simp [hl], by simp, hp.app (PS.one hq hge), D2, F1.trans F2⟩
  · rw [hI] at hq
    obtain ⟨ps, hl, rfl, hp, D1, F1⟩ := hq
    exact hQ ps s hp hl D1 F1
theorem w_some {τ : Sl} {i0 : Nat} {es : List Ed} {Q : List D → Store → Prop} (h1 : τ[1]? = some (some (.ref 1))) (hk : i0 < τ.length) (h5 : 5 ≤ i0) (H : DS ns st)
    (hQ : ∀ (es' : List Ed) s, es'.length ≤ es.length → DS ns s → Fr st s → Q (es'.map Ed.d) s) :
    W (compL (.fix (es.map Ed.d)) (gN i0) (tBl (eBin oEq (eCall 2 f__law_draw (aCons (eVar 1) (aCons (eC (.int 2)) aNil))) (eC (.int 1)))) (eVar i0) τ (es.map Ed.d) [] st) Q := by
  obtain ⟨I, hI⟩ : ∃ I : Nat → List D → Store → Prop, I = fun i acc s => ∃ es' : List Ed, es'.length ≤ i ∧ acc = es'.map Ed.d ∧ DS ns s ∧ Fr st s := ⟨_, rfl⟩
  refine w_mapc Ed.d es rfl I (fun _ _ _ _ => rfl) (by rw [hI]; exact ⟨[], Nat.le_refl _, rfl, H, Fr.refl⟩) (fun i e acc s hi hq => ⟨τ.set i0 (some e.d), by unfold gN; simp [hk], ?_⟩) fun acc s hq => ?_
  · rw [hI] at hq
    obtain ⟨es', hl, rfl, D1, F1⟩ := hq
    have h1' : (τ.set i0 (some e.d))[1]? = some (some (.ref 1)) := by rw [List.getElem?_set_ne (by omega)]; exact h1
    have h2' : (τ.set i0 (some e.d))[i0]? = some (some e.d) := by simp [hk]
    simp [eVar_e h1']
    refine w_draw (many := 2) D1 (by decide) (by decide) fun v s2 hv D2 F2 => ?_
    by_cases hv1 : v = 1
    · subst hv1
      simp [eVar_e h2']
      rw [hI]
      exact ⟨es' ++ [e], by simp; omega, by simp, D2, F1.trans F2⟩
    · have : ¬ (v : Int) = 1 := by omega
      simp [hv1, this]
      rw [hI]
      exact ⟨es', by omega, rfl, D2, F1.trans F2⟩
  · rw [hI] at hq
    obtain ⟨es', hl, rfl, D1, F1⟩ := hq
    exact hQ es' s hl D1 F1
end

/-! k71: gains, the best set -/
def gsum (row : List Int) (l : List Nat) : Int := (l.map fun k => row.getD k 0).sum
def better (row : List Int) (part told : List Nat) : Bool := decide (gsum row told < gsum row part) || (decide (gsum row part = gsum row told) && ll part told)
section
variable {st : Store} {row : List Int} {l : List Nat}
theorem ix_row {k : Nat} {s : Store} (hk : k < row.length) : oIx (itup row) (.int (k : Nat)) s = .ok (.int (row.getD k 0)) s := by
  unfold itup
  rw [oIx_tup, atI_nat (v := .int (row.getD k 0)) (by rw [List.getElem?_map, List.getElem?_eq_getElem hk, List.getD_eq_getElem?_getD, List.getElem?_eq_getElem hk]; rfl)]
  rfl
theorem sum_row : gSum (l.map fun k : Nat => D.int (row.getD k 0)) st = .ok (.int (gsum row l)) st := by
  have e : (l.map fun k : Nat => D.int (row.getD k 0)) = (l.map fun k => row.getD k 0).map D.int := by rw [List.map_map]; rfl
  rw [e, gSum_ints]
  rfl
theorem r_gain (h : ∀ k ∈ l, k < row.length) (hl : l.length ≤ 100) : f_gain_of [itup row, nats l] st = .ok (.int (gsum row l)) st := by
  have key : W (f_gain_of [itup row, nats l] st) fun d s => d = .int (gsum row l) ∧ s = st := by
    unfold f_gain_of
    rw [runB_e]
    unfold m_gain_of
    rw [W_fin]
    refine ws_ret ?_
    rw [eCS_e, W_bind, lComp_e, W_bind, iEx_e, W_bind, show ent 3 [itup row, nats l] = [some (itup row), some (nats l), none] from rfl, eVar_e rfl, W_ok, show dSq st (nats l) = some (.fix (l.map fun k => D.int (k : Nat))) from rfl, ofQ_some, W_ok]
    refine w_lc (by show (l.map fun k => D.int (k : Nat)).length ≤ _; rw [List.length_map]; omega) ?_
    refine w_map (fun k : Nat => D.int k) (fun k : Nat => D.int (row.getD k 0)) l rfl rfl (fun k hk => ⟨_, rfl, ?_⟩) ?_
    · refine W.of (a := .int (row.getD k 0)) (s := st) ?_ ⟨rfl, rfl⟩
      rw [eBin_e]
      exact ix_row (h k hk)
    · rw [sum_row, W_ok]
      exact ⟨rfl, rfl⟩
  obtain ⟨d, s, h, rfl, rfl⟩ := key.ex
  exact h
theorem r_lsum (h : ∀ k ∈ l, k < row.length) (hl : l.length ≤ 100) : f__law_sum [nats l, itup row] st = .ok (.int (gsum row l)) st := by
  have key : W (f__law_sum [nats l, itup row] st) fun d s => d = .int (gsum row l) ∧ s = st := by
    unfold f__law_sum
    rw [runB_e]
    unfold m__law_sum
    rw [W_fin]
    refine ws_ret ?_
    rw [eCS_e, W_bind, lComp_e, W_bind, iEx_e, W_bind, show ent 3 [nats l, itup row] = [some (nats l), some (itup row), none] from rfl, eVar_e rfl, W_ok, show dSq st (nats l) = some (.fix (l.map fun k => D.int (k : Nat))) from rfl, ofQ_some, W_ok]
    refine w_lc (by show (l.map fun k => D.int (k : Nat)).length ≤ _; rw [List.length_map]; omega) ?_
    refine w_map (fun k : Nat => D.int k) (fun k : Nat => D.int (row.getD k 0)) l rfl rfl (fun k hk => ⟨_, rfl, ?_⟩) ?_
    · refine W.of (a := .int (row.getD k 0)) (s := st) ?_ ⟨rfl, rfl⟩
      rw [eBin_e]
      exact ix_row (h k hk)
    · rw [sum_row, W_ok]
      exact ⟨rfl, rfl⟩
  obtain ⟨d, s, h, rfl, rfl⟩ := key.ex
  exact h
theorem r_better {a b : List Nat} (ha : ∀ k ∈ a, k < row.length) (la : a.length ≤ 100) (hb : ∀ k ∈ b, k < row.length) (lb : b.length ≤ 100) : f__law_is_better [nats a, nats b, itup row] st = .ok (.bl (better row a b)) st := by
  have s1 := r_lsum (st := st) ha la
  have s2 := r_lsum (st := st) hb lb
  have o := oLt_nats (l := a) (m := b) (st := st)
  unfold better
  obtain ⟨x, hx⟩ : ∃ x, x = gsum row a := ⟨_, rfl⟩
  obtain ⟨y, hy⟩ : ∃ y, y = gsum row b := ⟨_, rfl⟩
  rw [← hx] at s1 ⊢
  rw [← hy] at s2 ⊢
  unfold f__law_is_better
  rw [runB_e]
  unfold m__law_is_better
  by_cases h1 : y < x
  · simp [List.replicate, s1, s2, h1]
  · by_cases h2 : x = y
    · simp [List.replicate, s1, s2, h2, o]
    · simp [List.replicate, s1, s2, h1, h2]
theorem better_irr : better row l l = false := by simp [better, ll_irr]
end
def opD : Option (List Nat) → D
  | none => .non
  | some l => nats l
/-- nothing fits, or this set is the best -/
def Best (ps : List Po) (es : List Ed) (L : Int × Int) (row : List Int) : Option (List Nat) → Prop
  | none => ∀ l, Asc ps.length l → fits ps es L l = false
  | some b => Asc ps.length b ∧ fits ps es L b = true ∧ ∀ l, Asc ps.length l → fits ps es L l = true → better row l b = false
section
variable {ps : List Po} {es : List Ed} {L : Int × Int} {st : Store} {row : List Int}
theorem Best.one {a b : Option (List Nat)} (ha : Best ps es L row a) (hb : Best ps es L row b) : a = b := by
  cases a with
  | none =>
    cases b with
    | none => rfl
    | some b => have := ha b hb.1; rw [hb.2.1] at this; cases this
  | some a =>
    cases b with
    | none => have := hb a ha.1; rw [ha.2.1] at this; cases this
    | some b =>
      congr 1
      have h1 := hb.2.2 a ha.1 ha.2.1
      have h2 := ha.2.2 b hb.1 hb.2.1
      by_cases e : a = b
      · exact e
      · unfold better at h1 h2
        simp only [Bool.or_eq_false_iff, decide_eq_false_iff_not, Bool.and_eq_false_iff] at h1 h2
        have g : gsum row a = gsum row b := by omega
        rcases ll_tot e with q | q
        · rcases h1.2 with p | p
          · exact absurd g p
          · rw [q] at p; cases p
        · rcases h2.2 with p | p
          · exact absurd g.symm p
          · rw [q] at p; cases p
theorem w_best_set (C : Fam ps es L) (hr : row.length = ps.length) : W (f_best_set [eds es, pls ps, frp L, itup row] st) fun d s => ∃ o, d = opD o ∧ Best ps es L row o ∧ Gr st s := by
  unfold f_best_set
  rw [runB_e]
  unfold m_best_set
  rw [W_fin]
  have n8 := C.n8
  refine ws_cons (N' := fun τ s => τ = [some (eds es), some (pls ps), some (frp L), some (itup row), some .non, none] ∧ s = st) ?_ fun τ s hp => ?_
  · refine ws_set ?_
    exact ⟨rfl, rfl⟩
  obtain ⟨rfl, hs⟩ := hp
  rw [hs]
  clear hs s
  refine ws_cons (N' := fun τ s => ∃ o t, τ = [some (eds es), some (pls ps), some (frp L), some (itup row), some (opD o), t] ∧ Best ps es L row o ∧ Gr st s) ?_ fun τ s hp => ?_
  · refine ws_forD (fun q s => ∃ r F, q = .cell r (List.map nats F) ∧ lstAt s r = some (List.map nats F) ∧ FS ps es L F ∧ Gr st s) ?_ ?_
    · simp
      refine (w_fitting_sets C).mono fun d s hp => ?_
      obtain ⟨r, F, rfl, g, fs, G⟩ := hp
      rw [dSq_ref g]
      exact ⟨r, F, rfl, g, fs, G⟩
    · rintro _ s1 ⟨r, F, rfl, g, fs, G⟩
      obtain ⟨I, hI⟩ : ∃ I : Nat → Sl → Store → Prop, I = fun i τ s => ∃ o t, τ = [some (eds es), some (pls ps), some (frp L), some (itup row), some (opD o), t] ∧ (o = none → i = 0) ∧ (∀ b, o = some b → b ∈ F.take i ∧ ∀ c ∈ F.take i, better row c b = false) ∧ s = s1 := ⟨_, rfl⟩
      refine ws_map nats F rfl I (fun k τ s hp => ?_) (by rw [hI]; exact ⟨none, none, rfl, fun _ => rfl, fun b h => (by cases h), rfl⟩) (fun i c τ s hi hp => ?_) fun τ s hp => ?_
      · rw [hI] at hp
        obtain ⟨_, _, _, _, _, hs⟩ := hp
        rw [hs]
        exact decide_eq_true g
      · rw [hI] at hp
        obtain ⟨o, t, rfl, h0, hb, hs⟩ := hp
        rw [hs]
        clear hs s
        refine ⟨_, rfl, ?_⟩
        have hil : i < F.length := (List.getElem?_eq_some_iff.mp hi).1
        have hcF := List.mem_of_getElem? hi
        have hca := ((fs.mem c).mp hcF).1
        have et : F.take (i + 1) = F.take i ++ [c] := by rw [List.take_add_one, hi]; rfl
        cases o with
        | none =>
          have := h0 rfl
          subst this
          refine ws_ifd (fun b s => b = true ∧ s = s1) ?_ (fun s2 h => ?_) (fun s2 h => absurd h.1 (by decide))
          · refine W.of (a := true) (s := s1) ?_ ⟨rfl, rfl⟩
            simp [opD, gN]
          · rw [h.2]
            refine ws_set ?_
            refine W.of (a := nats c) (s := s1) rfl ?_
            rw [hI]
            refine ⟨some c, _, rfl, fun e => (by cases e), fun b e => ?_, rfl⟩
            cases e
            rw [et]
            refine ⟨by simp, fun x hx => ?_⟩
            have : x = c := by simpa using hx
            rw [this]
            exact better_irr
        | some b =>
          obtain ⟨hbm, hbb⟩ := hb b rfl
          have hbF := List.mem_of_mem_take hbm
          have hba := ((fs.mem b).mp hbF).1
          have g1 := r_gain (row := row) (l := c) (st := s1) (fun k hk => by have := hca.lt k hk; omega) (by have := hca.len; omega)
          have g2 := r_gain (row := row) (l := b) (st := s1) (fun k hk => by have := hba.lt k hk; omega) (by have := hba.len; omega)
          have hlt : ll b c = true := by
            obtain ⟨j, hj⟩ := List.getElem?_of_mem hbm
            have hjl : j < (F.take i).length := (List.getElem?_eq_some_iff.mp hj).1
            have hji : j < i := by rw [List.length_take] at hjl; omega
            rw [List.getElem?_take_of_lt hji] at hj
            have h1 := (List.getElem?_eq_some_iff.mp hj).2
            have h2 := (List.getElem?_eq_some_iff.mp hi).2
            have := List.pairwise_iff_getElem.mp fs.pw j i (by omega) hil hji
            rwa [h1, h2] at this
          obtain ⟨x, hx⟩ : ∃ x, x = gsum row c := ⟨_, rfl⟩
          obtain ⟨y, hy⟩ : ∃ y, y = gsum row b := ⟨_, rfl⟩
          refine ws_ifd (fun b s => b = decide (y < x) ∧ s = s1) ?_ (fun s2 h => ?_) (fun s2 h => ?_)
          · refine W.of (a := decide (y < x)) (s := s1) ?_ ⟨rfl, rfl⟩
            have o1 : oIs (nats b) .non s1 = .ok (.bl false) s1 := rfl
            simp [opD, gN, o1, g1, g2, ← hx, ← hy]
          · rw [h.2]
            have hxy : y < x := of_decide_eq_true h.1.symm
            refine ws_set ?_
            refine W.of (a := nats c) (s := s1) rfl ?_
            rw [hI]
            refine ⟨some c, _, rfl, fun e => (by cases e), fun b' e => ?_, rfl⟩
            cases e
            rw [et]
            refine ⟨by simp, fun z hz => ?_⟩
            rcases List.mem_append.mp hz with q | q
            · have := hbb z q
              unfold better at this ⊢
              simp only [Bool.or_eq_false_iff, decide_eq_false_iff_not, Bool.and_eq_false_iff] at this ⊢
              exact ⟨by omega, .inl (by omega)⟩
            · have : z = c := by simpa using q
              rw [this]
              exact better_irr
          · rw [sNil_e, WS_nx, h.2]
            have hxy : ¬ y < x := of_decide_eq_false h.1.symm
            rw [hI]
            refine ⟨some b, _, rfl, fun e => (by cases e), fun b' e => ?_, rfl⟩
            cases e
            rw [et]
            refine ⟨List.mem_append_left _ hbm, fun z hz => ?_⟩
            rcases List.mem_append.mp hz with q | q
            · exact hbb z q
            · have : z = c := by simpa using q
              rw [this]
              unfold better
              simp only [Bool.or_eq_false_iff, decide_eq_false_iff_not, Bool.and_eq_false_iff]
              refine ⟨by omega, .inr ?_⟩
              cases h2 : ll c b with
              | false => rfl
              | true =>
                have := ll_tr hlt h2
                rw [ll_irr] at this
                cases this
      · rw [hI] at hp
        obtain ⟨o, t, rfl, h0, hb, hs⟩ := hp
        refine ⟨o, t, rfl, ?_, hs ▸ G⟩
        rw [List.take_length] at hb
        cases o with
        | none =>
          have h0 := h0 rfl
          have : F = [] := List.eq_nil_of_length_eq_zero h0
          intro l hl
          cases hf : fits ps es L l with
          | false => rfl
          | true =>
            have := (fs.mem l).mpr ⟨hl, hf⟩
            rw [‹F = []›] at this
            cases this
        | some b =>
          obtain ⟨h1, h2⟩ := hb b rfl
          obtain ⟨h3, h4⟩ := (fs.mem b).mp h1
          exact ⟨h3, h4, fun l hl hf => h2 l ((fs.mem l).mpr ⟨hl, hf⟩)⟩
  obtain ⟨o, t, rfl, hb, G⟩ := hp
  refine ws_ret ?_
  refine W.of (a := opD o) (s := s) rfl ?_
  exact ⟨o, rfl, hb, G⟩
end

/-! k71: the law's judges -/
section
variable {ps : List Po} {es : List Ed} {L : Int × Int} {st : Store} {row : List Int} {m : Nat}
theorem Best.pos {b : List Nat} (h : Best ps es L row (some b)) : ltP L (1, 1) = false := by
  have := h.2.1
  unfold fits at this
  cases h0 : ltP L (1, 1) with
  | false => rfl
  | true => rw [h0] at this; cases this
theorem w_is_best {o : Option (List Nat)} (C : Fam ps es L) (hr : row.length = ps.length) (hd : Dq st m (lfit ps es L)) (hb : Best ps es L row o) : W (f__law_is_best [opD o, frp L, itup row, .ref m] st) fun d s => d = .bl true ∧ Gr st s := by
  unfold f__law_is_best
  rw [runB_e]
  unfold m__law_is_best
  rw [W_fin]
  have n8 := C.n8
  cases h0 : ltP L (1, 1) with
  | true =>
    have ho : o = none := by
      cases o with
      | none => rfl
      | some b => have := hb.pos; rw [h0] at this; cases this
    subst ho
    have h1 : L.1 < L.2 := by
      unfold ltP at h0
      simpa using h0
    refine ws_take (by simp [frp, fr, h1]) ?_
    refine ws_ret ?_
    refine W.of (a := .bl true) (s := st) (by simp [opD]) ⟨rfl, Gr.refl⟩
  | false =>
    have h1 : ¬ L.1 < L.2 := by
      unfold ltP at h0
      simpa using h0
    have hn : fits ps es L [] = true := by rw [fits_nil, h0]; rfl
    obtain ⟨b, rfl⟩ : ∃ b, o = some b := by
      cases o with
      | none => have := hb [] Asc.nil; rw [hn] at this; cases this
      | some b => exact ⟨b, rfl⟩
    obtain ⟨ba, bf, bb⟩ := hb
    have bl := ba.len
    refine ws_skip (by simp [frp, fr, h1]) ?_
    refine ws_cons (N' := fun τ s => τ = [some (nats b), some (frp L), some (itup row), some (.ref m), none] ∧ s = st) ?_ fun τ s hp => ?_
    · refine ws_ifd (fun b s => b = false ∧ s = st) ?_ (fun s1 h => absurd h.1 (by decide)) (fun s1 h => ⟨rfl, h.2⟩)
      have z := r_is_nats (a := b) (st := st) (by omega)
      have i := hd.dk.in_ (l := b)
      have bm : b ∈ lfit ps es L := mem_lfit.mpr ⟨ba, bf⟩
      refine W.of (a := false) (s := st) (by simp [opD, List.replicate, z, i, bm]) ⟨rfl, rfl⟩
    obtain ⟨rfl, hs⟩ := hp
    rw [hs]
    clear hs s
    refine ws_ret ?_
    have lf := lfit_len C
    rw [eNot_e, W_bind, eCS_e, W_bind, lComp_e, W_bind, iEx_e, W_bind]
    refine W.of (a := .ref st.length) (s := st ++ [.lst (List.map nats (sortL (lfit ps es L)))]) (by simp [hd.sorted]) ?_
    rw [dSq_ref lstAt_new, ofQ_some, W_ok]
    refine w_lc (by show (List.map nats (sortL (lfit ps es L))).length ≤ _; rw [List.length_map, sortL_len]; omega) ?_
    refine w_map nats (fun _ => D.bl false) (sortL (lfit ps es L)) rfl (decide_eq_true lstAt_new) (fun c hc => ⟨_, rfl, ?_⟩) ?_
    · obtain ⟨c1, c2⟩ := mem_lfit.mp (mem_sortL.mp hc)
      have cl := c1.len
      refine W.of (a := .bl false) (s := _) ?_ ⟨rfl, rfl⟩
      have z := r_better (row := row) (a := c) (b := b) (st := st ++ [.lst (List.map nats (sortL (lfit ps es L)))]) (fun k hk => by have := c1.lt k hk; omega) (by omega) (fun k hk => by have := ba.lt k hk; omega) (by omega)
      rw [bb c c1 c2] at z
      simp [gN, wipeD, z]
    · have := gAnyB_map (f := fun _ : List Nat => false) (xs := sortL (lfit ps es L)) (st := st ++ [.lst (List.map nats (sortL (lfit ps es L)))])
      rw [this, W_ok]
      refine W.of (a := .bl true) (s := st ++ [.lst (List.map nats (sortL (lfit ps es L)))]) (by simp) ⟨rfl, Gr.app⟩
theorem w_is_shown {o : Option (List Nat)} (C : Fam ps es L) (hr : row.length = ps.length) (hb : Best ps es L row o) : W (f__law_is_shown [opD o, eds es, pls ps, frp L, itup row] st) fun d s => d = .bl true ∧ Gr st s := by
  unfold f__law_is_shown
  rw [runB_e]
  unfold m__law_is_shown
  rw [W_fin]
  have n8 := C.n8
  cases o with
  | none =>
    refine ws_take (by simp [opD]) ?_
    refine ws_ret ?_
    rw [eC_e, W_ok]
    exact ⟨rfl, Gr.refl⟩
  | some b =>
    have h0 := hb.pos
    obtain ⟨ba, bf, bb⟩ := hb
    have blen := ba.len
    have o1 : ∀ s, oIs (nats b) .non s = .ok (.bl false) s := fun s => rfl
    refine ws_skip (by simp [opD, o1]) ?_
    have e0 : ent 10 [opD (some b), eds es, pls ps, frp L, itup row] = [some (nats b), some (eds es), some (pls ps), some (frp L), some (itup row), none, none, none, none, none] := rfl
    rw [e0]
    refine ws_cons (N' := fun τ s => ∃ (F A : List (List Nat)), FS ps es L F ∧ A.Pairwise (fun a b => ll a b = true) ∧ (∀ l, l ∈ A ↔ Asc ps.length l) ∧ τ = [some (nats b), some (eds es), some (pls ps), some (frp L), some (itup row), some (.tup (List.map (bD ps es L) (A.filter (isB F)))), none, none, none, none] ∧ Gr st s) ?_ fun τ s hp => ?_
    · refine ws_set ?_
      refine W.opq fun Q hQ => ?_
      simp
      refine (w_bars C h0).mono fun d s hp => ?_
      obtain ⟨F, A, fs, pw, mem, rfl, G⟩ := hp
      exact hQ _ _ ⟨F, A, fs, pw, mem, rfl, G⟩
    obtain ⟨F, A, fs, pw, mem, rfl, G⟩ := hp
    obtain ⟨B, hB⟩ : ∃ B, B = A.filter (isB F) := ⟨_, rfl⟩
    have al : A.length ≤ 256 := by
      have := nd_le (m := ascL ps.length) (nd_of_ll pw) fun l hl => mem_ascL.mpr ((mem l).mp hl)
      rw [ascL_len] at this
      exact Nat.le_trans this (Nat.pow_le_pow_right (n := 2) (j := 8) (by decide) n8)
    have bl : B.length ≤ 256 := by rw [hB]; have := List.length_filter_le (isB F) A; omega
    have bm : ∀ c, c ∈ B ↔ Asc ps.length c ∧ isB F c = true := fun c => by rw [hB, List.mem_filter, mem]
    rw [← hB]
    obtain ⟨X, hX⟩ : ∃ X, X = D.tup (List.map (bD ps es L) B) := ⟨_, rfl⟩
    have dsX : ∀ s, dSq s X = some (.fix (List.map (bD ps es L) B)) := fun s => by rw [hX]; rfl
    have b0 : ∀ c s, oIx (bD ps es L c) (.int 0) s = .ok (nats c) s := fun c s => by simp [bD]
    rw [← hX]
    have rows : f__law_is_rows [X, .int 2] s = .ok (.bl true) s := by
      have key : W (f__law_is_rows [X, .int 2] s) fun d s' => d = .bl true ∧ s' = s := by
        unfold f__law_is_rows
        rw [runB_e]
        unfold m__law_is_rows
        rw [W_fin]
        have e1 : fIsi [X, .ty "tuple"] s = .ok (.bl true) s := by rw [hX]; simp
        refine ws_skip (by simp [List.replicate, e1]) ?_
        refine ws_ret ?_
        rw [eCS_e, W_bind, lComp_e, W_bind, iEx_e, W_bind]
        refine W.of (a := X) (s := s) rfl ?_
        rw [dsX, ofQ_some, W_ok]
        refine w_lc (by show (List.map (bD ps es L) B).length ≤ _; rw [List.length_map]; omega) ?_
        refine w_map (bD ps es L) (fun _ => D.bl true) B rfl rfl (fun c hc => ⟨_, rfl, ?_⟩) ?_
        · refine W.of (a := .bl true) (s := s) ?_ ⟨rfl, rfl⟩
          simp [wipeD, List.replicate, bD]
        · have := gAllB_map (f := fun _ : List Nat => true) (xs := B) (st := s)
          rw [this, W_ok]
          simp
      obtain ⟨d, s, h, rfl, rfl⟩ := key.ex
      exact h
    refine ws_cons (N' := fun τ s' => τ = [some (nats b), some (eds es), some (pls ps), some (frp L), some (itup row), some X, none, none, none, none] ∧ s' = s) ?_ fun τ s' hp => ?_
    · refine ws_ifd (fun b s' => b = false ∧ s' = s) ?_ (fun s1 h => absurd h.1 (by decide)) (fun s1 h => ⟨rfl, h.2⟩)
      rw [tOr_e, W_bind]
      refine W.of (a := false) (s := s) (by simp [rows]) ?_
      rw [if_neg (by decide), tNot_e, tVal_e, W_bind, W_bind, eCS_e, W_bind, lComp_e, W_bind, iEx_e, W_bind]
      refine W.of (a := X) (s := s) rfl ?_
      rw [dsX, ofQ_some, W_ok]
      refine w_lc (by show (List.map (bD ps es L) B).length ≤ _; rw [List.length_map]; omega) ?_
      refine w_map (bD ps es L) (fun _ => D.bl true) B rfl rfl (fun c hc => ⟨_, rfl, ?_⟩) ?_
      · have := ((bm c).mp hc).1.len
        refine W.of (a := .bl true) (s := s) ?_ ⟨rfl, rfl⟩
        have z := r_is_nats (a := c) (st := s) (by omega)
        simp [gN, wipeD, b0, z]
      · have := gAllB_map (f := fun _ : List Nat => true) (xs := B) (st := s)
        rw [this, W_ok]
        simp
    obtain ⟨rfl, hs⟩ := hp
    rw [hs]
    clear hs s'
    refine ws_cons (N' := fun τ s => ∃ t, τ = [some (nats b), some (eds es), some (pls ps), some (frp L), some (itup row), some X, t, none, none, none] ∧ Gr st s) ?_ fun τ s' hp => ?_
    · refine ws_forD (fun q s' => ∃ r, q = .cell r (List.map nats (ascL ps.length)) ∧ lstAt s' r = some (List.map nats (ascL ps.length)) ∧ Gr s s') ?_ ?_
      · simp [pls]
        refine (w_lsets n8).mono fun d s' hp => ?_
        obtain ⟨r, rfl, hr, g, G1⟩ := hp
        rw [dSq_ref g]
        exact ⟨r, rfl, g, G1⟩
      · rintro _ s1 ⟨r, rfl, g, G1⟩
        obtain ⟨I, hI⟩ : ∃ I : Nat → Sl → Store → Prop, I = fun i τ s => ∃ t, τ = [some (nats b), some (eds es), some (pls ps), some (frp L), some (itup row), some X, t, none, none, none] ∧ s = s1 := ⟨_, rfl⟩
        refine ws_map nats (ascL ps.length) rfl I (fun k τ s hp => ?_) (by rw [hI]; exact ⟨_, rfl, rfl⟩) (fun i c τ s' hi hp => ?_) fun τ s' hp => ?_
        · rw [hI] at hp
          obtain ⟨_, _, hs⟩ := hp
          rw [hs]
          exact decide_eq_true g
        · rw [hI] at hp
          obtain ⟨t, rfl, hs⟩ := hp
          rw [hs]
          clear hs s'
          refine ⟨_, rfl, ?_⟩
          have ca := mem_ascL.mp (List.mem_of_getElem? hi)
          have cl := ca.len
          have z := r_better (row := row) (a := c) (b := b) (st := s1) (fun k hk => by have := ca.lt k hk; omega) (by omega) (fun k hk => by have := ba.lt k hk; omega) (by omega)
          refine ws_ifd (fun b s' => b = false ∧ s' = s1) ?_ (fun s1 h => absurd h.1 (by decide)) (fun s1 h => by rw [sNil_e, WS_nx, hI]; exact ⟨_, rfl, h.2⟩)
          cases hbt : better row c b with
          | false =>
            rw [hbt] at z
            refine W.of (a := false) (s := s1) (by simp [gN, z]) ⟨rfl, rfl⟩
          | true =>
            rw [hbt] at z
            have hcF : c ∉ F := fun q => by
              have := (fs.mem c).mp q
              rw [bb c ca this.2] at hbt
              cases hbt
            obtain ⟨t, ta, tb, sub⟩ := has_bar C ps.length c ca hcF cl
            have any : (B.any fun t => t.all fun k => decide (k ∈ c)) = true := by
              rw [List.any_eq_true]
              exact ⟨t, (bm t).mpr ⟨ta, tb⟩, by rw [List.all_eq_true]; exact fun x hx => decide_eq_true (sub x hx)⟩
            rw [tAnd_e, W_bind]
            refine W.of (a := true) (s := s1) (by simp [gN, z]) ?_
            rw [if_pos rfl, tNot_e, tVal_e, W_bind, W_bind, eCS_e, W_bind, lComp_e, W_bind, iEx_e, W_bind]
            refine W.of (a := X) (s := s1) rfl ?_
            rw [dsX, ofQ_some, W_ok]
            refine w_lc (by show (List.map (bD ps es L) B).length ≤ _; rw [List.length_map]; omega) ?_
            refine w_map (bD ps es L) (fun t => D.bl (t.all fun k => decide (k ∈ c))) B rfl rfl (fun t ht => ⟨_, rfl, ?_⟩) ?_
            · have := ((bm t).mp ht).1.len
              refine W.of (a := .bl (t.all fun k => decide (k ∈ c))) (s := s1) ?_ ⟨rfl, rfl⟩
              have z := r_lies (a := t) (b := c) (st := s1) (by omega)
              simp [gN, wipeD, b0, z]
            · rw [gAnyB_map, any, W_ok]
              simp
        · rw [hI] at hp
          obtain ⟨t, rfl, hs⟩ := hp
          rw [hs]
          exact ⟨_, rfl, G.trans G1⟩
    clear G rows
    obtain ⟨t, rfl, G⟩ := hp
    refine ws_cons (N' := fun τ s => ∃ F, FS ps es L F ∧ τ = [some (nats b), some (eds es), some (pls ps), some (frp L), some (itup row), some X, t, some (.tup (List.map nats (F.filter (isG F ps.length)))), none, none] ∧ Gr st s) ?_ fun τ s hp => ?_
    · refine ws_set ?_
      refine W.opq fun Q hQ => ?_
      simp
      refine (w_greatest_sets C).mono fun d s hp => ?_
      obtain ⟨F, fs, rfl, G2⟩ := hp
      exact hQ _ _ ⟨F, fs, rfl, G.trans G2⟩
    clear fs pw mem hB bm hX dsX G
    obtain ⟨F', fs, rfl, G⟩ := hp
    have fl := fs.len C
    obtain ⟨T, hT⟩ : ∃ T, T = F'.filter (isG F' ps.length) := ⟨_, rfl⟩
    have tl : T.length ≤ 256 := by rw [hT]; have := List.length_filter_le (isG F' ps.length) F'; omega
    have tm : ∀ c, c ∈ T ↔ c ∈ F' ∧ isG F' ps.length c = true := fun c => by rw [hT, List.mem_filter]
    rw [← hT]
    obtain ⟨Y, hY⟩ : ∃ Y, Y = D.tup (List.map nats T) := ⟨_, rfl⟩
    have dsY : ∀ s, dSq s Y = some (.fix (List.map nats T)) := fun s => by rw [hY]; rfl
    rw [← hY]
    refine ws_cons (N' := fun τ s' => τ = [some (nats b), some (eds es), some (pls ps), some (frp L), some (itup row), some X, t, some Y, none, none] ∧ s' = s) ?_ fun τ s' hp => ?_
    · refine ws_ifd (fun b s' => b = false ∧ s' = s) ?_ (fun s1 h => absurd h.1 (by decide)) (fun s1 h => ⟨rfl, h.2⟩)
      have e1 : fIsi [Y, .ty "tuple"] s = .ok (.bl true) s := by rw [hY]; simp
      rw [tOr_e, W_bind]
      refine W.of (a := false) (s := s) (by simp [e1]) ?_
      rw [if_neg (by decide), tNot_e, tVal_e, W_bind, W_bind, eCS_e, W_bind, lComp_e, W_bind, iEx_e, W_bind]
      refine W.of (a := Y) (s := s) rfl ?_
      rw [dsY, ofQ_some, W_ok]
      refine w_lc (by show (List.map nats T).length ≤ _; rw [List.length_map]; omega) ?_
      refine w_map nats (fun _ => D.bl true) T rfl rfl (fun c hc => ⟨_, rfl, ?_⟩) ?_
      · have := (((fs.mem c).mp ((tm c).mp hc).1).1).len
        refine W.of (a := .bl true) (s := s) ?_ ⟨rfl, rfl⟩
        have z := r_is_nats (a := c) (st := s) (by omega)
        simp [gN, wipeD, z]
      · have := gAllB_map (f := fun _ : List Nat => true) (xs := T) (st := s)
        rw [this, W_ok]
        simp
    obtain ⟨rfl, hs⟩ := hp
    rw [hs]
    clear hs s'
    refine ws_ret ?_
    obtain ⟨u, hu, gu, sub⟩ := in_greatest C fs ps.length b ((fs.mem b).mpr ⟨ba, bf⟩) (by omega)
    have any : (T.any fun t => b.all fun k => decide (k ∈ t)) = true := by
      rw [List.any_eq_true]
      exact ⟨u, (tm u).mpr ⟨hu, gu⟩, by rw [List.all_eq_true]; exact fun x hx => decide_eq_true (sub x hx)⟩
    rw [eCS_e, W_bind, lComp_e, W_bind, iEx_e, W_bind]
    refine W.of (a := Y) (s := s) rfl ?_
    rw [dsY, ofQ_some, W_ok]
    refine w_lc (by show (List.map nats T).length ≤ _; rw [List.length_map]; omega) ?_
    refine w_map nats (fun t => D.bl (b.all fun k => decide (k ∈ t))) T rfl rfl (fun c hc => ⟨_, rfl, ?_⟩) ?_
    · refine W.of (a := .bl (b.all fun k => decide (k ∈ c))) (s := s) ?_ ⟨rfl, rfl⟩
      have z := r_lies (a := b) (b := c) (st := s) (by omega)
      simp [gN, wipeD, z]
    · rw [gAnyB_map, any, W_ok]
      exact ⟨rfl, G⟩
end

/-! k71: the rows of gains -/
section
variable {ns : List Int} {st : Store}
theorem itup_map {row : List Int} : itup row = .tup (row.map D.int) := rfl
theorem w_prizes {N : Nat} {Q : D → Store → Prop} (H : DS ns st) (hN : N ≤ 100) (hQ : ∀ row s, row.length = N → DS ns s → Fr st s → Q (itup row) s) : W (f__law_prizes [.ref 1, .int (N : Nat)] st) Q := by
  unfold f__law_prizes
  rw [runB_e]
  unfold m__law_prizes
  rw [W_fin]
  have e0 : ent 5 [D.ref 1, .int (N : Nat)] = [some (.ref 1), some (.int (N : Nat)), none, none, none] := rfl
  rw [e0]
  have lr : (rng 0 (N : Nat)).length ≤ 16777216 := by rw [rng_len]; omega
  refine ws_cons (N' := fun τ s => ∃ y : Nat, τ = [some (.ref 1), some (.int (N : Nat)), some (.int (y : Nat)), none, none] ∧ y < 6 ∧ DS ns s ∧ Fr st s) ?_ fun τ s hp => ?_
  · refine ws_set ?_
    refine W.opq fun Q hQ => ?_
    simp
    refine w_draw (many := 6) H (by decide) (by decide) fun v s hv D F => ?_
    exact hQ _ _ ⟨v, rfl, by omega, D, F⟩
  obtain ⟨y, rfl, hy, D1, F1⟩ := hp
  by_cases y0 : y = 0
  · subst y0
    refine ws_take (by simp) ?_
    refine ws_ret ?_
    rw [eCS_e, W_bind, lComp_e, W_bind, iRg1_e, W_bind, eVar_e rfl, W_ok, rg1_int (by omega), W_ok]
    refine w_lc lr ?_
    refine w_map (fun k : Nat => D.int k) (fun _ : Nat => D.int 0) (List.range N) (rng_eq _) rfl (fun k hk => ⟨_, rfl, ?_⟩) ?_
    · exact ⟨rfl, rfl⟩
    · rw [gTuple_e, W_ok]
      have := hQ ((List.range N).map fun _ => (0 : Int)) s (by simp) D1 F1
      rw [itup_map, List.map_map] at this
      exact this
  refine ws_skip (by simp; omega) ?_
  by_cases y1 : y = 1
  · subst y1
    refine ws_take (by simp) ?_
    refine ws_cons (N' := fun τ s => ∃ v : Nat, τ = [some (.ref 1), some (.int (N : Nat)), some (.int (1 : Nat)), some (.int (v : Nat)), none] ∧ DS ns s ∧ Fr st s) ?_ fun τ s hp => ?_
    · refine ws_set ?_
      refine W.opq fun Q hQ => ?_
      simp
      refine w_draw (many := 1001) D1 (by decide) (by decide) fun v s hv D F => ?_
      exact hQ _ _ ⟨v, rfl, D, F1.trans F⟩
    obtain ⟨v, rfl, D2, F2⟩ := hp
    refine ws_ret ?_
    rw [eCS_e, W_bind, lComp_e, W_bind, iRg1_e, W_bind, eVar_e rfl, W_ok, rg1_int (by omega), W_ok]
    refine w_lc lr ?_
    refine w_map (fun k : Nat => D.int k) (fun _ : Nat => D.int (v : Nat)) (List.range N) (rng_eq _) rfl (fun k hk => ⟨_, rfl, ?_⟩) ?_
    · exact ⟨rfl, rfl⟩
    · rw [gTuple_e, W_ok]
      have := hQ ((List.range N).map fun _ => ((v : Nat) : Int)) s (by simp) D2 F2
      rw [itup_map, List.map_map] at this
      exact this
  refine ws_skip (by simp; omega) ?_
  have gen : ∀ (fe : Sl → Store → ER D) (many : Nat), 0 < many → many < 2000 → (∀ k : Nat, ∀ s', fe [some (.ref 1), some (.int (N : Nat)), some (.int (y : Nat)), none, some (.int (k : Nat))] s' = f__law_draw [.ref 1, .int (many : Nat)] s') →
      W (compL (.fix (rng 0 (N : Nat))) (gN 4) tYes fe [some (.ref 1), some (.int (N : Nat)), some (.int (y : Nat)), none, none] (rng 0 (N : Nat)) [] s) fun xs s' => ∃ row : List Int, xs = row.map D.int ∧ row.length = N ∧ DS ns s' ∧ Fr st s' := by
    intro fe many m0 m1 he
    obtain ⟨I, hI⟩ : ∃ I : Nat → List D → Store → Prop, I = fun i acc s => ∃ row : List Int, row.length = i ∧ acc = row.map D.int ∧ DS ns s ∧ Fr st s := ⟨_, rfl⟩
    refine w_rng (n := N) I (fun _ _ _ _ => rfl) (by rw [hI]; exact ⟨[], rfl, rfl, D1, F1⟩) (fun i acc s hi hq => ⟨_, rfl, ?_⟩) fun acc s hq => ?_
    · rw [hI] at hq
      obtain ⟨row, hl, rfl, D2, F2⟩ := hq
      refine W.of (a := true) (s := s) rfl ?_
      rw [if_pos rfl]
      show W (fe [some (.ref 1), some (.int (N : Nat)), some (.int (y : Nat)), none, some (.int (i : Nat))] s) _
      rw [he i s]
      refine w_draw (many := many) D2 m0 (by omega) fun v s2 hv D3 F3 => ?_
      rw [hI]
      exact ⟨row ++ [(v : Int)], by simp [hl], by simp, D3, F2.trans F3⟩
    · rw [hI] at hq
      obtain ⟨row, hl, rfl, D2, F2⟩ := hq
      exact ⟨row, rfl, hl, D2, F2⟩
  by_cases y2 : y = 2
  · subst y2
    refine ws_take (by simp) ?_
    refine ws_ret ?_
    rw [eCS_e, W_bind, lComp_e, W_bind, iRg1_e, W_bind, eVar_e rfl, W_ok, rg1_int (by omega), W_ok]
    refine w_lc lr ?_
    refine (gen _ 1001 (by decide) (by decide) (fun k s' => by simp)).mono fun xs s' hp => ?_
    obtain ⟨row, rfl, hl, D2, F2⟩ := hp
    rw [gTuple_e, W_ok]
    exact hQ row s' hl D2 F2
  refine ws_skip (by simp; omega) ?_
  refine ws_ret ?_
  rw [eCS_e, W_bind, lComp_e, W_bind, iRg1_e, W_bind, eVar_e rfl, W_ok, rg1_int (by omega), W_ok]
  refine w_lc lr ?_
  refine (gen _ (2 + y) (by omega) (by omega) (fun k s' => by simp)).mono fun xs s' hp => ?_
  obtain ⟨row, rfl, hl, D2, F2⟩ := hp
  rw [gTuple_e, W_ok]
  exact hQ row s' hl D2 F2
theorem itup_app {a b : List Int} {s : Store} (h : a.length + b.length ≤ 1000) : oAdd (itup a) (itup b) s = .ok (itup (a ++ b)) s := by
  unfold itup
  rw [oAdd_tup, if_pos (by simp; omega), List.map_append]
theorem w_changed {row : List Int} {Q : D → Store → Prop} (H : DS ns st) (hN : row.length ≤ 100) (hQ : ∀ row' s, row'.length = row.length → DS ns s → Fr st s → Q (itup row') s) : W (f__law_changed [.ref 1, itup row] st) Q := by
  unfold f__law_changed
  rw [runB_e]
  unfold m__law_changed
  rw [W_fin]
  have e0 : ent 3 [D.ref 1, itup row] = [some (.ref 1), some (itup row), none] := rfl
  rw [e0]
  have lp : ∀ s, fLen [itup row] s = .ok (.int (row.length : Nat)) s := fun s => by simp [itup]
  by_cases h0 : row.length = 0
  · refine ws_take (by simp [lp, h0]) ?_
    refine ws_ret ?_
    refine W.of (a := itup row) (s := st) rfl ?_
    exact hQ row st rfl H Fr.refl
  have hne : row ≠ [] := fun e => h0 (by rw [e]; rfl)
  refine ws_skip (by simp [lp, hne]) ?_
  refine ws_cons (N' := fun τ s => ∃ k : Nat, k < row.length ∧ τ = [some (.ref 1), some (itup row), some (.int (k : Nat))] ∧ DS ns s ∧ Fr st s) ?_ fun τ s hp => ?_
  · refine ws_set ?_
    refine W.opq fun Q hQ => ?_
    simp [lp]
    refine w_draw (many := row.length) H (by omega) (by omega) fun k s hk D F => ?_
    exact hQ _ _ ⟨k, hk, rfl, D, F⟩
  obtain ⟨k, hk, rfl, D1, F1⟩ := hp
  refine ws_ret ?_
  have e4 : (k : Int) + 1 = ((k + 1 : Nat) : Int) := by omega
  have c1 : ∀ s, dCut (itup row) none (some (k : Int)) s = .ok (itup (row.take k)) s := fun s => by
    unfold itup
    rw [cutT.1, ← List.map_take]
  have c2 : ∀ s, dCut (itup row) (some (((k + 1 : Nat) : Int))) none s = .ok (itup (row.drop (k + 1))) s := fun s => by
    unfold itup
    rw [cutT.2, ← List.map_drop]
  obtain ⟨z, hz⟩ : ∃ z : Int, z = Builtin.bitAnd (row.getD k 0 + 1) 511 := ⟨_, rfl⟩
  have ix : ∀ s, oIx (itup row) (.int (k : Nat)) s = .ok (.int (row.getD k 0)) s := fun s => ix_row hk
  obtain ⟨w, hw⟩ : ∃ w : Int, w = row.getD k 0 := ⟨_, rfl⟩
  rw [← hw] at ix hz
  have an : ∀ s, oAnd (.int (w + 1)) (.int 511) s = .ok (.int z) s := fun s => by rw [hz]; rfl
  obtain ⟨τ, hτ⟩ : ∃ τ : Sl, τ = [some (.ref 1), some (itup row), some (.int (k : Nat))] := ⟨_, rfl⟩
  have v0 : ∀ s, eVar 0 τ s = .ok (.ref 1) s := fun s => by rw [hτ]; rfl
  have v1 : ∀ s, eVar 1 τ s = .ok (itup row) s := fun s => by rw [hτ]; rfl
  have v2 : ∀ s, eVar 2 τ s = .ok (.int (k : Nat)) s := fun s => by rw [hτ]; rfl
  rw [← hτ]
  refine W.opq fun Q' hQ' => ?_
  simp [v0, v1, v2, c1, ix, an]
  refine w_pick (D1.app) (m := s.length) (xs := [.int 0, .int 1, .int 1000, .int z]) lstAt_new (by have := D1.len; omega) (by simp) (by simp) fun v s2 hv D2 F2 => ?_
  obtain ⟨x, rfl⟩ : ∃ x : Int, v = .int x := by
    simp only [List.mem_cons, List.not_mem_nil, or_false] at hv
    rcases hv with rfl | rfl | rfl | rfl
    · exact ⟨_, rfl⟩
    · exact ⟨_, rfl⟩
    · exact ⟨_, rfl⟩
    · exact ⟨_, rfl⟩
  have a1 : oAdd (itup (row.take k)) (.tup [.int x]) s2 = .ok (itup (row.take k ++ [x])) s2 := itup_app (b := [x]) (by simp; omega)
  have a2 : oAdd (itup (row.take k ++ [x])) (itup (row.drop (k + 1))) s2 = .ok (itup (row.take k ++ [x] ++ row.drop (k + 1))) s2 := itup_app (by simp; omega)
  simp only [a1, W_ok, W_bind, ER.bind_ok, e4, c2, a2]
  refine hQ' _ _ ?_
  exact hQ (row.take k ++ [x] ++ row.drop (k + 1)) s2 (by simp; omega) D2 (F1.trans (Fr.app.trans F2))
end

theorem law_holds (ns : List Int) (hl : ns.length ≤ 63) : ∃ st, f_law [.rol (ns.map D.int)] [] = .ok (.bl true) st := by
  have key : W (f_law [.rol (ns.map D.int)] []) fun d _ => d = .bl true := by
    unfold f_law
    rw [runB_e]
    unfold m_law
    rw [W_fin]
    obtain ⟨S, hS⟩ : ∃ S, S = D.rol (ns.map D.int) := ⟨_, rfl⟩
    refine ws_cons (N' := fun τ s => τ = [some S, some (.ref 1), none, none, none, none, none, none, none, none, none, none, none, none, none, none] ∧ DS ns s) ?_ fun τ s hp => ?_
    · refine ws_set ?_
      obtain ⟨s1, e1, D1, _⟩ := r_begin hl
      simp [e1, hS]
      exact D1
    obtain ⟨rfl, D1⟩ := hp
    refine ws_cons (N' := fun τ s => ∃ b, τ = [some S, some (.ref 1), some (.bl b), none, none, none, none, none, none, none, none, none, none, none, none, none] ∧ DS ns s) ?_ fun τ s hp => ?_
    · refine ws_set ?_
      simp
      refine w_rare (many := 40) D1 (by decide) (by decide) fun b s D F => ?_
      exact ⟨by cases b <;> simp, D⟩
    clear D1
    obtain ⟨b, rfl, D1⟩ := hp
    refine ws_cons (N' := fun τ s => ∃ n : Nat, 0 < n ∧ n ≤ 5 ∧ τ = [some S, some (.ref 1), some (.bl b), some (.int (n : Nat)), none, none, none, none, none, none, none, none, none, none, none, none] ∧ DS ns s) ?_ fun τ s hp => ?_
    · refine ws_set ?_
      refine W.opq fun Q hQ => ?_
      simp
      refine w_draw (many := 5) D1 (by decide) (by decide) fun v s hv D F => ?_
      exact hQ _ _ ⟨1 + v, by omega, by omega, by simp, D⟩
    clear D1
    obtain ⟨n, n0, n5, rfl, D1⟩ := hp
    refine ws_cons (N' := fun τ s => ∃ y : Nat, τ = [some S, some (.ref 1), some (.bl b), some (.int (n : Nat)), some (.int (y : Nat)), none, none, none, none, none, none, none, none, none, none, none] ∧ DS ns s) ?_ fun τ s hp => ?_
    · refine ws_set ?_
      simp
      refine w_draw (many := 5) D1 (by decide) (by decide) fun v s hv D F => ?_
      exact ⟨⟨v, rfl⟩, D⟩
    clear D1
    obtain ⟨y, rfl, D1⟩ := hp
    refine ws_cons (N' := fun τ s => ∃ N : Nat, N ≤ 8 ∧ τ = [some S, some (.ref 1), some (.bl b), some (.int (n : Nat)), some (.int (y : Nat)), some (.int (N : Nat)), none, none, none, none, none, none, none, none, none, none] ∧ DS ns s) ?_ fun τ s hp => ?_
    · refine ws_set ?_
      refine W.opq fun Q hQ => ?_
      cases b with
      | true =>
        simp
        refine w_draw (many := 2) D1 (by decide) (by decide) fun v s hv D F => ?_
        exact hQ _ _ ⟨7 + v, by omega, by simp, D⟩
      | false =>
        simp
        refine w_draw (many := 7) D1 (by decide) (by decide) fun v s hv D F => ?_
        exact hQ _ _ ⟨v, by omega, by simp, D⟩
    clear D1
    obtain ⟨N, N8, rfl, D1⟩ := hp
    refine ws_cons (N' := fun τ s => ∃ ps, PS ps ∧ ps.length = N ∧ τ = [some S, some (.ref 1), some (.bl b), some (.int (n : Nat)), some (.int (y : Nat)), some (.int (N : Nat)), some (pls ps), none, none, none, none, none, none, none, none, none] ∧ DS ns s) ?_ fun τ s hp => ?_
    · refine ws_set ?_
      rw [eCS_e, W_bind, lComp_e, W_bind, iRg1_e, W_bind, eVar_e rfl, W_ok, rg1_int (by omega), W_ok]
      refine w_lc (by show (rng 0 (N : Nat)).length ≤ _; rw [rng_len]; omega) ?_
      refine w_polls (n := n) (sty := (y : Nat)) (i0 := 14) (i1 := 0) (i3 := 0) rfl rfl rfl (show 14 < 16 by decide) (by decide) D1 n0 n5 (by omega) fun ps s2 hps hpl D2 F2 => ?_
      exact ⟨ps, hps, hpl, rfl, D2⟩
    clear D1
    obtain ⟨ps, hps, rfl, rfl, D1⟩ := hp
    refine ws_cons (N' := fun τ s => ∃ es, es.length ≤ 100 ∧ τ = [some S, some (.ref 1), some (.bl b), some (.int (n : Nat)), some (.int (y : Nat)), some (.int (ps.length : Nat)), some (pls ps), some (eds es), none, none, none, none, none, none, none, none] ∧ DS ns s) ?_ fun τ s hp => ?_
    · refine ws_set ?_
      simp
      refine w_near D1 n0 n5 fun es s2 he D2 F2 => ?_
      exact ⟨es, he, rfl, D2⟩
    clear D1
    obtain ⟨es0, he0, rfl, D1⟩ := hp
    refine ws_cons (N' := fun τ s => ∃ es, es.length ≤ 100 ∧ τ = [some S, some (.ref 1), some (.bl b), some (.int (n : Nat)), some (.int (y : Nat)), some (.int (ps.length : Nat)), some (pls ps), some (eds es), none, none, none, none, none, none, none, none] ∧ DS ns s) ?_ fun τ s hp => ?_
    · cases b with
      | false =>
        rw [sIf_e, WS_bindE]
        refine W.of (a := false) (s := s) (by simp) ?_
        exact ⟨es0, he0, rfl, D1⟩
      | true =>
        rw [sIf_e, WS_bindE]
        refine W.of (a := true) (s := s) (by simp) ?_
        rw [if_pos rfl]
        refine ws_set ?_
        rw [eCS_e, W_bind, lComp_e, W_bind, iEx_e, W_bind, eVar_e rfl, W_ok, show dSq s (eds es0) = some (.fix (es0.map Ed.d)) from rfl, ofQ_some, W_ok]
        refine w_lc (by show (es0.map Ed.d).length ≤ _; rw [List.length_map]; omega) ?_
        refine w_some (i0 := 15) rfl (show 15 < 16 by decide) (by decide) D1 fun es s2 hel D2 F2 => ?_
        exact ⟨es, by omega, rfl, D2⟩
    clear D1 he0 es0
    obtain ⟨es, he, rfl, D1⟩ := hp
    refine ws_cons (N' := fun τ s => ∃ row : List Int, row.length = ps.length ∧ τ = [some S, some (.ref 1), some (.bl b), some (.int (n : Nat)), some (.int (y : Nat)), some (.int (ps.length : Nat)), some (pls ps), some (eds es), some (itup row), none, none, none, none, none, none, none] ∧ DS ns s) ?_ fun τ s hp => ?_
    · refine ws_set ?_
      refine W.opq fun Q hQ => ?_
      simp
      refine w_prizes D1 (by omega) fun row s2 hr D2 F2 => ?_
      exact hQ _ _ ⟨row, hr, rfl, D2⟩
    clear D1
    obtain ⟨row, hr, rfl, D1⟩ := hp
    refine ws_cons (N' := fun τ s => True) ?_ fun τ s hp => ?_
    · obtain ⟨T, hT⟩ : ∃ T : Nat, T = if b then 1 else 3 := ⟨_, rfl⟩
      have hT3 : T ≤ 3 := by rw [hT]; split <;> decide
      refine ws_forD (fun q s' => q = .fix (rng 0 (T : Nat)) ∧ s' = s) ?_ ?_
      · rw [iRg1_e, W_bind]
        refine W.of (a := .int (T : Nat)) (s := s) (by cases b <;> simp [hT]) ?_
        rw [rg1_int (by omega), W_ok]
        exact ⟨rfl, rfl⟩
      · rintro _ s0 ⟨rfl, hs0⟩
        rw [hs0]
        clear hs0 s0
        obtain ⟨I, hI⟩ : ∃ I : Nat → Sl → Store → Prop, I = fun i τ s => ∃ a9 a10 a11 a12 a13, τ = [some S, some (.ref 1), some (.bl b), some (.int (n : Nat)), some (.int (y : Nat)), some (.int (ps.length : Nat)), some (pls ps), some (eds es), some (itup row), a9, a10, a11, a12, a13, none, none] ∧ DS ns s := ⟨_, rfl⟩
        refine ws_rng (n := T) I (fun _ _ _ _ => rfl) (by rw [hI]; exact ⟨none, none, none, none, none, rfl, D1⟩) (fun i τ s hi hp => ?_) fun τ s hp => trivial
        clear D1
        rw [hI] at hp
        obtain ⟨a9, a10, a11, a12, a13, rfl, D1⟩ := hp
        refine ⟨[some S, some (.ref 1), some (.bl b), some (.int (n : Nat)), some (.int (y : Nat)), some (.int (ps.length : Nat)), some (pls ps), some (eds es), some (itup row), some (.int (i : Nat)), a10, a11, a12, a13, none, none], rfl, ?_⟩
        obtain ⟨i', hi'⟩ : ∃ i', i' = D.int (i : Nat) := ⟨_, rfl⟩
        rw [← hi']
        refine ws_cons (N' := fun τ s => ∃ L, FQ 1500 L.1 L.2 ∧ τ = [some S, some (.ref 1), some (.bl b), some (.int (n : Nat)), some (.int (y : Nat)), some (.int (ps.length : Nat)), some (pls ps), some (eds es), some (itup row), some i', some (frp L), a11, a12, a13, none, none] ∧ DS ns s) ?_ fun τ s hp => ?_
        · refine ws_set ?_
          refine W.opq fun Q hQ => ?_
          simp
          refine w_llimit D1 hps N8 he fun L s2 hL D2 F2 => ?_
          exact hQ _ _ ⟨L, hL, rfl, D2⟩
        clear D1
        obtain ⟨L, hL, rfl, D1⟩ := hp
        have C : Fam ps es L := ⟨hps, N8, hL, he⟩
        refine ws_cons (N' := fun τ s => ∃ m, 1 < m ∧ τ = [some S, some (.ref 1), some (.bl b), some (.int (n : Nat)), some (.int (y : Nat)), some (.int (ps.length : Nat)), some (pls ps), some (eds es), some (itup row), some i', some (frp L), some (.ref m), a12, a13, none, none] ∧ Dq s m (lfit ps es L) ∧ DS ns s) ?_ fun τ s hp => ?_
        · refine ws_set ?_
          refine W.opq fun Q hQ => ?_
          simp
          refine (w_lfitting C).mono fun d s2 hp => ?_
          obtain ⟨m, rfl, hm, hd, G⟩ := hp
          exact hQ _ _ ⟨m, by have := D1.len; omega, rfl, hd, G.ds D1⟩
        clear D1
        obtain ⟨m, m1, rfl, hd, D1⟩ := hp
        refine ws_cons (N' := fun τ s => ∃ o, Best ps es L row o ∧ τ = [some S, some (.ref 1), some (.bl b), some (.int (n : Nat)), some (.int (y : Nat)), some (.int (ps.length : Nat)), some (pls ps), some (eds es), some (itup row), some i', some (frp L), some (.ref m), some (opD o), a13, none, none] ∧ Dq s m (lfit ps es L) ∧ DS ns s) ?_ fun τ s hp => ?_
        · refine ws_set ?_
          refine W.opq fun Q hQ => ?_
          simp
          refine (w_best_set C hr).mono fun d s2 hp => ?_
          obtain ⟨o, rfl, hb, G⟩ := hp
          exact hQ _ _ ⟨o, hb, rfl, hd.gr G, G.ds D1⟩
        clear hd D1
        obtain ⟨o, hb, rfl, hd, D1⟩ := hp
        refine ws_cons (N' := fun τ s => τ = [some S, some (.ref 1), some (.bl b), some (.int (n : Nat)), some (.int (y : Nat)), some (.int (ps.length : Nat)), some (pls ps), some (eds es), some (itup row), some i', some (frp L), some (.ref m), some (opD o), a13, none, none] ∧ Dq s m (lfit ps es L) ∧ DS ns s) ?_ fun τ s hp => ?_
        · refine ws_ifd (fun b s => b = false ∧ Dq s m (lfit ps es L) ∧ DS ns s) ?_ (fun s1 h => absurd h.1 (by decide)) (fun s1 h => ⟨rfl, h.2⟩)
          refine W.opq fun Q hQ => ?_
          simp
          refine (w_is_best C hr hd hb).mono fun d s2 hp => ?_
          obtain ⟨rfl, G⟩ := hp
          simp
          refine (w_is_shown C hr hb).mono fun d s3 hp => ?_
          obtain ⟨rfl, G2⟩ := hp
          simp
          exact hQ _ _ ⟨rfl, hd.gr (G.trans G2), (G.trans G2).ds D1⟩
        clear hd D1
        obtain ⟨rfl, hd, D1⟩ := hp
        refine ws_cons (N' := fun τ s => ∃ row' : List Int, row'.length = ps.length ∧ τ = [some S, some (.ref 1), some (.bl b), some (.int (n : Nat)), some (.int (y : Nat)), some (.int (ps.length : Nat)), some (pls ps), some (eds es), some (itup row), some i', some (frp L), some (.ref m), some (opD o), some (itup row'), none, none] ∧ Dq s m (lfit ps es L) ∧ DS ns s) ?_ fun τ s hp => ?_
        · refine ws_set ?_
          refine W.opq fun Q hQ => ?_
          simp
          refine w_changed D1 (by omega) fun row' s2 hr2 D2 F2 => ?_
          exact hQ _ _ ⟨row', by omega, rfl, hd.fr F2 (by omega), D2⟩
        clear hd D1
        obtain ⟨row', hr2, rfl, hd, D1⟩ := hp
        refine ws_cons (N' := fun τ s => τ = [some S, some (.ref 1), some (.bl b), some (.int (n : Nat)), some (.int (y : Nat)), some (.int (ps.length : Nat)), some (pls ps), some (eds es), some (itup row), some i', some (frp L), some (.ref m), some (opD o), some (itup row'), none, none] ∧ DS ns s) ?_ fun τ s hp => ?_
        · refine ws_ifd (fun b s => b = false ∧ DS ns s) ?_ (fun s1 h => absurd h.1 (by decide)) (fun s1 h => ⟨rfl, h.2⟩)
          refine W.opq fun Q hQ => ?_
          simp [eCallK_e, arr]
          refine (w_best_set C hr2).mono fun d s2 hp => ?_
          obtain ⟨o', rfl, hb', G⟩ := hp
          refine (w_is_best C hr2 (hd.gr G) hb').mono fun d s3 hp => ?_
          obtain ⟨rfl, G2⟩ := hp
          simp
          exact hQ _ _ ⟨rfl, (G.trans G2).ds D1⟩
        clear hd D1
        obtain ⟨rfl, D1⟩ := hp
        refine ws_ifd (fun b s => b = false ∧ DS ns s) ?_ (fun s1 h => absurd h.1 (by decide)) (fun s1 h => by rw [sNil_e, WS_nx, hI]; exact ⟨_, _, _, _, _, rfl, h.2⟩)
        refine W.opq fun Q hQ => ?_
        simp
        refine (w_best_set C hr).mono fun d s2 hp => ?_
        obtain ⟨o', rfl, hb', G⟩ := hp
        have := hb'.one hb
        subst this
        have ne : oNe (opD o') (opD o') s2 = .ok (.bl false) s2 := by
          cases o' with
          | none => rfl
          | some b =>
            have h : (nats b).plain 60 = true := plain_nats
            unfold opD
            unfold nats at h ⊢
            rw [oNe_tup h h]
            simp
        simp [ne]
        exact hQ _ _ ⟨rfl, G.ds D1⟩
    refine ws_ret ?_
    rw [eC_e, W_ok]
  obtain ⟨d, s, e, rfl⟩ := key.ex
  exact ⟨s, e⟩

/-! ### the head -/
def fn : List He.DefD := [⟨("ratio", none), "ratio", "ratio", defArgs s_ratio, defBody s_ratio, defScope s_ratio, [], []⟩,
  ⟨("times", none), "times", "times", defArgs s_times, defBody s_times, defScope s_times, [], []⟩,
  ⟨("is_below", none), "is_below", "is_below", defArgs s_is_below, defBody s_is_below, defScope s_is_below, [], []⟩,
  ⟨("is_changed", none), "is_changed", "is_changed", defArgs s_is_changed, defBody s_is_changed, defScope s_is_changed, [], []⟩,
  ⟨("changed_factors", none), "changed_factors", "changed_factors", defArgs s_changed_factors, defBody s_changed_factors, defScope s_changed_factors, [], []⟩,
  ⟨("load", none), "load", "load", defArgs s_load, defBody s_load, defScope s_load, [], []⟩,
  ⟨("first_burst", none), "first_burst", "first_burst", defArgs s_first_burst, defBody s_first_burst, defScope s_first_burst, [], []⟩,
  ⟨("is_fitting", none), "is_fitting", "is_fitting", defArgs s_is_fitting, defBody s_is_fitting, defScope s_is_fitting, [], []⟩,
  ⟨("first_free", none), "first_free", "first_free", defArgs s_first_free, defBody s_first_free, defScope s_first_free, [], []⟩,
  ⟨("longer_sets", none), "longer_sets", "longer_sets", defArgs s_longer_sets, defBody s_longer_sets, defScope s_longer_sets, [], []⟩,
  ⟨("all_sets", none), "all_sets", "all_sets", defArgs s_all_sets, defBody s_all_sets, defScope s_all_sets, [], []⟩,
  ⟨("larger_sets", none), "larger_sets", "larger_sets", defArgs s_larger_sets, defBody s_larger_sets, defScope s_larger_sets, [], []⟩,
  ⟨("lesser_sets", none), "lesser_sets", "lesser_sets", defArgs s_lesser_sets, defBody s_lesser_sets, defScope s_lesser_sets, [], []⟩,
  ⟨("fitting_sets", none), "fitting_sets", "fitting_sets", defArgs s_fitting_sets, defBody s_fitting_sets, defScope s_fitting_sets, [], []⟩,
  ⟨("noted", none), "noted", "noted", defArgs s_noted, defBody s_noted, defScope s_noted, [], []⟩,
  ⟨("is_greatest", none), "is_greatest", "is_greatest", defArgs s_is_greatest, defBody s_is_greatest, defScope s_is_greatest, [], []⟩,
  ⟨("is_least", none), "is_least", "is_least", defArgs s_is_least, defBody s_is_least, defScope s_is_least, [], []⟩,
  ⟨("greatest_sets", none), "greatest_sets", "greatest_sets", defArgs s_greatest_sets, defBody s_greatest_sets, defScope s_greatest_sets, [], []⟩,
  ⟨("bars_of", none), "bars_of", "bars_of", defArgs s_bars_of, defBody s_bars_of, defScope s_bars_of, [], []⟩,
  ⟨("gain_of", none), "gain_of", "gain_of", defArgs s_gain_of, defBody s_gain_of, defScope s_gain_of, [], []⟩,
  ⟨("best_set", none), "best_set", "best_set", defArgs s_best_set, defBody s_best_set, defScope s_best_set, [], []⟩,
  ⟨("_law_begin", none), "_law_begin", "_law_begin", defArgs s__law_begin, defBody s__law_begin, defScope s__law_begin, [], []⟩,
  ⟨("_law_draw", none), "_law_draw", "_law_draw", defArgs s__law_draw, defBody s__law_draw, defScope s__law_draw, [], []⟩,
  ⟨("_law_pick", none), "_law_pick", "_law_pick", defArgs s__law_pick, defBody s__law_pick, defScope s__law_pick, [], []⟩,
  ⟨("_law_rare", none), "_law_rare", "_law_rare", defArgs s__law_rare, defBody s__law_rare, defScope s__law_rare, [], []⟩,
  ⟨("_law_is_int", none), "_law_is_int", "_law_is_int", defArgs s__law_is_int, defBody s__law_is_int, defScope s__law_is_int, [], []⟩,
  ⟨("_law_is_ints", none), "_law_is_ints", "_law_is_ints", defArgs s__law_is_ints, defBody s__law_is_ints, defScope s__law_is_ints, [], []⟩,
  ⟨("_law_is_rows", none), "_law_is_rows", "_law_is_rows", defArgs s__law_is_rows, defBody s__law_is_rows, defScope s__law_is_rows, [], []⟩,
  ⟨("_law_gcd", none), "_law_gcd", "_law_gcd", defArgs s__law_gcd, defBody s__law_gcd, defScope s__law_gcd, [], []⟩,
  ⟨("_law_f", none), "_law_f", "_law_f", defArgs s__law_f, defBody s__law_f, defScope s__law_f, [], []⟩,
  ⟨("_law_plus", none), "_law_plus", "_law_plus", defArgs s__law_plus, defBody s__law_plus, defScope s__law_plus, [], []⟩,
  ⟨("_law_minus", none), "_law_minus", "_law_minus", defArgs s__law_minus, defBody s__law_minus, defScope s__law_minus, [], []⟩,
  ⟨("_law_all_edits", none), "_law_all_edits", "_law_all_edits", defArgs s__law_all_edits, defBody s__law_all_edits, defScope s__law_all_edits, [], []⟩,
  ⟨("_law_near", none), "_law_near", "_law_near", defArgs s__law_near, defBody s__law_near, defScope s__law_near, [], []⟩,
  ⟨("_law_factor", none), "_law_factor", "_law_factor", defArgs s__law_factor, defBody s__law_factor, defScope s__law_factor, [], []⟩,
  ⟨("_law_poll", none), "_law_poll", "_law_poll", defArgs s__law_poll, defBody s__law_poll, defScope s__law_poll, [], []⟩,
  ⟨("_law_is_changed", none), "_law_is_changed", "_law_is_changed", defArgs s__law_is_changed, defBody s__law_is_changed, defScope s__law_is_changed, [], []⟩,
  ⟨("_law_products", none), "_law_products", "_law_products", defArgs s__law_products, defBody s__law_products, defScope s__law_products, [], []⟩,
  ⟨("_law_burst", none), "_law_burst", "_law_burst", defArgs s__law_burst, defBody s__law_burst, defScope s__law_burst, [], []⟩,
  ⟨("_law_sets", none), "_law_sets", "_law_sets", defArgs s__law_sets, defBody s__law_sets, defScope s__law_sets, [], []⟩,
  ⟨("_law_fitting", none), "_law_fitting", "_law_fitting", defArgs s__law_fitting, defBody s__law_fitting, defScope s__law_fitting, [], []⟩,
  ⟨("_law_limit", none), "_law_limit", "_law_limit", defArgs s__law_limit, defBody s__law_limit, defScope s__law_limit, [], []⟩,
  ⟨("_law_lies", none), "_law_lies", "_law_lies", defArgs s__law_lies, defBody s__law_lies, defScope s__law_lies, [], []⟩,
  ⟨("_law_prizes", none), "_law_prizes", "_law_prizes", defArgs s__law_prizes, defBody s__law_prizes, defScope s__law_prizes, [], []⟩,
  ⟨("_law_sum", none), "_law_sum", "_law_sum", defArgs s__law_sum, defBody s__law_sum, defScope s__law_sum, [], []⟩,
  ⟨("_law_is_better", none), "_law_is_better", "_law_is_better", defArgs s__law_is_better, defBody s__law_is_better, defScope s__law_is_better, [], []⟩,
  ⟨("_law_is_best", none), "_law_is_best", "_law_is_best", defArgs s__law_is_best, defBody s__law_is_best, defScope s__law_is_best, [], []⟩,
  ⟨("_law_is_shown", none), "_law_is_shown", "_law_is_shown", defArgs s__law_is_shown, defBody s__law_is_shown, defScope s__law_is_shown, [], []⟩,
  ⟨("_law_changed", none), "_law_changed", "_law_changed", defArgs s__law_changed, defBody s__law_changed, defScope s__law_changed, [], []⟩,
  ⟨("law", none), "law", "law", defArgs s_law, defBody s_law, defScope s_law, [], []⟩]
def fa : List He.Fa := [.glo "ratio", .glo "times", .glo "is_below", .glo "is_changed", .glo "changed_factors", .glo "load", .glo "first_burst", .glo "is_fitting", .glo "first_free", .glo "longer_sets", .glo "all_sets", .glo "larger_sets", .glo "lesser_sets", .glo "fitting_sets", .glo "noted", .glo "is_greatest", .glo "is_least", .glo "greatest_sets", .glo "bars_of", .glo "gain_of", .glo "best_set", .glo "_law_begin", .glo "_law_draw", .glo "_law_pick", .glo "_law_rare", .glo "_law_is_int", .glo "_law_is_ints", .glo "_law_is_rows", .glo "_law_gcd", .glo "_law_f", .glo "_law_plus", .glo "_law_minus", .glo "_law_all_edits", .glo "_law_near", .glo "_law_factor", .glo "_law_poll", .glo "_law_is_changed", .glo "_law_products", .glo "_law_burst", .glo "_law_sets", .glo "_law_fitting", .glo "_law_limit", .glo "_law_lies", .glo "_law_prizes", .glo "_law_sum", .glo "_law_is_better", .glo "_law_is_best", .glo "_law_is_shown", .glo "_law_changed", .glo "law", .free "ZeroDivisionError", .free "len", .free "range", .free "sorted", .free "tuple", .free "sum", .free "int", .free "abs", .free "isinstance", .free "bool", .free "all", .free "any"]
def fx : List Fx := [.blt "gcd" "math.gcd", .con "ONE" q_ONE]
abbrev hk : PySem.W.Hook := hookM 5 fa fx fn
def ob (s : PySem.W.SharedT) : He.AlD := obsMG 5 fa fx fn (HandSHeadRun.getT s)
theorem ob_eq (s : PySem.W.SharedT) : ob s = hk.obs s.abs := obsMG_eq (HandSHeadRun.getT_eq s)
def nm0 : List PySem.Str := ["ONE", "ratio", "times", "is_below", "is_changed", "changed_factors", "load", "first_burst", "is_fitting", "first_free", "longer_sets", "all_sets", "larger_sets", "lesser_sets", "fitting_sets", "noted", "is_greatest", "is_least", "greatest_sets", "bars_of", "gain_of", "best_set", "_law_begin", "_law_draw", "_law_pick", "_law_rare", "_law_is_int", "_law_is_ints", "_law_is_rows", "_law_gcd"]
def nm1 : List PySem.Str := ["_law_f", "_law_plus", "_law_minus", "_law_all_edits", "_law_near", "_law_factor", "_law_poll", "_law_is_changed", "_law_products", "_law_burst", "_law_sets", "_law_fitting", "_law_limit", "_law_lies", "_law_prizes", "_law_sum", "_law_is_better", "_law_is_best", "_law_is_shown", "_law_changed"]
def nms : List PySem.Str := nm0 ++ nm1
theorem run (w : World) : HandSHeadRun.RunEqI (PySem.W.OpenLaw.row PySem.Challenge.rw_closedratios_k71_whole_best_sets) (PySem.W.view (PySem.W.OpenLaw.row PySem.Challenge.rw_closedratios_k71_whole_best_sets).prog [0, 56]) hk ob 8000 nms w := by
  unfold HandSHeadRun.RunEqI
  kernel_rfl
theorem facts {P : Program} {w : World} {K : PySem.W.Frag} {h : Heap} {mg : PySem.Str → Option Value} {f : Addr} (X : K.In h) (G : h.Ns mainGlobals mg) (hfa : mg ("law" : PySem.Str) = some (.ref f)) (c : SaysM fa fx fn K) :
    ∃ fd : FuncData, (∀ (s : Shared) (v : Value), BindsTo s fd ⟨[v], []⟩ [("script", v)]) ∧ ∀ base : Heap, K.In base → base.Ns mainGlobals mg → FnM P w K mg base 9 f fd ["script"] f_law := by
  obtain ⟨fd_ratio, F_ratio⟩ := c.def_ 0 rfl
  have gx_ratio := He.glo_ok X G (c.fact 0 (f := .glo "ratio") rfl)
  obtain ⟨fd_times, F_times⟩ := c.def_ 1 rfl
  have gx_times := He.glo_ok X G (c.fact 1 (f := .glo "times") rfl)
  obtain ⟨fd_is_below, F_is_below⟩ := c.def_ 2 rfl
  have gx_is_below := He.glo_ok X G (c.fact 2 (f := .glo "is_below") rfl)
  obtain ⟨fd_is_changed, F_is_changed⟩ := c.def_ 3 rfl
  have gx_is_changed := He.glo_ok X G (c.fact 3 (f := .glo "is_changed") rfl)
  obtain ⟨fd_changed_factors, F_changed_factors⟩ := c.def_ 4 rfl
  have gx_changed_factors := He.glo_ok X G (c.fact 4 (f := .glo "changed_factors") rfl)
  obtain ⟨fd_load, F_load⟩ := c.def_ 5 rfl
  have gx_load := He.glo_ok X G (c.fact 5 (f := .glo "load") rfl)
  obtain ⟨fd_first_burst, F_first_burst⟩ := c.def_ 6 rfl
  have gx_first_burst := He.glo_ok X G (c.fact 6 (f := .glo "first_burst") rfl)
  obtain ⟨fd_is_fitting, F_is_fitting⟩ := c.def_ 7 rfl
  have gx_is_fitting := He.glo_ok X G (c.fact 7 (f := .glo "is_fitting") rfl)
  obtain ⟨fd_first_free, F_first_free⟩ := c.def_ 8 rfl
  have gx_first_free := He.glo_ok X G (c.fact 8 (f := .glo "first_free") rfl)
  obtain ⟨fd_longer_sets, F_longer_sets⟩ := c.def_ 9 rfl
  have gx_longer_sets := He.glo_ok X G (c.fact 9 (f := .glo "longer_sets") rfl)
  obtain ⟨fd_all_sets, F_all_sets⟩ := c.def_ 10 rfl
  have gx_all_sets := He.glo_ok X G (c.fact 10 (f := .glo "all_sets") rfl)
  obtain ⟨fd_larger_sets, F_larger_sets⟩ := c.def_ 11 rfl
  have gx_larger_sets := He.glo_ok X G (c.fact 11 (f := .glo "larger_sets") rfl)
  obtain ⟨fd_lesser_sets, F_lesser_sets⟩ := c.def_ 12 rfl
  have gx_lesser_sets := He.glo_ok X G (c.fact 12 (f := .glo "lesser_sets") rfl)
  obtain ⟨fd_fitting_sets, F_fitting_sets⟩ := c.def_ 13 rfl
  have gx_fitting_sets := He.glo_ok X G (c.fact 13 (f := .glo "fitting_sets") rfl)
  obtain ⟨fd_noted, F_noted⟩ := c.def_ 14 rfl
  have gx_noted := He.glo_ok X G (c.fact 14 (f := .glo "noted") rfl)
  obtain ⟨fd_is_greatest, F_is_greatest⟩ := c.def_ 15 rfl
  have gx_is_greatest := He.glo_ok X G (c.fact 15 (f := .glo "is_greatest") rfl)
  obtain ⟨fd_is_least, F_is_least⟩ := c.def_ 16 rfl
  have gx_is_least := He.glo_ok X G (c.fact 16 (f := .glo "is_least") rfl)
  obtain ⟨fd_greatest_sets, F_greatest_sets⟩ := c.def_ 17 rfl
  have gx_greatest_sets := He.glo_ok X G (c.fact 17 (f := .glo "greatest_sets") rfl)
  obtain ⟨fd_bars_of, F_bars_of⟩ := c.def_ 18 rfl
  have gx_bars_of := He.glo_ok X G (c.fact 18 (f := .glo "bars_of") rfl)
  obtain ⟨fd_gain_of, F_gain_of⟩ := c.def_ 19 rfl
  have gx_gain_of := He.glo_ok X G (c.fact 19 (f := .glo "gain_of") rfl)
  obtain ⟨fd_best_set, F_best_set⟩ := c.def_ 20 rfl
  have gx_best_set := He.glo_ok X G (c.fact 20 (f := .glo "best_set") rfl)
  obtain ⟨fd__law_begin, F__law_begin⟩ := c.def_ 21 rfl
  have gx__law_begin := He.glo_ok X G (c.fact 21 (f := .glo "_law_begin") rfl)
  obtain ⟨fd__law_draw, F__law_draw⟩ := c.def_ 22 rfl
  have gx__law_draw := He.glo_ok X G (c.fact 22 (f := .glo "_law_draw") rfl)
  obtain ⟨fd__law_pick, F__law_pick⟩ := c.def_ 23 rfl
  have gx__law_pick := He.glo_ok X G (c.fact 23 (f := .glo "_law_pick") rfl)
  obtain ⟨fd__law_rare, F__law_rare⟩ := c.def_ 24 rfl
  have gx__law_rare := He.glo_ok X G (c.fact 24 (f := .glo "_law_rare") rfl)
  obtain ⟨fd__law_is_int, F__law_is_int⟩ := c.def_ 25 rfl
  have gx__law_is_int := He.glo_ok X G (c.fact 25 (f := .glo "_law_is_int") rfl)
  obtain ⟨fd__law_is_ints, F__law_is_ints⟩ := c.def_ 26 rfl
  have gx__law_is_ints := He.glo_ok X G (c.fact 26 (f := .glo "_law_is_ints") rfl)
  obtain ⟨fd__law_is_rows, F__law_is_rows⟩ := c.def_ 27 rfl
  have gx__law_is_rows := He.glo_ok X G (c.fact 27 (f := .glo "_law_is_rows") rfl)
  obtain ⟨fd__law_gcd, F__law_gcd⟩ := c.def_ 28 rfl
  have gx__law_gcd := He.glo_ok X G (c.fact 28 (f := .glo "_law_gcd") rfl)
  obtain ⟨fd__law_f, F__law_f⟩ := c.def_ 29 rfl
  have gx__law_f := He.glo_ok X G (c.fact 29 (f := .glo "_law_f") rfl)
  obtain ⟨fd__law_plus, F__law_plus⟩ := c.def_ 30 rfl
  have gx__law_plus := He.glo_ok X G (c.fact 30 (f := .glo "_law_plus") rfl)
  obtain ⟨fd__law_minus, F__law_minus⟩ := c.def_ 31 rfl
  have gx__law_minus := He.glo_ok X G (c.fact 31 (f := .glo "_law_minus") rfl)
  obtain ⟨fd__law_all_edits, F__law_all_edits⟩ := c.def_ 32 rfl
  have gx__law_all_edits := He.glo_ok X G (c.fact 32 (f := .glo "_law_all_edits") rfl)
  obtain ⟨fd__law_near, F__law_near⟩ := c.def_ 33 rfl
  have gx__law_near := He.glo_ok X G (c.fact 33 (f := .glo "_law_near") rfl)
  obtain ⟨fd__law_factor, F__law_factor⟩ := c.def_ 34 rfl
  have gx__law_factor := He.glo_ok X G (c.fact 34 (f := .glo "_law_factor") rfl)
  obtain ⟨fd__law_poll, F__law_poll⟩ := c.def_ 35 rfl
  have gx__law_poll := He.glo_ok X G (c.fact 35 (f := .glo "_law_poll") rfl)
  obtain ⟨fd__law_is_changed, F__law_is_changed⟩ := c.def_ 36 rfl
  have gx__law_is_changed := He.glo_ok X G (c.fact 36 (f := .glo "_law_is_changed") rfl)
  obtain ⟨fd__law_products, F__law_products⟩ := c.def_ 37 rfl
  have gx__law_products := He.glo_ok X G (c.fact 37 (f := .glo "_law_products") rfl)
  obtain ⟨fd__law_burst, F__law_burst⟩ := c.def_ 38 rfl
  have gx__law_burst := He.glo_ok X G (c.fact 38 (f := .glo "_law_burst") rfl)
  obtain ⟨fd__law_sets, F__law_sets⟩ := c.def_ 39 rfl
  have gx__law_sets := He.glo_ok X G (c.fact 39 (f := .glo "_law_sets") rfl)
  obtain ⟨fd__law_fitting, F__law_fitting⟩ := c.def_ 40 rfl
  have gx__law_fitting := He.glo_ok X G (c.fact 40 (f := .glo "_law_fitting") rfl)
  obtain ⟨fd__law_limit, F__law_limit⟩ := c.def_ 41 rfl
  have gx__law_limit := He.glo_ok X G (c.fact 41 (f := .glo "_law_limit") rfl)
  obtain ⟨fd__law_lies, F__law_lies⟩ := c.def_ 42 rfl
  have gx__law_lies := He.glo_ok X G (c.fact 42 (f := .glo "_law_lies") rfl)
  obtain ⟨fd__law_prizes, F__law_prizes⟩ := c.def_ 43 rfl
  have gx__law_prizes := He.glo_ok X G (c.fact 43 (f := .glo "_law_prizes") rfl)
  obtain ⟨fd__law_sum, F__law_sum⟩ := c.def_ 44 rfl
  have gx__law_sum := He.glo_ok X G (c.fact 44 (f := .glo "_law_sum") rfl)
  obtain ⟨fd__law_is_better, F__law_is_better⟩ := c.def_ 45 rfl
  have gx__law_is_better := He.glo_ok X G (c.fact 45 (f := .glo "_law_is_better") rfl)
  obtain ⟨fd__law_is_best, F__law_is_best⟩ := c.def_ 46 rfl
  have gx__law_is_best := He.glo_ok X G (c.fact 46 (f := .glo "_law_is_best") rfl)
  obtain ⟨fd__law_is_shown, F__law_is_shown⟩ := c.def_ 47 rfl
  have gx__law_is_shown := He.glo_ok X G (c.fact 47 (f := .glo "_law_is_shown") rfl)
  obtain ⟨fd__law_changed, F__law_changed⟩ := c.def_ 48 rfl
  have gx__law_changed := He.glo_ok X G (c.fact 48 (f := .glo "_law_changed") rfl)
  obtain ⟨fd_law, F_law⟩ := c.def_ 49 rfl
  have z_ZeroDivisionError := He.free_ok X G (c.fact 50 (f := .free "ZeroDivisionError") rfl)
  have z_len := He.free_ok X G (c.fact 51 (f := .free "len") rfl)
  have z_range := He.free_ok X G (c.fact 52 (f := .free "range") rfl)
  have z_sorted := He.free_ok X G (c.fact 53 (f := .free "sorted") rfl)
  have z_tuple := He.free_ok X G (c.fact 54 (f := .free "tuple") rfl)
  have z_sum := He.free_ok X G (c.fact 55 (f := .free "sum") rfl)
  have z_int := He.free_ok X G (c.fact 56 (f := .free "int") rfl)
  have z_abs := He.free_ok X G (c.fact 57 (f := .free "abs") rfl)
  have z_isinstance := He.free_ok X G (c.fact 58 (f := .free "isinstance") rfl)
  have z_bool := He.free_ok X G (c.fact 59 (f := .free "bool") rfl)
  have z_all := He.free_ok X G (c.fact 60 (f := .free "all") rfl)
  have z_any := He.free_ok X G (c.fact 61 (f := .free "any") rfl)
  have g_gcd := blt_ok X G (c.more 0 (f := .blt "gcd" "math.gcd") rfl)
  have k_ONE := con_ok X G (c.more 1 (f := .con "ONE" q_ONE) rfl)
  have e := hfa.symm.trans (He.glo_ok X G (c.fact 49 (f := .glo "law") rfl))
  cases e
  refine ⟨fd_law, fun s v => FunD.bindsA (ps := ["script"]) F_law (fun _ _ _ _ _ _ us hl => match us, hl with | [_], _ => rfl) s [v] rfl, fun base _ _ => ?_⟩
  have c_ratio := (ok_ratio (P := P) (w := w) (base := base) F_ratio gx_ratio g_gcd z_ZeroDivisionError).le le_ratio
  have c_times := (ok_times (P := P) (w := w) (base := base) F_times gx_times c_ratio).le le_times
  have c_is_below := (ok_is_below (P := P) (w := w) (base := base) F_is_below gx_is_below ).le le_is_below
  have c_is_changed := (ok_is_changed (P := P) (w := w) (base := base) F_is_changed gx_is_changed ).le le_is_changed
  have c_changed_factors := (ok_changed_factors (P := P) (w := w) (base := base) F_changed_factors gx_changed_factors c_is_changed).le le_changed_factors
  have c_load := (ok_load (P := P) (w := w) (base := base) F_load gx_load c_changed_factors c_times k_ONE).le le_load
  have c_first_burst := (ok_first_burst (P := P) (w := w) (base := base) F_first_burst gx_first_burst c_is_below c_load).le le_first_burst
  have c_is_fitting := (ok_is_fitting (P := P) (w := w) (base := base) F_is_fitting gx_is_fitting c_is_below c_first_burst k_ONE).le le_is_fitting
  have c_first_free := (ok_first_free (P := P) (w := w) (base := base) F_first_free gx_first_free z_len).le le_first_free
  have c_longer_sets := (ok_longer_sets (P := P) (w := w) (base := base) F_longer_sets gx_longer_sets c_first_free z_range).le le_longer_sets
  have c_all_sets := (ok_all_sets (P := P) (w := w) (base := base) F_all_sets gx_all_sets c_longer_sets z_len).le le_all_sets
  have c_larger_sets := (ok_larger_sets (P := P) (w := w) (base := base) F_larger_sets gx_larger_sets z_range z_sorted z_tuple).le le_larger_sets
  have c_lesser_sets := (ok_lesser_sets (P := P) (w := w) (base := base) F_lesser_sets gx_lesser_sets z_range z_len).le le_lesser_sets
  have c_fitting_sets := (ok_fitting_sets (P := P) (w := w) (base := base) F_fitting_sets gx_fitting_sets c_is_below c_longer_sets c_is_fitting k_ONE z_len z_sorted).le le_fitting_sets
  have c_noted := (ok_noted (P := P) (w := w) (base := base) F_noted gx_noted ).le le_noted
  have c_is_greatest := (ok_is_greatest (P := P) (w := w) (base := base) F_is_greatest gx_is_greatest c_larger_sets).le le_is_greatest
  have c_is_least := (ok_is_least (P := P) (w := w) (base := base) F_is_least gx_is_least c_lesser_sets).le le_is_least
  have c_greatest_sets := (ok_greatest_sets (P := P) (w := w) (base := base) F_greatest_sets gx_greatest_sets c_fitting_sets c_noted c_is_greatest z_len z_tuple).le le_greatest_sets
  have c_bars_of := (ok_bars_of (P := P) (w := w) (base := base) F_bars_of gx_bars_of c_is_below c_noted c_fitting_sets c_all_sets c_is_least c_first_burst k_ONE z_len z_sorted z_tuple).le le_bars_of
  have c_gain_of := (ok_gain_of (P := P) (w := w) (base := base) F_gain_of gx_gain_of z_sum).le le_gain_of
  have c_best_set := (ok_best_set (P := P) (w := w) (base := base) F_best_set gx_best_set c_fitting_sets c_gain_of).le le_best_set
  have c__law_begin := (ok__law_begin (P := P) (w := w) (base := base) F__law_begin gx__law_begin z_int).le le__law_begin
  have c__law_draw := (ok__law_draw (P := P) (w := w) (base := base) F__law_draw gx__law_draw z_int z_len z_abs).le le__law_draw
  have c__law_pick := (ok__law_pick (P := P) (w := w) (base := base) F__law_pick gx__law_pick c__law_draw z_len).le le__law_pick
  have c__law_rare := (ok__law_rare (P := P) (w := w) (base := base) F__law_rare gx__law_rare c__law_draw).le le__law_rare
  have c__law_is_int := (ok__law_is_int (P := P) (w := w) (base := base) F__law_is_int gx__law_is_int z_int z_isinstance z_bool).le le__law_is_int
  have c__law_is_ints := (ok__law_is_ints (P := P) (w := w) (base := base) F__law_is_ints gx__law_is_ints c__law_is_int z_tuple z_isinstance z_all).le le__law_is_ints
  have c__law_is_rows := (ok__law_is_rows (P := P) (w := w) (base := base) F__law_is_rows gx__law_is_rows z_tuple z_isinstance z_len z_all).le le__law_is_rows
  have c__law_gcd := (ok__law_gcd (P := P) (w := w) (base := base) F__law_gcd gx__law_gcd z_abs z_int).le le__law_gcd
  have c__law_f := (ok__law_f (P := P) (w := w) (base := base) F__law_f gx__law_f c__law_gcd).le le__law_f
  have c__law_plus := (ok__law_plus (P := P) (w := w) (base := base) F__law_plus gx__law_plus c__law_f).le le__law_plus
  have c__law_minus := (ok__law_minus (P := P) (w := w) (base := base) F__law_minus gx__law_minus c__law_f).le le__law_minus
  have c__law_all_edits := (ok__law_all_edits (P := P) (w := w) (base := base) F__law_all_edits gx__law_all_edits z_range z_tuple).le le__law_all_edits
  have c__law_near := (ok__law_near (P := P) (w := w) (base := base) F__law_near gx__law_near c__law_all_edits c__law_draw z_tuple).le le__law_near
  have c__law_factor := (ok__law_factor (P := P) (w := w) (base := base) F__law_factor gx__law_factor c__law_pick c__law_f c__law_draw).le le__law_factor
  have c__law_poll := (ok__law_poll (P := P) (w := w) (base := base) F__law_poll gx__law_poll c__law_draw c__law_factor z_range z_tuple z_len).le le__law_poll
  have c__law_is_changed := (ok__law_is_changed (P := P) (w := w) (base := base) F__law_is_changed gx__law_is_changed z_len).le le__law_is_changed
  have c__law_products := (ok__law_products (P := P) (w := w) (base := base) F__law_products gx__law_products c__law_is_changed).le le__law_products
  have c__law_burst := (ok__law_burst (P := P) (w := w) (base := base) F__law_burst gx__law_burst c__law_products).le le__law_burst
  have c__law_sets := (ok__law_sets (P := P) (w := w) (base := base) F__law_sets gx__law_sets z_range).le le__law_sets
  have c__law_fitting := (ok__law_fitting (P := P) (w := w) (base := base) F__law_fitting gx__law_fitting c__law_sets c__law_burst z_len).le le__law_fitting
  have c__law_limit := (ok__law_limit (P := P) (w := w) (base := base) F__law_limit gx__law_limit c__law_draw c__law_f c__law_products c__law_pick c__law_minus c__law_plus z_len z_range).le le__law_limit
  have c__law_lies := (ok__law_lies (P := P) (w := w) (base := base) F__law_lies gx__law_lies z_all).le le__law_lies
  have c__law_prizes := (ok__law_prizes (P := P) (w := w) (base := base) F__law_prizes gx__law_prizes c__law_draw z_range z_tuple).le le__law_prizes
  have c__law_sum := (ok__law_sum (P := P) (w := w) (base := base) F__law_sum gx__law_sum z_sum).le le__law_sum
  have c__law_is_better := (ok__law_is_better (P := P) (w := w) (base := base) F__law_is_better gx__law_is_better c__law_sum).le le__law_is_better
  have c__law_is_best := (ok__law_is_best (P := P) (w := w) (base := base) F__law_is_best gx__law_is_best c__law_is_ints c__law_is_better z_sorted z_any).le le__law_is_best
  have c__law_is_shown := (ok__law_is_shown (P := P) (w := w) (base := base) F__law_is_shown gx__law_is_shown c_bars_of c__law_is_rows c__law_is_ints c__law_sets c__law_is_better c__law_lies c_greatest_sets z_all z_len z_any z_tuple z_isinstance).le le__law_is_shown
  have c__law_changed := (ok__law_changed (P := P) (w := w) (base := base) F__law_changed gx__law_changed c__law_draw c__law_pick z_len z_int).le le__law_changed
  exact (ok_law (P := P) (w := w) (base := base) F_law c__law_begin c__law_rare c__law_draw c__law_poll c__law_near c__law_prizes c__law_limit c__law_fitting c_best_set c__law_is_best c__law_is_shown c__law_changed F_best_set gx_best_set z_range z_tuple).le le_law
end K71
open PySem PySem.W PySem.Calls PyProof.Rows
set_option maxHeartbeats 0 in
theorem PySem.Challenge.cw_closedratios_k71_whole_best_sets_holds : PySem.Challenge.rw_closedratios_k71_whole_best_sets.Holds := by
  w_on; o_law
  refine HandSHeadRun.head_imp (r := OpenLaw.row PySem.Challenge.rw_closedratios_k71_whole_best_sets) (q := view (OpenLaw.row PySem.Challenge.rw_closedratios_k71_whole_best_sets).prog [0, 56]) (H := K71.hk) (ob := K71.ob) (M := 8000) (loose := K71.nms) (d := HandSHeadRun.topDef (OpenLaw.row PySem.Challenge.rw_closedratios_k71_whole_best_sets).prog 56) (kwd := []) K71.ob_eq
    K71.run (by kernel_rfl) (by kernel_rfl) (by kernel_rfl) (by rfl) (by first | assumption | decide +kernel) (by decide +kernel) ⟨rfl, rfl, rfl, rfl, rfl, by decide +kernel⟩ ?hw ?hc
  case hw => w_witness2
  case hc =>
    refine L2.walk_ofE (l := PySem.Challenge.rw_closedratios_k71_whole_best_sets) (n := 63) (k := 9) (x := "script") (CX := L2.CX0) rfl (by decide) (by kernel_rfl) ⟨rfl, by decide, by decide⟩ ?F (fun _ _ _ _ z => z)
    intro w mg fa h Y G hmg0
    obtain ⟨K, KX, c⟩ := Y
    have hmg : mg ("law" : PySem.Str) = some (.ref fa) := by
      have e : (HandSHeadRun.topDef (OpenLaw.row PySem.Challenge.rw_closedratios_k71_whole_best_sets).prog 56).name = ("law" : PySem.Str) := by kernel_rfl
      rw [← e]
      exact hmg0
    obtain ⟨fd, hb, hF⟩ := K71.facts (P := (PySem.Challenge.rw_closedratios_k71_whole_best_sets).prog) (w := w) KX G hmg c
    exact ⟨K, fd, (fun vs H Q _ => HM.spM ⟨K, w⟩ 1 K71.f_law vs H Q fun _ _ _ => False), KX, hb, fun H a ns hl ho hS => HM.law_sp (n := 63) K71.law_holds H a ns hl ho hS, fun base h1 h2 => (hF base h1 h2).shut⟩
