import PyProof.Rows.All
import Wide.All
import OpenK.AllK
import Wide.FinOn
import HandS.ForMost
import HandS.ForExc
import HandS.Wide
import HandS.Gcd
import HandS.Flow
import HandS.IsInst
import HandS.Conv
import HandS.TupAny
import HandS.Zip
import HandS.CallSlots
import HandS.TupLe
import KE.KDictKeyed
import HandS.ExcBuiltin
import HandS.TryOnly
import HandS.Defaults
import HandS.HeadEnd
import HandS.HeadHook1
import HandS.HeadHook2
import KE.KStateDown
import Lean
import HandS.Head0
import HandS.Head1
import HandS.Head2
import HandS.Head3
import HandS.More
import HandS.Deep
import HandS.Text
import KE.KTupSum
import KE.KMathGC
import HandS.Codes
import HandS.TupMul
import KE.GoesZip
import KE.GoesMore
import HandS.TupLen
import KE.DataCmp
import KE.SortData
import HandS.SortInts
import HandS.Style
import KE.DataMinMax
import PySem.Challenge.RW_closedratios_k06_least_alignments
set_option Elab.async false
set_option linter.all false
set_option maxRecDepth 100000
set_option maxHeartbeats 4000000
/-! HM: a layer of values over the hand layer. Part 1: values, stores, judgements. -/
namespace HM
open PySem PySem.Spec PyProof.Rows L2

/-! ### values -/
inductive D where
  | non | bl (b : Bool) | int (i : Int) | str (x : List Nat) | tup (xs : List D) | ref (n : Nat) | ty (n : String) | adr (a : Addr) | rol (xs : List D)
mutual
def D.dec : (a b : D) → Decidable (a = b)
  | .non, .non => Decidable.isTrue rfl
  | .bl a, .bl b => if h : a = b then Decidable.isTrue (h ▸ rfl) else Decidable.isFalse (fun e => h (D.bl.inj e))
  | .int a, .int b => if h : a = b then Decidable.isTrue (h ▸ rfl) else Decidable.isFalse (fun e => h (D.int.inj e))
  | .str a, .str b => if h : a = b then Decidable.isTrue (h ▸ rfl) else Decidable.isFalse (fun e => h (D.str.inj e))
  | .ref a, .ref b => if h : a = b then Decidable.isTrue (h ▸ rfl) else Decidable.isFalse (fun e => h (D.ref.inj e))
  | .ty a, .ty b => if h : a = b then Decidable.isTrue (h ▸ rfl) else Decidable.isFalse (fun e => h (D.ty.inj e))
  | .adr a, .adr b => if h : a = b then Decidable.isTrue (h ▸ rfl) else Decidable.isFalse (fun e => h (D.adr.inj e))
  | .tup a, .tup b => match D.decAll a b with
    | .isTrue h => Decidable.isTrue (h ▸ rfl)
    | .isFalse h => Decidable.isFalse (fun e => h (D.tup.inj e))
  | .rol a, .rol b => match D.decAll a b with
    | .isTrue h => Decidable.isTrue (h ▸ rfl)
    | .isFalse h => Decidable.isFalse (fun e => h (D.rol.inj e))
  | .non, .bl _ | .non, .int _ | .non, .str _ | .non, .tup _ | .non, .ref _ | .non, .ty _ | .non, .adr _ | .non, .rol _ => Decidable.isFalse nofun
  | .bl _, .non | .bl _, .int _ | .bl _, .str _ | .bl _, .tup _ | .bl _, .ref _ | .bl _, .ty _ | .bl _, .adr _ | .bl _, .rol _ => Decidable.isFalse nofun
  | .int _, .non | .int _, .bl _ | .int _, .str _ | .int _, .tup _ | .int _, .ref _ | .int _, .ty _ | .int _, .adr _ | .int _, .rol _ => Decidable.isFalse nofun
  | .str _, .non | .str _, .bl _ | .str _, .int _ | .str _, .tup _ | .str _, .ref _ | .str _, .ty _ | .str _, .adr _ | .str _, .rol _ => Decidable.isFalse nofun
  | .tup _, .non | .tup _, .bl _ | .tup _, .int _ | .tup _, .str _ | .tup _, .ref _ | .tup _, .ty _ | .tup _, .adr _ | .tup _, .rol _ => Decidable.isFalse nofun
  | .ref _, .non | .ref _, .bl _ | .ref _, .int _ | .ref _, .str _ | .ref _, .tup _ | .ref _, .ty _ | .ref _, .adr _ | .ref _, .rol _ => Decidable.isFalse nofun
  | .ty _, .non | .ty _, .bl _ | .ty _, .int _ | .ty _, .str _ | .ty _, .tup _ | .ty _, .ref _ | .ty _, .adr _ | .ty _, .rol _ => Decidable.isFalse nofun
  | .rol _, .non | .rol _, .bl _ | .rol _, .int _ | .rol _, .str _ | .rol _, .tup _ | .rol _, .ref _ | .rol _, .ty _ | .rol _, .adr _ => Decidable.isFalse nofun
  | .adr _, .non | .adr _, .bl _ | .adr _, .int _ | .adr _, .str _ | .adr _, .tup _ | .adr _, .ref _ | .adr _, .ty _ | .adr _, .rol _ => Decidable.isFalse nofun
def D.decAll : (a b : List D) → Decidable (a = b)
  | [], [] => Decidable.isTrue rfl
  | [], _ :: _ => Decidable.isFalse nofun
  | _ :: _, [] => Decidable.isFalse nofun
  | x :: xs, y :: ys => match D.dec x y with
    | .isFalse h => Decidable.isFalse (fun e => h (List.cons.inj e).1)
    | .isTrue h => match D.decAll xs ys with
      | .isTrue h2 => Decidable.isTrue (by rw [h, h2])
      | .isFalse h2 => Decidable.isFalse (fun e => h2 (List.cons.inj e).2)
end
instance : DecidableEq D := D.dec
instance : Inhabited D := ⟨.non⟩
/-- what stands in a cell of the store -/
inductive Cell where
  | lst (xs : List D) | dct (kvs : List (D × D))
  deriving DecidableEq, Inhabited
abbrev Store := List Cell
abbrev Sl := List (Option D)
/-- an exception: its class, its fields -/
structure Xc where
  cls : D
  fs : List (Str × D) := []
/-- what an evaluation gives -/
inductive ER (α : Type) where
  | ok (a : α) (st : Store) | exc (x : Xc) (st : Store) | bad
def ER.bind {α β : Type} (r : ER α) (k : α → Store → ER β) : ER β := match r with
  | .ok a st => k a st
  | .exc x st => .exc x st
  | .bad => .bad
@[simp] theorem ER.bind_ok {α β : Type} (a : α) (st : Store) (k : α → Store → ER β) : (ER.ok a st).bind k = k a st := rfl
@[simp] theorem ER.bind_exc {α β : Type} (x : Xc) (st : Store) (k : α → Store → ER β) : (ER.exc x st : ER α).bind k = .exc x st := rfl
@[simp] theorem ER.bind_bad {α β : Type} (k : α → Store → ER β) : (ER.bad : ER α).bind k = .bad := rfl
/-- what a statement gives -/
inductive SR where
  | nx (τ : Sl) (st : Store) | bk (τ : Sl) (st : Store) | ct (τ : Sl) (st : Store) | rt (d : D) (st : Store) | exc (x : Xc) (τ : Sl) (st : Store) | bad
abbrev EM (α : Type) := Sl → Store → ER α
abbrev SM := Sl → Store → SR

/-! ### how values stand for those of the layer -/
/-- a list that nobody writes -/
def FzL (K : PySem.W.Frag) (H : Hp) (a : Addr) (xs : List V) : Prop :=
  (∃ o, H a = some (.frz o (.lst xs))) ∨
    ∃ (o : Obj) (its : Array Value) (n : Nat), K.lookup a = some o ∧ o.cls = .type "list" ∧ o.dict = none ∧ o.data = .seq its n ∧ its.size ≤ sizeLine ∧ Vals xs its.toList
theorem FzL.sq {K : PySem.W.Frag} {H : Hp} {a : Addr} {xs : List V} (h : FzL K H a xs) : SqL K H a xs := by
  rcases h with ⟨o, h⟩ | h
  · exact .inl (.inr ⟨o, h⟩)
  · exact .inr h
theorem FzL.of {K : PySem.W.Frag} {H : Hp} {a : Addr} {xs : List V} (h : SqL K H a xs) (n : ∀ ys, H a ≠ some (.lst ys)) : FzL K H a xs := by
  rcases h with (h | h) | h
  · exact absurd h (n xs)
  · exact .inl h
  · exact .inr h
theorem FzL.new {K : PySem.W.Frag} {H : Hp} {p : Addr} {o : HO} (h : H p = none) {a : Addr} {vs : List V} (s : FzL K H a vs) : FzL K (upd H p o) a vs := by
  rcases s with ⟨ob, s⟩ | s
  · exact .inl ⟨ob, by rw [upd_ne (ne_of_none s h)]; exact s⟩
  · exact .inr s
mutual
inductive RD (K : PySem.W.Frag) (m : List Addr) (H : Hp) : D → V → Prop
  | non : RD K m H .non .non
  | bl (b : Bool) : RD K m H (.bl b) (.bl b)
  | int (i : Int) : RD K m H (.int i) (.int i)
  | str (x : List Nat) : RD K m H (.str x) (.str ⟨x.toArray⟩)
  | ty (n : String) : RD K m H (.ty n) (.ty n)
  | adr (a : Addr) : RD K m H (.adr a) (.ref a)
  | tup {a : Addr} {vs : List V} {ds : List D} : SqT K H a vs → RDs K m H ds vs → RD K m H (.tup ds) (.ref a)
  | rol {a : Addr} {vs : List V} {ds : List D} : FzL K H a vs → RDs K m H ds vs → RD K m H (.rol ds) (.ref a)
  | ref {n : Nat} {a : Addr} : m[n]? = some a → RD K m H (.ref n) (.ref a)
inductive RDs (K : PySem.W.Frag) (m : List Addr) (H : Hp) : List D → List V → Prop
  | nil : RDs K m H [] []
  | cons {d : D} {v : V} {ds : List D} {vs : List V} : RD K m H d v → RDs K m H ds vs → RDs K m H (d :: ds) (v :: vs)
end
/-- what values lean on is kept -/
structure Kp (K : PySem.W.Frag) (m : List Addr) (H : Hp) (m' : List Addr) (H' : Hp) : Prop where
  pre : ∀ (n : Nat) (a : Addr), m[n]? = some a → m'[n]? = some a
  tup : ∀ (a : Addr) (vs : List V), SqT K H a vs → SqT K H' a vs
  fzl : ∀ (a : Addr) (vs : List V), FzL K H a vs → FzL K H' a vs
/-- all that was is kept, but what the store may change -/
structure Ext (K : PySem.W.Frag) (m : List Addr) (H : Hp) (m' : List Addr) (H' : Hp) : Prop extends Kp K m H m' H' where
  frm : ∀ (a : Addr) (o : HO), a ∉ m → H a = some o → H' a = some o
  new : ∀ a : Addr, a ∈ m' → a ∉ m → H a = none
section
variable {K : PySem.W.Frag} {m m1 m2 m' : List Addr} {H H1 H2 H' : Hp}
theorem Ext.refl : Ext K m H m H := ⟨⟨fun _ _ h => h, fun _ _ h => h, fun _ _ h => h⟩, fun _ _ _ h => h, fun _ h n => absurd h n⟩
theorem Ext.mem (e : Ext K m H m1 H1) {a : Addr} (h : a ∈ m) : a ∈ m1 := by
  obtain ⟨n, q⟩ := List.getElem?_of_mem h
  exact List.mem_of_getElem? (e.pre n a q)
theorem Ext.trans (e : Ext K m H m1 H1) (f : Ext K m1 H1 m2 H2) : Ext K m H m2 H2 where
  pre := fun n a h => f.pre n a (e.pre n a h)
  tup := fun a vs h => f.tup a vs (e.tup a vs h)
  fzl := fun a vs h => f.fzl a vs (e.fzl a vs h)
  frm := fun a o n h => by
    refine f.frm a o (fun q => ?_) (e.frm a o n h)
    rw [e.new a q n] at h
    cases h
  new := fun a h n => by
    by_cases q : a ∈ m1
    · exact e.new a q n
    · have z := f.new a h q
      cases r : H a with
      | none => rfl
      | some o =>
        rw [e.frm a o n r] at z
        cases z
mutual
theorem RD.kp (e : Kp K m H m' H') : ∀ {d : D} {v : V}, RD K m H d v → RD K m' H' d v
  | _, _, .non => .non
  | _, _, .bl b => .bl b
  | _, _, .int i => .int i
  | _, _, .str x => .str x
  | _, _, .ty n => .ty n
  | _, _, .adr a => .adr a
  | _, _, .tup h r => .tup (e.tup _ _ h) (RDs.kp e r)
  | _, _, .rol h r => .rol (e.fzl _ _ h) (RDs.kp e r)
  | _, _, .ref h => .ref (e.pre _ _ h)
theorem RDs.kp (e : Kp K m H m' H') : ∀ {ds : List D} {vs : List V}, RDs K m H ds vs → RDs K m' H' ds vs
  | _, _, .nil => .nil
  | _, _, .cons h r => .cons (RD.kp e h) (RDs.kp e r)
end
theorem RD.mono (e : Ext K m H m' H') {d : D} {v : V} (r : RD K m H d v) : RD K m' H' d v := r.kp e.toKp
theorem RDs.mono (e : Ext K m H m' H') {ds : List D} {vs : List V} (r : RDs K m H ds vs) : RDs K m' H' ds vs := r.kp e.toKp
theorem RDs.len : ∀ {ds : List D} {vs : List V}, RDs K m H ds vs → ds.length = vs.length
  | _, _, .nil => rfl
  | _, _, .cons _ r => congrArg (· + 1) r.len
theorem RDs.get : ∀ {ds : List D} {vs : List V} {i : Nat} {d : D}, RDs K m H ds vs → ds[i]? = some d → ∃ v, vs[i]? = some v ∧ RD K m H d v
  | _, _, _, _, .nil, e => by simp at e
  | _, _, 0, _, .cons h _, e => by
    simp at e
    subst e
    exact ⟨_, rfl, h⟩
  | _, _, i + 1, d, .cons _ r, e => by
    obtain ⟨v, h1, h2⟩ := RDs.get (i := i) (d := d) r (by simpa using e)
    exact ⟨v, by simpa using h1, h2⟩
theorem RDs.append : ∀ {ds es : List D} {vs us : List V}, RDs K m H ds vs → RDs K m H es us → RDs K m H (ds ++ es) (vs ++ us)
  | _, _, _, _, .nil, s => s
  | _, _, _, _, .cons h r, s => .cons h (RDs.append r s)
theorem RDs.take : ∀ {ds : List D} {vs : List V} (n : Nat), RDs K m H ds vs → RDs K m H (ds.take n) (vs.take n)
  | _, _, 0, _ => .nil
  | _, _, _ + 1, .nil => .nil
  | _, _, n + 1, .cons h r => .cons h (RDs.take n r)
theorem RDs.drop : ∀ {ds : List D} {vs : List V} (n : Nat), RDs K m H ds vs → RDs K m H (ds.drop n) (vs.drop n)
  | _, _, 0, r => r
  | _, _, _ + 1, .nil => .nil
  | _, _, n + 1, .cons _ r => RDs.drop n r
theorem RDs.set {d : D} {v : V} (h : RD K m H d v) : ∀ {ds : List D} {vs : List V} (i : Nat), RDs K m H ds vs → RDs K m H (ds.set i d) (vs.set i v)
  | _, _, _, .nil => .nil
  | _, _, 0, .cons _ r => .cons h r
  | _, _, i + 1, .cons g r => .cons g (RDs.set h i r)
theorem RDs.erase : ∀ {ds : List D} {vs : List V} (i : Nat), RDs K m H ds vs → RDs K m H (ds.eraseIdx i) (vs.eraseIdx i)
  | _, _, _, .nil => .nil
  | _, _, 0, .cons _ r => r
  | _, _, i + 1, .cons g r => .cons g (RDs.erase i r)
theorem RDs.dropLast {ds : List D} {vs : List V} (r : RDs K m H ds vs) : RDs K m H ds.dropLast vs.dropLast := by
  rw [List.dropLast_eq_take, List.dropLast_eq_take, r.len]
  exact r.take _
theorem RDs.one {d : D} {vs : List V} (r : RDs K m H [d] vs) : ∃ v, vs = [v] ∧ RD K m H d v := by
  cases r with
  | cons h r =>
    cases r
    exact ⟨_, rfl, h⟩
theorem RDs.two {d e : D} {vs : List V} (r : RDs K m H [d, e] vs) : ∃ v u, vs = [v, u] ∧ RD K m H d v ∧ RD K m H e u := by
  cases r with
  | cons h r =>
    obtain ⟨u, rfl, h2⟩ := r.one
    exact ⟨_, _, rfl, h, h2⟩
theorem RDs.reverse {ds : List D} {vs : List V} (r : RDs K m H ds vs) : RDs K m H ds.reverse vs.reverse := by
  induction ds generalizing vs with
  | nil =>
    cases r
    exact .nil
  | cons d ds ih =>
    cases r with
    | cons h r =>
      rw [List.reverse_cons, List.reverse_cons]
      exact (ih r).append (.cons h .nil)
theorem RDs.ints : ∀ (ns : List Int), RDs K m H (ns.map D.int) (ns.map V.int)
  | [] => .nil
  | n :: r => .cons (.int n) (RDs.ints r)
/-- the known part and the world -/
structure KW where
  F : PySem.W.Frag
  w : World
instance : CoeOut KW PySem.W.Frag := ⟨KW.F⟩
@[reducible] def _root_.L2.Cx.kw (X : Cx) : KW := ⟨X.K, X.w⟩
/-- values without truth values and references, so deep -/
def D.plain : Nat → D → Bool
  | _, .non => true
  | _, .int _ => true
  | _, .str x => x.all fun c => decide (c < 1114112)
  | 0, .tup _ => false
  | n + 1, .tup xs => xs.all (D.plain n)
  | _, _ => false

mutual
def D.nk : D → NestedKey
  | .non => .none
  | .int i => .num i
  | .str x => .text ⟨x.toArray⟩
  | .tup xs => .tup (D.nks xs)
  | _ => .none
def D.nks : List D → List NestedKey
  | [] => []
  | d :: ds => D.nk d :: D.nks ds
end
def D.tupQ (d : D) : Bool := match d with
  | .tup _ => d.plain 8
  | _ => false
def keyD : Key → D
  | .inl i => .int i
  | .inr x => .str x.cps.toList
/-- a dict whose keys are tuples, at its address -/
def DObj (w : World) (a : Addr) (xs : List (NestedKey × Addr × V)) (h : Heap) : Prop :=
  (a == sysModules) = false ∧ xs.length ≤ sizeLine ∧ ∃ zs : List (NestedKey × Addr × Value), Paired (fun p q => p.1 = q.1 ∧ p.2.1 = q.2.1 ∧ RelV p.2.2 q.2.2) xs zs ∧
    ∃ o es ep, h.get? a = some o ∧ o.ExactDict ∧ o.data = .dict es ep ∧ es.toList = zs.map (fun x => (⟨NestedKey.hash w x.1, .ref x.2.1, x.2.2⟩ : DictEntry)) ∧ (zs.map (·.1)).Nodup
abbrev DRel1 (K : PySem.W.Frag) (m : List Addr) (H : Hp) : List (D × D) → List (Key × V) → Prop := Paired fun p q => p.1 = keyD q.1 ∧ RD K m H p.2 q.2
abbrev DRel2 (K : PySem.W.Frag) (m : List Addr) (H : Hp) : List (D × D) → List (NestedKey × Addr × V) → Prop := Paired fun p q => p.1.tupQ = true ∧ q.1 = p.1.nk ∧ RD K m H p.1 (.ref q.2.1) ∧ RD K m H p.2 q.2.2
theorem DRel1.kp {m m' : List Addr} {H H' : Hp} {kvs : List (D × D)} {us : List (Key × V)} (r : DRel1 K m H kvs us) (e : Kp K m H m' H') : DRel1 K m' H' kvs us := Paired.mapP r fun _ _ z => ⟨z.1, z.2.kp e⟩
theorem DRel2.kp {m m' : List Addr} {H H' : Hp} {kvs : List (D × D)} {us : List (NestedKey × Addr × V)} (r : DRel2 K m H kvs us) (e : Kp K m H m' H') : DRel2 K m' H' kvs us := Paired.mapP r fun _ _ z => ⟨z.1, z.2.1, z.2.2.1.kp e, z.2.2.2.kp e⟩
/-- a cell and what stands at its address -/
def RC (K : KW) (m : List Addr) (H : Hp) (a : Addr) : Cell → Prop
  | .lst ds => ∃ vs, H a = some (.lst vs) ∧ RDs K m H ds vs
  | .dct kvs => (∃ us, H a = some (.dK us) ∧ DRel1 K m H kvs us) ∨ ∃ xs, H a = some (.ext (DObj K.w a xs)) ∧ xs ≠ [] ∧ DRel2 K m H kvs xs
structure SS (K : KW) (m : List Addr) (st : Store) (H : Hp) : Prop where
  len : m.length = st.length
  nd : m.Nodup
  cel : ∀ (n : Nat) (c : Cell) (a : Addr), st[n]? = some c → m[n]? = some a → RC K m H a c
/-- the slots -/
structure SL (K : PySem.W.Frag) (m : List Addr) (H : Hp) (τ : Sl) (σ : L2.St) : Prop where
  len : τ.length = σ.length
  get : ∀ (i : Nat) (d : D), τ[i]? = some (some d) → ∃ v, σ[i]? = some (some v) ∧ RD K m H d v
theorem SL.mono {τ : Sl} {σ : L2.St} (s : SL K m H τ σ) (e : Ext K m H m' H') : SL K m' H' τ σ :=
  ⟨s.len, fun i d h => let ⟨v, h1, h2⟩ := s.get i d h; ⟨v, h1, h2.mono e⟩⟩
theorem SL.set {τ : Sl} {σ : L2.St} {d : D} {v : V} (s : SL K m H τ σ) (i : Nat) (r : RD K m H d v) : SL K m H (τ.set i (some d)) (σ.set i (some v)) := by
  refine ⟨by simpa using s.len, fun j e h => ?_⟩
  by_cases hj : i = j
  · subst hj
    by_cases hl : i < τ.length
    · rw [List.getElem?_set_self hl] at h
      simp only [Option.some.injEq] at h
      subst h
      exact ⟨v, by rw [List.getElem?_set_self (by rw [← s.len]; exact hl)], r⟩
    · rw [List.getElem?_eq_none (by simpa using hl)] at h
      cases h
  · rw [List.getElem?_set_ne hj] at h
    rw [List.getElem?_set_ne hj]
    exact s.get j e h
theorem SS.at {K : KW} {st : Store} {n : Nat} {c : Cell} (s : SS K m st H) (h : st[n]? = some c) : ∃ a, m[n]? = some a ∧ RC K m H a c := by
  have hl : n < m.length := by
    rw [s.len]
    exact (List.getElem?_eq_some_iff.mp h).1
  exact ⟨m[n], by simp, s.cel n c _ h (by simp)⟩
theorem sqT_new {p : Addr} {o : HO} (h : H p = none) {a : Addr} {vs : List V} (s : SqT K H a vs) : SqT K (upd H p o) a vs := by
  rcases s with (s | ⟨ob, s⟩) | s
  · exact .inl (.inl (by rw [upd_ne (ne_of_none s h)]; exact s))
  · exact .inl (.inr ⟨ob, by rw [upd_ne (ne_of_none s h)]; exact s⟩)
  · exact .inr s
theorem sqL_new {p : Addr} {o : HO} (h : H p = none) {a : Addr} {vs : List V} (s : SqL K H a vs) : SqL K (upd H p o) a vs := by
  rcases s with (s | ⟨ob, s⟩) | s
  · exact .inl (.inl (by rw [upd_ne (ne_of_none s h)]; exact s))
  · exact .inl (.inr ⟨ob, by rw [upd_ne (ne_of_none s h)]; exact s⟩)
  · exact .inr s
theorem sqL_ne {p a : Addr} {o : HO} {vs : List V} (h : a ≠ p) (s : SqL K H a vs) : SqL K (upd H p o) a vs := by
  rcases s with (s | ⟨ob, s⟩) | s
  · exact .inl (.inl (by rw [upd_ne h]; exact s))
  · exact .inl (.inr ⟨ob, by rw [upd_ne h]; exact s⟩)
  · exact .inr s
theorem RC.here {K : KW} {a : Addr} {c : Cell} (r : RC K m H a c) : ∃ o, H a = some o := by
  cases c with
  | lst ds =>
    obtain ⟨vs, h, _⟩ := r
    exact ⟨_, h⟩
  | dct kvs =>
    rcases r with ⟨us, h, _⟩ | ⟨xs, h, _⟩ <;> exact ⟨_, h⟩
/-- a new object that the store does not hold -/
theorem Ext.fresh {p : Addr} {o : HO} (h : H p = none) : Ext K m H m (upd H p o) :=
  ⟨⟨fun _ _ h => h, fun _ _ s => sqT_new h s, fun _ _ s => s.new h⟩, fun a ob _ q => by rw [upd_ne (ne_of_none q h)]; exact q, fun _ q n => absurd q n⟩
theorem RC.fresh {K : KW} {p a : Addr} {o : HO} {c : Cell} (h : H p = none) (r : RC K m H a c) : RC K m (upd H p o) a c := by
  cases c with
  | lst ds =>
    obtain ⟨vs, q, r⟩ := r
    exact ⟨vs, by rw [upd_ne (ne_of_none q h)]; exact q, r.mono (Ext.fresh h)⟩
  | dct kvs =>
    rcases r with ⟨us, q, r⟩ | ⟨xs, q, r⟩
    · exact .inl ⟨us, by rw [upd_ne (ne_of_none q h)]; exact q, r.kp (Ext.fresh h).toKp⟩
    · exact .inr ⟨xs, by rw [upd_ne (ne_of_none q h)]; exact q, r.1, r.2.kp (Ext.fresh h).toKp⟩
theorem SS.fresh {K : KW} {p : Addr} {o : HO} {st : Store} (s : SS K m st H) (h : H p = none) : SS K m st (upd H p o) :=
  ⟨s.len, s.nd, fun n c a h1 h2 => (s.cel n c a h1 h2).fresh h⟩
/-- a new object of the store's -/
theorem Ext.app {p : Addr} {o : HO} (h : H p = none) : Ext K m H (m ++ [p]) (upd H p o) where
  pre := fun n a q => by
    rw [List.getElem?_append_left (List.getElem?_eq_some_iff.mp q).1]
    exact q
  tup := fun _ _ s => sqT_new h s
  fzl := fun _ _ s => s.new h
  frm := fun a ob _ q => by rw [upd_ne (ne_of_none q h)]; exact q
  new := fun a q n => by
    rcases List.mem_append.mp q with q | q
    · exact absurd q n
    · have e : a = p := by simpa using q
      rw [e]
      exact h
theorem Ext.grow {p : Addr} : (H p = none) → Ext K m H (m ++ [p]) H := fun h => {
  pre := fun n a q => by
    rw [List.getElem?_append_left (List.getElem?_eq_some_iff.mp q).1]
    exact q
  tup := fun _ _ s => s
  fzl := fun _ _ s => s
  frm := fun a ob _ q => q
  new := fun a q n => by
    rcases List.mem_append.mp q with q | q
    · exact absurd q n
    · have e : a = p := by simpa using q
      rw [e]
      exact h }
theorem RC.kp {K : KW} {a : Addr} {c : Cell} (r : RC K m H a c) (e : Kp K m H m' H') (h : ∀ o, H a = some o → H' a = some o) : RC K m' H' a c := by
  cases c with
  | lst ds =>
    obtain ⟨vs, q, r⟩ := r
    exact ⟨vs, h _ q, r.kp e⟩
  | dct kvs =>
    rcases r with ⟨us, q, r⟩ | ⟨xs, q, r⟩
    · exact .inl ⟨us, h _ q, r.kp e⟩
    · exact .inr ⟨xs, h _ q, r.1, r.2.kp e⟩
theorem Kp.grow {p : Addr} : Kp K m H (m ++ [p]) H := ⟨fun n a q => by
    rw [List.getElem?_append_left (List.getElem?_eq_some_iff.mp q).1]
    exact q, fun _ _ s => s, fun _ _ s => s⟩
/-- an object that is there becomes the store's -/
theorem SS.grow {K : KW} {p : Addr} {c : Cell} {st : Store} (s : SS K m st H) (hp : p ∉ m) (r : RC K (m ++ [p]) H p c) : SS K (m ++ [p]) (st ++ [c]) H where
  len := by simp [s.len]
  nd := by
    rw [List.nodup_append]
    refine ⟨s.nd, by simp, fun a h1 b h2 e => ?_⟩
    have e2 : b = p := by simpa using h2
    rw [e, e2] at h1
    exact hp h1
  cel := fun n d a h1 h2 => by
    by_cases hn : n < st.length
    · rw [List.getElem?_append_left hn] at h1
      rw [List.getElem?_append_left (by rw [s.len]; exact hn)] at h2
      exact (s.cel n d a h1 h2).kp Kp.grow fun _ q => q
    · have hl : n < (st ++ [c]).length := (List.getElem?_eq_some_iff.mp h1).1
      have e : n = st.length := by
        rw [List.length_append, List.length_singleton] at hl
        omega
      subst e
      have e1 : c = d := by simpa using h1
      have e2 : p = a := by
        rw [← s.len] at h2
        simpa using h2
      rw [← e1, ← e2]
      exact r
theorem SS.notin {K : KW} {st : Store} {p : Addr} (s : SS K m st H) (h : H p = none) : p ∉ m := fun q => by
  obtain ⟨n, e⟩ := List.getElem?_of_mem q
  have hl : n < st.length := by
    rw [← s.len]
    exact (List.getElem?_eq_some_iff.mp e).1
  obtain ⟨o, z⟩ := (s.cel n st[n] p (by simp) e).here
  rw [h] at z
  cases z
/-- a list is written -/
theorem Kp.write {p : Addr} {xs : List V} {o : HO} (h : H p = some (.lst xs)) : Kp K m H m (upd H p o) where
  pre := fun _ _ q => q
  tup := fun a vs s => by
    rcases s with (s | ⟨ob, s⟩) | s
    · exact .inl (.inl (by rw [upd_ne (fun e => by rw [e, h] at s; cases s)]; exact s))
    · exact .inl (.inr ⟨ob, by rw [upd_ne (fun e => by rw [e, h] at s; cases s)]; exact s⟩)
    · exact .inr s
  fzl := fun a vs s => by
    rcases s with ⟨ob, s⟩ | s
    · exact .inl ⟨ob, by rw [upd_ne (fun e => by rw [e, h] at s; cases s)]; exact s⟩
    · exact .inr s
/-- a list that is not the store's is written -/
theorem SS.other {K : KW} {st : Store} {p : Addr} {xs : List V} {o : HO} (s : SS K m st H) (h : H p = some (.lst xs)) (hp : p ∉ m) : SS K m st (upd H p o) :=
  ⟨s.len, s.nd, fun n c a h1 h2 => (s.cel n c a h1 h2).kp (Kp.write h) fun ob q => by rw [upd_ne (fun e : a = p => hp (by rw [← e]; exact List.mem_of_getElem? h2))]; exact q⟩
/-- a list of the store's is written -/
theorem Ext.write {n : Nat} {p : Addr} {xs : List V} {o : HO} (h : H p = some (.lst xs)) (hn : m[n]? = some p) : Ext K m H m (upd H p o) :=
  { Kp.write h with
    frm := fun a ob q z => by rw [upd_ne (fun e : a = p => q (by rw [e]; exact List.mem_of_getElem? hn))]; exact z
    new := fun a q n => absurd q n }
theorem SS.write {K : KW} {st : Store} {n : Nat} {p : Addr} {xs ys : List V} {ds : List D} (s : SS K m st H) (h : H p = some (.lst xs)) (hn : m[n]? = some p) (r : RDs K m H ds ys) : SS K m (st.set n (.lst ds)) (upd H p (.lst ys)) where
  len := by rw [List.length_set]; exact s.len
  nd := s.nd
  cel := fun i c a h1 h2 => by
    by_cases hi : n = i
    · subst hi
      rw [hn] at h2
      cases h2
      have hl : n < st.length := by
        rw [← s.len]
        exact (List.getElem?_eq_some_iff.mp hn).1
      rw [List.getElem?_set_self hl] at h1
      cases h1
      exact ⟨ys, upd_same, r.kp (Kp.write h)⟩
    · rw [List.getElem?_set_ne hi] at h1
      refine (s.cel i c a h1 h2).kp (Kp.write h) fun ob q => ?_
      rw [upd_ne fun e => hi ?_]
      · exact q
      · subst e
        obtain ⟨l1, e1⟩ := List.getElem?_eq_some_iff.mp hn
        obtain ⟨l2, e2⟩ := List.getElem?_eq_some_iff.mp h2
        exact (List.getElem_inj s.nd).mp (e1.trans e2.symm)
/-- a thing of the store's is written -/
theorem Kp.writeM {p : Addr} {o : HO} (h : Mut (H p)) : Kp K m H m (upd H p o) where
  pre := fun _ _ q => q
  tup := fun a vs s => by
    rcases s with (s | ⟨ob, s⟩) | s
    · exact .inl (.inl (by rw [upd_ne (fun e => by rw [← e, s] at h; exact h)]; exact s))
    · exact .inl (.inr ⟨ob, by rw [upd_ne (fun e => by rw [← e, s] at h; exact h)]; exact s⟩)
    · exact .inr s
  fzl := fun a vs s => by
    rcases s with ⟨ob, s⟩ | s
    · exact .inl ⟨ob, by rw [upd_ne (fun e => by rw [← e, s] at h; exact h)]; exact s⟩
    · exact .inr s
theorem Ext.writeM {n : Nat} {p : Addr} {o : HO} (h : Mut (H p)) (hn : m[n]? = some p) : Ext K m H m (upd H p o) :=
  { Kp.writeM h with
    frm := fun a ob q z => by rw [upd_ne (fun e : a = p => q (by rw [e]; exact List.mem_of_getElem? hn))]; exact z
    new := fun a q n => absurd q n }
theorem SS.writeM {K : KW} {st : Store} {n : Nat} {p : Addr} {o : HO} {c : Cell} (s : SS K m st H) (h : Mut (H p)) (hn : m[n]? = some p) (r : RC K m (upd H p o) p c) : SS K m (st.set n c) (upd H p o) where
  len := by rw [List.length_set]; exact s.len
  nd := s.nd
  cel := fun i c' a h1 h2 => by
    by_cases hi : n = i
    · subst hi
      rw [hn] at h2
      cases h2
      have hl : n < st.length := by
        rw [← s.len]
        exact (List.getElem?_eq_some_iff.mp hn).1
      rw [List.getElem?_set_self hl] at h1
      cases h1
      exact r
    · rw [List.getElem?_set_ne hi] at h1
      refine (s.cel i c' a h1 h2).kp (Kp.writeM h) fun ob q => ?_
      rw [upd_ne fun e => hi ?_]
      · exact q
      · subst e
        obtain ⟨l1, e1⟩ := List.getElem?_eq_some_iff.mp hn
        obtain ⟨l2, e2⟩ := List.getElem?_eq_some_iff.mp h2
        exact (List.getElem_inj s.nd).mp (e1.trans e2.symm)
end
end HM

/-! HM, part 2: what an evaluation promises; expressions. -/
namespace HM
open PySem PySem.Spec PyProof.Rows L2

/-- an exception and how it flies -/
def XR (K : PySem.W.Frag) (m : List Addr) (H : Hp) (x : Xc) (c : Value) (d : Option Addr) : Prop := match x.cls with
  | .ty n => c = .type n ∧ x.fs = []
  | .adr a => c = .ref a ∧ (x.fs = [] ∨ ∃ da vs, d = some da ∧ H da = some (.xd vs) ∧ Paired (fun (p : Str × D) (q : Str × V) => p.1 = q.1 ∧ RD K m H p.2 q.2) x.fs vs)
  | _ => False
/-- behind an evaluation -/
def Pe {α β : Type} (K : KW) (E : XK) (R : List Addr → Hp → α → β → Prop) (m : List Addr) (H : Hp) (r : ER α) (Q : β → Hp → Prop) : Prop := match r with
  | .ok a st => ∀ m' H' b, Ext K m H m' H' → SS K m' st H' → R m' H' a b → Q b H'
  | .exc x st => ∀ m' H' c d, Ext K m H m' H' → SS K m' st H' → XR K m' H' x c d → E c d H'
  | .bad => False
section
variable {α β γ δ : Type} {K : KW} {E : XK} {R : List Addr → Hp → α → β → Prop} {S : List Addr → Hp → γ → δ → Prop} {m m1 : List Addr} {H H1 : Hp} {r : ER α} {Q : β → Hp → Prop}
theorem Pe.up (h : Pe K E R m H r Q) (e : Ext K m H m1 H1) : Pe K E R m1 H1 r Q := by
  cases r with
  | ok a st => exact fun m' H' b e' s q => h m' H' b (e.trans e') s q
  | exc x st => exact fun m' H' c d e' s q => h m' H' c d (e.trans e') s q
  | bad => exact h
theorem Pe.bind {k : α → Store → ER γ} {Q' : δ → Hp → Prop} (h : Pe K E S m H (r.bind k) Q')
    (hk : ∀ a st m' H' b, Ext K m H m' H' → SS K m' st H' → R m' H' a b → Pe K E S m' H' (k a st) Q' → Q b H') : Pe K E R m H r Q := by
  cases r with
  | ok a st => exact fun m' H' b e s q => hk a st m' H' b e s q (Pe.up h e)
  | exc x st => exact h
  | bad => exact h
theorem Pe.now {a : α} {st : Store} {b : β} (h : Pe K E R m H (.ok a st) Q) (s : SS K m st H) (q : R m H a b) : Q b H := h m H b .refl s q
theorem Pe.imp {Q' : β → Hp → Prop} (h : Pe K E R m H r Q) (hQ : ∀ b H, Q b H → Q' b H) : Pe K E R m H r Q' := by
  cases r with
  | ok a st => exact fun m' H' b e s q => hQ _ _ (h m' H' b e s q)
  | exc x st => exact h
  | bad => exact h
end
abbrev RB : List Addr → Hp → Bool → Bool → Prop := fun _ _ a b => a = b

/-! ### judgements -/
def wE (X : Cx) (e : Expr) : TE := fun σ H Q => ∀ (pins : List (Addr × Obj)) (s : Shared), Inv X pins σ H s → wpAny (model X.prog X.w) X.A (eval e X.env) (EP X pins σ Q) X.xe s
def wT (X : Cx) (e : Expr) : TT := fun σ H Q => ∀ (pins : List (Addr × Obj)) (s : Shared), Inv X pins σ H s → wpAny (model X.prog X.w) X.A (isTrue e X.env (eval e X.env)) (TP X pins σ Q) X.xe s
def wW (X : Cx) (e : Expr) : TT := fun σ H Q => ∀ (whole : Sem Value) (pins : List (Addr × Obj)) (s : Shared), Inv X pins σ H s → wpAny (model X.prog X.w) X.A (isTrue e X.env whole) (TP X pins σ Q) X.xe s
def wA (X : Cx) (es : List Expr) : TA := fun σ H Q => ∀ (pos : Pos) (pins : List (Addr × Obj)) (s : Shared), Inv X pins σ H s → wpAny (model X.prog X.w) X.A (spliced (backTo pos (starEach es X.env))) (AP X pins σ Q) X.xe s
theorem peW {X : Cx} {e : Expr} : PE X e (wE X e) := ⟨fun pins s σ H Q I h => h pins s I⟩
theorem ptW {X : Cx} {e : Expr} : PT X e (wT X e) := ⟨fun pins s σ H Q I h => h pins s I⟩
theorem pwW {X : Cx} {e : Expr} : PW X e (wW X e) := ⟨fun wh pins s σ H Q I h => h wh pins s I⟩
theorem paW {X : Cx} {es : List Expr} : PA X es (wA X es) := ⟨fun pos pins s σ H Q I h => h pos pins s I⟩
/-- an expression -/
structure Ex (X : Cx) (W : WX) (e : Expr) (f : EM D) : Prop where
  run : ∀ (m : List Addr) (τ : Sl) (st : Store) (σ : L2.St) (H : Hp) (Q : VK), SL X.K m H τ σ → SS X.kw m st H → Pe X.kw (fun c d H' => W c d σ H') (RD X.K) m H (f τ st) Q → wE X e σ H Q
/-- a test -/
structure Et (X : Cx) (W : WX) (e : Expr) (f : EM Bool) : Prop where
  run : ∀ (m : List Addr) (τ : Sl) (st : Store) (σ : L2.St) (H : Hp) (Q : Bool → Hp → Prop), SL X.K m H τ σ → SS X.kw m st H → Pe X.kw (fun c d H' => W c d σ H') RB m H (f τ st) Q → wT X e σ H Q
/-- a test whatever its whole is -/
structure Ew (X : Cx) (W : WX) (e : Expr) (f : EM Bool) : Prop where
  run : ∀ (m : List Addr) (τ : Sl) (st : Store) (σ : L2.St) (H : Hp) (Q : Bool → Hp → Prop), SL X.K m H τ σ → SS X.kw m st H → Pe X.kw (fun c d H' => W c d σ H') RB m H (f τ st) Q → wW X e σ H Q
/-- arguments -/
structure Ea (X : Cx) (W : WX) (es : List Expr) (f : EM (List D)) : Prop where
  run : ∀ (m : List Addr) (τ : Sl) (st : Store) (σ : L2.St) (H : Hp) (Q : List V → Hp → Prop), SL X.K m H τ σ → SS X.kw m st H → Pe X.kw (fun c d H' => W c d σ H') (RDs X.K) m H (f τ st) Q → wA X es σ H Q
section
variable {X : Cx} {W : WX} {e a b c : Expr} {es rest : List Expr} {pos : Pos} {f fa fb fc : EM D} {fs : EM (List D)} {g : EM Bool}
theorem Ex.le {f' : EM D} (h : Ex X W e f) (hl : ∀ (m : List Addr) (τ : Sl) (st : Store) (H : Hp) (E : XK) (Q : VK), SS X.kw m st H → Pe X.kw E (RD X.K) m H (f' τ st) Q → Pe X.kw E (RD X.K) m H (f τ st) Q) : Ex X W e f' :=
  ⟨fun m τ st σ H Q hL hS hP => h.run m τ st σ H Q hL hS (hl m τ st H _ Q hS hP)⟩

/-! ### names, constants -/
def eVar (i : Nat) : EM D := fun τ st => match τ[i]? with
  | some (some d) => .ok d st
  | _ => .bad
theorem ex_var {i : Nat} {x : Str} (hN : X.N[i]? = some x) (hv : Vis X.env.scope x) (hd : (x == ("__debug__" : Str)) = false := by decide) (hcd : (x == ("__classdict__" : Str)) = false := by decide) : Ex X W (.Name x pos) (eVar i) := by
  refine ⟨fun m τ st σ H Q hL hS hP pins s I => ?_⟩
  refine (pe_var hN hv hd hcd).run pins s σ H Q I ?_
  unfold eVar at hP
  split at hP
  · rename_i d hd
    obtain ⟨v, h1, h2⟩ := hL.get i d hd
    exact ⟨v, h1, hP.now hS h2⟩
  · exact hP.elim
theorem xv (i : Nat) {x : Str} (hN : X.N[i]? = some x := by rfl) (hv : Vis X.env.scope x := by first | exact Or.inl rfl | exact Or.inr (Or.inl rfl) | exact Or.inr (Or.inr rfl)) (hd : (x == ("__debug__" : Str)) = false := by decide)
    (hcd : (x == ("__classdict__" : Str)) = false := by decide) : Ex X W (.Name x pos) (eVar i) := ex_var hN hv hd hcd
def eC (d : D) : EM D := fun _ st => .ok d st
theorem ex_c {t : TE} {d : D} {v : V} (h : PE X e t) (ht : ∀ σ H Q, Q v H → t σ H Q) (r : ∀ m H, RD X.K m H d v) : Ex X W e (eC d) :=
  ⟨fun m τ st σ H Q hL hS hP pins s I => h.run pins s σ H Q I (ht _ _ _ (hP.now hS (r m H)))⟩
theorem ex_int {i j} : Ex X W (.Constant (.int i) j pos) (eC (.int i)) := ex_c pe_int (fun _ _ _ h => h) fun _ _ => .int i
theorem ex_bl {i j} : Ex X W (.Constant (.bool i) j pos) (eC (.bl i)) := ex_c pe_bl (fun _ _ _ h => h) fun _ _ => .bl i
theorem ex_non {j} : Ex X W (.Constant .none j pos) (eC .non) := ex_c pe_non (fun _ _ _ h => h) fun _ _ => .non
theorem ex_str {x : Str} {j} : Ex X W (.Constant (.str x) j pos) (eC (.str x.cps.toList)) := ex_c pe_str (fun _ _ _ h => h) fun _ _ => by
  have e : x = ⟨x.cps.toList.toArray⟩ := by simp
  exact e ▸ .str x.cps.toList
theorem ex_strc {x : Str} {j} (l : List Nat) (h : x.cps.toList = l) : Ex X W (.Constant (.str x) j pos) (eC (.str l)) := by
  subst h
  exact ex_str
/-- a module's constant -/
theorem ex_glob {x : Str} {v : V} {u : Value} {d : D} (hg : Gl X x) (hm : X.mg x = some u) (r : RelV v u) (rd : ∀ m H, RD X.K m H d v) (hd : (x == ("__debug__" : Str)) = false := by decide) : Ex X W (.Name x pos) (eC d) :=
  ex_c (pe_glob hg hm r hd) (fun _ _ _ h => h) rd
theorem ex_bltn {x : Str} {v : V} {u : Value} {d : D} (hg : Gl X x) (hm : X.mg x = none) (hv : bootBuiltins x = some u) (r : RelV v u) (rd : ∀ m H, RD X.K m H d v) (hn : x ≠ "__name__" := by decide) (hd : (x == ("__debug__" : Str)) = false := by decide) : Ex X W (.Name x pos) (eC d) :=
  ex_c (pe_bltn hg hm hv r hn hd) (fun _ _ _ h => h) rd

/-! ### operators -/
abbrev O1 := D → Store → ER D
abbrev O2 := D → D → Store → ER D
/-- a rule by values -/
def OpM (X : Cx) (W : WX) (f : Value → Value → Sem Value) (g : O2) : Prop :=
  ∀ (m : List Addr) (st : Store) (σ : L2.St) (H : Hp) (dx dy : D) (x y : V) (Q : VK), SS X.kw m st H → RD X.K m H dx x → RD X.K m H dy y → Pe X.kw (fun c d H' => W c d σ H') (RD X.K) m H (g dx dy st) Q →
    ∀ (pins : List (Addr × Obj)) (s : Shared) (v u : Value), Inv X pins σ H s → RelV x v → RelV y u → wpAny (model X.prog X.w) X.A (f v u) (EP X pins σ Q) X.xe s
theorem OpM.opr {F : Value → Value → Sem Value} {g : O2} (h : OpM X W F g) : OpR X F (fun x y H Q => ∀ (pins : List (Addr × Obj)) (s : Shared) (σ : L2.St) (v u : Value), Inv X pins σ H s → RelV x v → RelV y u → wpAny (model X.prog X.w) X.A (F v u) (EP X pins σ Q) X.xe s) :=
  fun pins s σ H x y v u Q I rx ry z => z pins s σ v u I rx ry
def eBin (g : O2) (fa fb : EM D) : EM D := fun τ st => (fa τ st).bind fun x s1 => (fb τ s1).bind fun y s2 => g x y s2
def wR2 (X : Cx) (f : Value → Value → Sem Value) (σ : L2.St) : R2 := fun x y H Q => ∀ (pins : List (Addr × Obj)) (s : Shared) (v u : Value), Inv X pins σ H s → RelV x v → RelV y u → wpAny (model X.prog X.w) X.A (f v u) (EP X pins σ Q) X.xe s
/-- two expressions in a row -/
theorem two {g : D → D → Store → ER α} {α' : Type} {RA : List Addr → Hp → α → α' → Prop} {Q : α' → Hp → Prop} (ha : Ex X W a fa) (hb : Ex X W b fb) {m : List Addr} {τ : Sl} {st : Store} {σ : L2.St} {H : Hp} (hL : SL X.K m H τ σ) (hS : SS X.kw m st H)
    (hP : Pe X.kw (fun c d H' => W c d σ H') RA m H ((fa τ st).bind fun x s1 => (fb τ s1).bind fun y s2 => g x y s2) Q) {R : V → V → Hp → Prop}
    (hk : ∀ (m2 : List Addr) (st2 : Store) (H2 : Hp) (dx dy : D) (x y : V), Ext X.K m H m2 H2 → SS X.kw m2 st2 H2 → RD X.K m2 H2 dx x → RD X.K m2 H2 dy y → Pe X.kw (fun c d H' => W c d σ H') RA m2 H2 (g dx dy st2) Q → R x y H2) :
    wE X a σ H fun x H1 => wE X b σ H1 fun y H2 => R x y H2 :=
  ha.run m τ st σ H _ hL hS (hP.bind fun dx s1 m1 H1 x e1 hS1 r1 hP1 => hb.run m1 τ s1 σ H1 _ (hL.mono e1) hS1 (hP1.bind fun dy s2 m2 H2 y e2 hS2 r2 hP2 => hk m2 s2 H2 dx dy x y (e1.trans e2) hS2 (r1.mono e2) r2 hP2))
theorem ex_op {op : Operator} {g : O2} (ho : OpM X W (binaryOp op) g) (ha : Ex X W a fa) (hb : Ex X W b fb) : Ex X W (.BinOp a op b pos) (eBin g fa fb) := by
  refine ⟨fun m τ st σ H Q hL hS hP pins s I => ?_⟩
  refine wpAny_BinOp (binT peW peW I (R := fun x y H2 => wR2 X (binaryOp op) σ x y H2 Q) (two ha hb hL hS hP fun m2 st2 H2 dx dy x y e2 hS2 r1 r2 hP2 pins s v u I rx ry => ho m2 st2 σ H2 dx dy x y Q hS2 r1 r2 hP2 pins s v u I rx ry) fun v u s2 x y H2 I2 rx ry q => q pins s2 v u I2 rx ry)
end
end HM

/-! HM, part 3: operators by values. -/
namespace HM
open PySem PySem.Spec PyProof.Rows L2
section
variable {X : Cx} {W : WX}
theorem opm_of {f : Value → Value → Sem Value} {r : R2} {g : O2} (hr : OpR X f r) (h : ∀ (m : List Addr) (st : Store) (H : Hp) (dx dy : D) (x y : V) (E : XK) (Q : VK), SS X.kw m st H → RD X.K m H dx x → RD X.K m H dy y → Pe X.kw E (RD X.K) m H (g dx dy st) Q → r x y H Q) : OpM X W f g :=
  fun m st σ H dx dy x y Q hS r1 r2 hP pins s v u I rx ry => hr pins s σ H x y v u Q I rx ry (h m st H dx dy x y _ Q hS r1 r2 hP)
end
section
variable {K : KW} {E : XK} {m : List Addr} {st : Store} {H : Hp} {Q : VK}
/-- a new tuple -/
theorem Pe.tup {ds : List D} {vs : List V} (h : Pe K E (RD K) m H (.ok (.tup ds) st) Q) (s : SS K m st H) (r : RDs K m H ds vs) : ∀ p, H p = none → Q (.ref p) (upd H p (.tup vs)) := fun p hp =>
  h m _ _ (Ext.fresh hp) (s.fresh hp) (.tup (SqT.of upd_same) (r.mono (Ext.fresh hp)))
/-- a new list of the store's -/
theorem SS.app {c : Cell} {p : Addr} {o : HO} (s : SS K m st H) (hp : H p = none) (r : RC K (m ++ [p]) (upd H p o) p c) : SS K (m ++ [p]) (st ++ [c]) (upd H p o) :=
  (s.fresh hp).grow (s.notin hp) r
theorem Pe.lst {ds : List D} {vs : List V} (h : Pe K E (RD K) m H (.ok (.ref st.length) (st ++ [.lst ds])) Q) (s : SS K m st H) (r : RDs K m H ds vs) : ∀ p, H p = none → Q (.ref p) (upd H p (.lst vs)) := fun p hp => by
  refine h (m ++ [p]) _ _ (Ext.app hp) (s.app hp ⟨vs, upd_same, r.mono (Ext.app hp)⟩) (.ref ?_)
  rw [← s.len]
  simp
end
/-- the items of a list -/
def lstAt (st : Store) (n : Nat) : Option (List D) := match st[n]? with
  | some (.lst xs) => some xs
  | _ => none
@[simp] theorem lstAt_app {st : Store} {xs : List D} : lstAt (st ++ [.lst xs]) st.length = some xs := by simp [lstAt]
theorem lstAt_left {st more : Store} {n : Nat} (h : n < st.length) : lstAt (st ++ more) n = lstAt st n := by
  unfold lstAt
  rw [List.getElem?_append_left h]
theorem SS.list {K : KW} {m : List Addr} {st : Store} {H : Hp} {n : Nat} {xs : List D} {a : Addr} (s : SS K m st H) (h : lstAt st n = some xs) (e : m[n]? = some a) : ∃ vs, H a = some (.lst vs) ∧ RDs K m H xs vs := by
  unfold lstAt at h
  split at h
  · rename_i ys q
    cases h
    exact s.cel n _ a q e
  · cases h
theorem lstAt_lt {st : Store} {n : Nat} {xs : List D} (h : lstAt st n = some xs) : n < st.length := by
  unfold lstAt at h
  split at h
  · rename_i q
    exact (List.getElem?_eq_some_iff.mp q).1
  · cases h

/-! ### arithmetic -/
def oAdd : O2 := fun x y st => match x, y with
  | .int i, .int j => .ok (.int (i + j)) st
  | .str a, .str b => if a.length + b.length ≤ 16777216 then .ok (.str (a ++ b)) st else .bad
  | .tup a, .tup b => if a.length + b.length ≤ 16777216 then .ok (.tup (a ++ b)) st else .bad
  | .ref a, .ref b => match lstAt st a, lstAt st b with
    | some xs, some ys => if xs.length + ys.length ≤ 16777216 then .ok (.ref st.length) (st ++ [.lst (xs ++ ys)]) else .bad
    | _, _ => .bad
  | _, _ => .bad
def oInt (g : Int → Int → Int) : O2 := fun x y st => match x, y with
  | .int i, .int j => .ok (.int (g i j)) st
  | _, _ => .bad
def oIntC (C : Int → Int → Bool) (g : Int → Int → Int) : O2 := fun x y st => match x, y with
  | .int i, .int j => if C i j then .ok (.int (g i j)) st else .bad
  | _, _ => .bad
abbrev oSub : O2 := oInt fun i j => i - j
def oIAdd : O2 := fun x y st => match x, y with
  | .int i, .int j => .ok (.int (i + j)) st
  | .str a, .str b => if a.length + b.length ≤ 16777216 then .ok (.str (a ++ b)) st else .bad
  | _, _ => .bad
def okMul (i j : Int) : Bool := decide ((i.natAbs < 18446744073709551616 ∨ j.natAbs < 18446744073709551616) ∨ i.natAbs.log2 + j.natAbs.log2 < 1000000)
def okDiv (_ j : Int) : Bool := decide (j ≠ 0 ∧ j.natAbs.log2 < 9000)
def okMod (_ j : Int) : Bool := decide (j ≠ 0)
def okPow (i j : Int) : Bool := decide (0 ≤ j ∧ j ≤ 1000000 ∧ i.natAbs < 18446744073709551616)
def okShr (_ j : Int) : Bool := decide (0 ≤ j)
abbrev oMulI : O2 := oIntC okMul fun i j => i * j
abbrev oDiv : O2 := oIntC okDiv fun i j => i.fdiv j
abbrev oMod : O2 := oIntC okMod fun i j => i.fmod j
abbrev oPow : O2 := oIntC okPow fun i j => i ^ j.toNat
abbrev oShl : O2 := oIntC okPow fun i j => i * 2 ^ j.toNat
abbrev oShr : O2 := oIntC okShr fun i j => i / 2 ^ j.toNat
abbrev oAnd : O2 := oInt Builtin.bitAnd
section
variable {X : Cx} {W : WX}
theorem line_of {n : Nat} (h : n ≤ 16777216) : n ≤ sizeLine := by
  rw [PySem.sizeLine_eq]
  exact h
theorem op_add_all : OpR X (binaryOp .Add) (fun x y H Q => (rI0 (fun i j => .int (i + j)) x y H Q ∨ (∃ i j, x = .str i ∧ y = .str j ∧ i.length + j.length ≤ sizeLine ∧ Q (.str (i ++ j)) H)) ∨ (rCatA X.K x y H Q ∨ rCat x y H Q)) :=
  (op_add.or op_add_str).or (op_catA.or op_cat)
theorem m_add : OpM X W (binaryOp .Add) oAdd := opm_of op_add_all fun m st H dx dy x y E Q hS r1 r2 hP => by
  unfold oAdd at hP
  split at hP
  · cases r1
    cases r2
    exact .inl (.inl ⟨_, _, rfl, rfl, hP.now hS (.int _)⟩)
  · split at hP
    · rename_i hl
      cases r1
      cases r2
      refine .inl (.inr ⟨_, _, rfl, rfl, line_of hl, ?_⟩)
      have q := hP.now hS (.str _)
      have e : ∀ a b : List Nat, (⟨(a ++ b).toArray⟩ : PySem.Str) = (⟨a.toArray⟩ : PySem.Str) ++ (⟨b.toArray⟩ : PySem.Str) := fun a b => by
        show (⟨(a ++ b).toArray⟩ : PySem.Str) = ⟨a.toArray ++ b.toArray⟩
        simp
      rw [e] at q
      exact q
    · exact hP.elim
  · split at hP
    · rename_i a b hl
      cases r1 with
      | tup s1 h1 =>
        rename_i va
        cases r2 with
        | tup s2 h2 =>
          rename_i vb
          refine .inr (.inl ⟨_, _, _, _, rfl, rfl, s1, s2, line_of (by rw [← h1.len, ← h2.len]; exact hl), fun e => ?_, fun _ e => ?_, fun _ _ => ?_⟩)
          · subst e
            cases h1
            exact hP.now hS (.tup s2 h2)
          · subst e
            cases h2
            rw [List.append_nil] at hP
            exact hP.now hS (.tup s1 h1)
          · exact hP.tup hS (h1.append h2)
    · exact hP.elim
  · rename_i a b
    split at hP
    · rename_i xs ys ex ey
      split at hP
      · rename_i hl
        cases r1 with
        | ref e1 =>
          cases r2 with
          | ref e2 =>
            obtain ⟨va, ha, ra⟩ := hS.list ex e1
            obtain ⟨vb, hb, rb⟩ := hS.list ey e2
            exact .inr (.inr ⟨_, _, va, vb, rfl, rfl, ha, hb, line_of (by rw [← ra.len, ← rb.len]; exact hl), hP.lst hS (ra.append rb)⟩)
      · exact hP.elim
    · exact hP.elim
  · exact hP.elim
theorem m_int {f : Value → Value → Sem Value} {g : Int → Int → Int} (h : OpR X f (rI0 fun i j => .int (g i j))) : OpM X W f (oInt g) := opm_of h fun m st H dx dy x y E Q hS r1 r2 hP => by
  unfold oInt at hP
  split at hP
  · cases r1
    cases r2
    exact ⟨_, _, rfl, rfl, hP.now hS (.int _)⟩
  · exact hP.elim
theorem m_intC {f : Value → Value → Sem Value} {C : Int → Int → Bool} {C' : Int → Int → Prop} {g : Int → Int → Int} (h : OpR X f (rI C' fun i j => .int (g i j))) (hC : ∀ i j, C i j = true → C' i j) : OpM X W f (oIntC C g) := opm_of h fun m st H dx dy x y E Q hS r1 r2 hP => by
  unfold oIntC at hP
  split at hP
  · split at hP
    · rename_i hc
      cases r1
      cases r2
      exact ⟨_, _, rfl, rfl, hC _ _ hc, hP.now hS (.int _)⟩
    · exact hP.elim
  · exact hP.elim
theorem m_sub : OpM X W (binaryOp .Sub) oSub := m_int op_sub
theorem op_mulAny : OpR X (binaryOp .Mult) (rI IntMulOk fun i j => .int (i * j)) := opI fun _ _ _ _ _ _ _ hc q => mul_int q hc
theorem m_mulI : OpM X W (binaryOp .Mult) oMulI := m_intC op_mulAny fun i j h => by
  have q : (i.natAbs < 18446744073709551616 ∨ j.natAbs < 18446744073709551616) ∨ i.natAbs.log2 + j.natAbs.log2 < 1000000 := of_decide_eq_true h
  rcases q with (q | q) | q
  · exact CMul.ok (.inl (by omega))
  · exact CMul.ok (.inr (by omega))
  · exact CMulW.ok q
theorem op_fdivAny : OpR X (binaryOp .FloorDiv) (rI (fun _ j => j ≠ 0 ∧ j.natAbs.log2 < 9000) fun i j => .int (i.fdiv j)) := opI fun _ _ _ _ _ _ _ hc q => floordiv_int hc.1 q (.inl (PyProof.noPylong_of_log2 hc.2))
theorem m_div : OpM X W (binaryOp .FloorDiv) oDiv := m_intC op_fdivAny fun i j h => of_decide_eq_true h
theorem m_mod : OpM X W (binaryOp .Mod) oMod := m_intC op_modN fun i j h => of_decide_eq_true h
theorem ok_pow {i j : Int} (h : okPow i j = true) : CPow i j := by
  have q : 0 ≤ j ∧ j ≤ 1000000 ∧ i.natAbs < 18446744073709551616 := of_decide_eq_true h
  exact q
theorem m_pow : OpM X W (binaryOp .Pow) oPow := m_intC op_pow fun i j h => ok_pow h
theorem m_shl : OpM X W (binaryOp .LShift) oShl := m_intC op_shl fun i j h => ok_pow h
theorem m_shr : OpM X W (binaryOp .RShift) oShr := m_intC op_shr fun i j h => of_decide_eq_true h
theorem m_and : OpM X W (binaryOp .BitAnd) oAnd := m_int op_and
/-- in place -/
theorem mi_add : OpM X W (inplaceOp .Add) oIAdd := opm_of (iop_add.or iop_add_str) fun m st H dx dy x y E Q hS r1 r2 hP => by
  unfold oIAdd at hP
  split at hP
  · cases r1
    cases r2
    exact .inl ⟨_, _, rfl, rfl, hP.now hS (.int _)⟩
  · split at hP
    · rename_i hl
      cases r1
      cases r2
      refine .inr ⟨_, _, rfl, rfl, line_of hl, ?_⟩
      have q := hP.now hS (.str _)
      have e : ∀ a b : List Nat, (⟨(a ++ b).toArray⟩ : PySem.Str) = (⟨a.toArray⟩ : PySem.Str) ++ (⟨b.toArray⟩ : PySem.Str) := fun a b => by
        show (⟨(a ++ b).toArray⟩ : PySem.Str) = ⟨a.toArray ++ b.toArray⟩
        simp
      rw [e] at q
      exact q
    · exact hP.elim
  · exact hP.elim
theorem mi_sub : OpM X W (inplaceOp .Sub) oSub := m_int iop_sub
end

/-! ### == by what is data -/
def D.toP : Nat → D → PyData
  | _, .int i => .int i
  | _, .str x => .str ⟨x.toArray⟩
  | n + 1, .tup xs => .tuple (xs.map (D.toP n))
  | _, .bl b => .bool b
  | _, _ => .none
theorem plain_all {K : PySem.W.Frag} {m : List Addr} {H : Hp} {n : Nat} (ih : ∀ (d : D) (v : V), d.plain n = true → RD K m H d v → Dp K H v (d.toP n) ∧ (d.toP n).canLay0 = true ∧ (d.toP n).depth ≤ n) : ∀ (ds : List D) (vs : List V), ds.all (D.plain n) = true → RDs K m H ds vs →
    DpAll K H vs (ds.map (D.toP n)) ∧ PyData.canLayAll0 (ds.map (D.toP n)) = true ∧ PyData.depthAll (ds.map (D.toP n)) ≤ n
  | [], _, _, r => by
    cases r
    exact ⟨.nil, by simp [PyData.canLayAll0], by simp [PyData.depthAll]⟩
  | d :: ds, _, h, r => by
    cases r with
    | cons r1 r2 =>
      rw [List.all_cons, Bool.and_eq_true] at h
      obtain ⟨a1, a2, a3⟩ := ih d _ h.1 r1
      obtain ⟨b1, b2, b3⟩ := plain_all ih ds _ h.2 r2
      refine ⟨.cons a1 b1, ?_, ?_⟩
      · simp only [List.map_cons, PyData.canLayAll0, a2, b2, Bool.and_self]
      · simp only [List.map_cons, PyData.depthAll]
        omega
theorem str_ok {x : List Nat} {n : Nat} (h : (x.all fun c => decide (c < 1114112)) = true) : ((D.str x).toP n).canLay0 = true := by
  have e : (D.str x).toP n = .str ⟨x.toArray⟩ := by cases n <;> rfl
  rw [e]
  simp only [PyData.canLay0, PyData.strOk]
  simpa using h
theorem plain_dp {K : PySem.W.Frag} {m : List Addr} {H : Hp} : ∀ (n : Nat) (d : D) (v : V), d.plain n = true → RD K m H d v → Dp K H v (d.toP n) ∧ (d.toP n).canLay0 = true ∧ (d.toP n).depth ≤ n := by
  intro n
  induction n with
  | zero =>
    intro d v h r
    cases r <;> simp [D.plain] at h
    · exact ⟨.non, by simp [D.toP, PyData.canLay0], by simp [D.toP, PyData.depth]⟩
    · exact ⟨.int _, by simp [D.toP, PyData.canLay0], by simp [D.toP, PyData.depth]⟩
    · exact ⟨.str _, str_ok (by simpa using h), by simp [D.toP, PyData.depth]⟩
  | succ n ih =>
    intro d v h r
    cases r with
    | non => exact ⟨.non, by simp [D.toP, PyData.canLay0], by simp [D.toP, PyData.depth]⟩
    | int i => exact ⟨.int _, by simp [D.toP, PyData.canLay0], by simp [D.toP, PyData.depth]⟩
    | str x => exact ⟨.str _, str_ok h, by simp [D.toP, PyData.depth]⟩
    | tup s rs =>
      rename_i a vs ds
      obtain ⟨b1, b2, b3⟩ := plain_all ih ds vs h rs
      refine ⟨.tup s b1, by simpa only [D.toP, PyData.canLay0] using b2, ?_⟩
      simp only [D.toP, PyData.depth]
      omega
    | _ => simp [D.plain] at h
theorem eqvAll_map {n : Nat} (ih : ∀ x y : D, x.plain n = true → y.plain n = true → PyData.eqv (x.toP n) (y.toP n) = decide (x = y)) : ∀ xs ys : List D, xs.all (D.plain n) = true → ys.all (D.plain n) = true → PyData.eqvAll (xs.map (D.toP n)) (ys.map (D.toP n)) = decide (xs = ys)
  | [], [], _, _ => by simp [PyData.eqvAll]
  | [], _ :: _, _, _ => by simp [PyData.eqvAll]
  | _ :: _, [], _, _ => by simp [PyData.eqvAll]
  | x :: xs, y :: ys, h1, h2 => by
    rw [List.all_cons, Bool.and_eq_true] at h1 h2
    simp only [List.map_cons, PyData.eqvAll, ih x y h1.1 h2.1, eqvAll_map ih xs ys h1.2 h2.2, List.cons.injEq, Bool.decide_and]
theorem eqv_plain : ∀ (n : Nat) (x y : D), x.plain n = true → y.plain n = true → PyData.eqv (x.toP n) (y.toP n) = decide (x = y) := by
  intro n
  induction n with
  | zero =>
    intro x y h1 h2
    cases x <;> simp [D.plain] at h1 <;> cases y <;> simp [D.plain] at h2 <;> simp [D.toP, PyData.eqv]
    all_goals first | rfl | (rw [Bool.eq_iff_iff]; simp)
  | succ n ih =>
    intro x y h1 h2
    cases x <;> simp only [D.plain, Bool.false_eq_true] at h1 <;> cases y <;> simp only [D.plain, Bool.false_eq_true] at h2 <;> first
      | (simp only [D.toP, PyData.eqv, D.tup.injEq]; exact eqvAll_map ih _ _ h1 h2)
      | (simp only [D.toP, PyData.eqv]; first | rfl | (rw [Bool.eq_iff_iff]; simp))
/-- a value as data that == compares: one by itself, or a list -/
def D.pd (st : Store) (d : D) : Option (D ⊕ List D) := match d with
  | .ref n => match lstAt st n with
    | some xs => if xs.all (D.plain 59) then some (.inr xs) else none
    | none => none
  | .rol xs => if xs.all (D.plain 59) then some (.inr xs) else none
  | d => if d.plain 60 then some (.inl d) else none
def pdP : D ⊕ List D → PyData
  | .inl d => d.toP 60
  | .inr xs => .list (xs.map (D.toP 59))
theorem pd_dp {K : KW} {m : List Addr} {st : Store} {H : Hp} {d : D} {v : V} {p : D ⊕ List D} (s : SS K m st H) (h : d.pd st = some p) (r : RD K m H d v) : Dp K H v (pdP p) ∧ SeqAt.shaped (pdP p) = true := by
  have fin : ∀ {q : PyData}, q.canLay0 = true → q.depth ≤ 60 → SeqAt.shaped q = true := fun {q} h1 h2 => by
    unfold SeqAt.shaped
    rw [h1, Bool.true_and, decide_eq_true_eq]
    omega
  have one : ∀ {d : D}, RD K m H d v → d.plain 60 = true → Dp K H v (d.toP 60) ∧ SeqAt.shaped (d.toP 60) = true := fun {d} r h => by
    obtain ⟨a, b, c⟩ := plain_dp 60 d v h r
    exact ⟨a, fin b c⟩
  have lst : ∀ {xs : List D} {vs : List V} {a : Addr}, SqL K H a vs → RDs K m H xs vs → xs.all (D.plain 59) = true → Dp K H (.ref a) (.list (xs.map (D.toP 59))) ∧ SeqAt.shaped (.list (xs.map (D.toP 59))) = true := fun {xs vs a} hl rs h => by
    obtain ⟨a, b, c⟩ := plain_all (plain_dp 59) xs vs h rs
    refine ⟨.lst hl a, fin (by simpa only [PyData.canLay0] using b) ?_⟩
    simp only [PyData.depth]
    omega
  unfold D.pd at h
  split at h
  · split at h
    · split at h
      · rename_i n _ xs e ha
        cases h
        cases r with
        | ref q =>
          obtain ⟨vs, h1, h2⟩ := s.list e q
          exact lst (SqL.of h1) h2 ha
      · cases h
    · cases h
  · split at h
    · rename_i ha
      cases h
      cases r with
      | rol q rs => exact lst q.sq rs ha
    · cases h
  · split at h
    · rename_i ha
      cases h
      exact one r ha
    · cases h
theorem pd_ok {st : Store} {d : D} {p : D ⊕ List D} (h : d.pd st = some p) : (∃ e : D, p = .inl e ∧ e.plain 60 = true) ∨ ∃ xs : List D, p = .inr xs ∧ xs.all (D.plain 59) = true := by
  unfold D.pd at h
  split at h
  · split at h
    · split at h
      · cases h
        exact .inr ⟨_, rfl, by assumption⟩
      · cases h
    · cases h
  · split at h
    · cases h
      exact .inr ⟨_, rfl, by assumption⟩
    · cases h
  · split at h
    · cases h
      exact .inl ⟨_, rfl, by assumption⟩
    · cases h
theorem pd_eqv {st st' : Store} {d e : D} {p q : D ⊕ List D} (h : d.pd st = some p) (h' : e.pd st' = some q) : PyData.eqv (pdP p) (pdP q) = decide (p = q) := by
  rcases pd_ok h with ⟨x, rfl, hx⟩ | ⟨xs, rfl, hx⟩
  · rcases pd_ok h' with ⟨y, rfl, hy⟩ | ⟨ys, rfl, hy⟩
    · show PyData.eqv (x.toP 60) (y.toP 60) = _
      rw [eqv_plain 60 x y hx hy]
      simp
    · show PyData.eqv (x.toP 60) _ = _
      cases x <;> simp [D.plain] at hx <;> simp [D.toP, pdP, PyData.eqv]
  · rcases pd_ok h' with ⟨y, rfl, hy⟩ | ⟨ys, rfl, hy⟩
    · show PyData.eqv _ (y.toP 60) = _
      cases y <;> simp [D.plain] at hy <;> simp [D.toP, pdP, PyData.eqv]
    · show PyData.eqvAll (xs.map (D.toP 59)) (ys.map (D.toP 59)) = _
      rw [eqvAll_map (eqv_plain 59) xs ys hx hy]
      simp
def dEq (x y : D) (st : Store) : Option Bool := match x, y with
  | .str a, .str b => some (decide (a = b))
  | .bl a, .bl b => some (decide (a = b))
  | .int a, .int b => some (decide (a = b))
  | .bl a, .int b => some (decide ((if a then 1 else 0) = b))
  | .int a, .bl b => some (decide (a = (if b then 1 else 0)))
  | x, y => match x.pd st, y.pd st with
    | some p, some q => some (decide (p = q))
    | _, _ => none
def oEq : O2 := fun x y st => match dEq x y st with
  | some b => .ok (.bl b) st
  | none => .bad
def oNe : O2 := fun x y st => match dEq x y st with
  | some b => .ok (.bl !b) st
  | none => .bad
section
variable {X : Cx} {W : WX}
theorem m_eqB {op : CmpOp} {neg : Bool → Bool} {r1 r2 : R2} (h1 : OpR X (compareOp op) r1) (h2 : OpR X (compareOp op) r2) (s1 : ∀ x y H Q, scal x y = true → Q (.bl (neg (decide (x = y)))) H → r1 x y H Q)
    (s2 : ∀ x y H Q d e, Dp X.K H x d → Dp X.K H y e → SeqAt.shaped d = true → SeqAt.shaped e = true → Q (.bl (neg (PyData.eqv d e))) H → r2 x y H Q) : OpM X W (compareOp op) (fun x y st => match dEq x y st with
    | some b => .ok (.bl (neg b)) st
    | none => .bad) := opm_of (h1.or h2) fun m st H dx dy x y E Q hS ra rb hP => by
  split at hP
  · rename_i b hb
    have q := hP.now hS (.bl _)
    unfold dEq at hb
    split at hb
    · cases ra
      cases rb
      cases hb
      refine .inl (s1 _ _ _ _ rfl ?_)
      simpa using q
    · cases ra
      cases rb
      cases hb
      refine .inl (s1 _ _ _ _ rfl ?_)
      simpa using q
    · cases ra
      cases rb
      cases hb
      refine .inl (s1 _ _ _ _ rfl ?_)
      simpa using q
    · cases ra
      cases rb
      cases hb
      refine .inr (s2 _ _ _ _ _ _ (.bl _) (.int _) rfl rfl ?_)
      simpa [PyData.eqv, Bool.beq_eq_decide_eq] using q
    · cases ra
      cases rb
      cases hb
      refine .inr (s2 _ _ _ _ _ _ (.int _) (.bl _) rfl rfl ?_)
      simpa [PyData.eqv, Bool.beq_eq_decide_eq] using q
    · split at hb
      · rename_i p q' e1 e2
        cases hb
        obtain ⟨a1, a2⟩ := pd_dp hS e1 ra
        obtain ⟨b1, b2⟩ := pd_dp hS e2 rb
        refine .inr (s2 _ _ _ _ _ _ a1 b1 a2 b2 ?_)
        rw [pd_eqv e1 e2]
        exact q
      · cases hb
  · exact hP.elim
theorem m_eq (hu : X.A.units + 64 < cLine) : OpM X W (compareOp .Eq) oEq := m_eqB (neg := id) op_eq (op_eqD hu) (fun x y H Q h q => ⟨h, q⟩) fun x y H Q d e h1 h2 h3 h4 q => ⟨d, e, h1, h2, h3, h4, q⟩
theorem m_ne (hu : X.A.units + 64 < cLine) : OpM X W (compareOp .NotEq) oNe := m_eqB (neg := Bool.not) op_ne (op_neD hu) (fun x y H Q h q => ⟨h, q⟩) fun x y H Q d e h1 h2 h3 h4 q => ⟨d, e, h1, h2, h3, h4, q⟩
/-! ### order of ints, is -/
def oCmp (g : Int → Int → Bool) : O2 := fun x y st => match x, y with
  | .int i, .int j => .ok (.bl (g i j)) st
  | _, _ => .bad
theorem m_cmp {f : Value → Value → Sem Value} {g : Int → Int → Bool} (h : OpR X f (rI0 fun i j => .bl (g i j))) : OpM X W f (oCmp g) := opm_of h fun m st H dx dy x y E Q hS r1 r2 hP => by
  unfold oCmp at hP
  split at hP
  · cases r1
    cases r2
    exact ⟨_, _, rfl, rfl, hP.now hS (.bl _)⟩
  · exact hP.elim
abbrev oLtI : O2 := oCmp fun i j => decide (i < j)
abbrev oLe : O2 := oCmp fun i j => decide (i ≤ j)
abbrev oGt : O2 := oCmp fun i j => decide (j < i)
abbrev oGe : O2 := oCmp fun i j => decide (j ≤ i)
theorem m_ltI : OpM X W (compareOp .Lt) oLtI := m_cmp op_lt
theorem m_le : OpM X W (compareOp .LtE) oLe := m_cmp op_le
theorem m_gt : OpM X W (compareOp .Gt) oGt := m_cmp op_gt
theorem m_ge : OpM X W (compareOp .GtE) oGe := m_cmp op_ge
def dIs (x y : D) : Option Bool := match x, y with
  | .non, .non => some true
  | .bl _, .non | .int _, .non | .str _, .non | .tup _, .non | .ref _, .non | .rol _, .non => some false
  | .bl a, .bl b => some (decide (a = b))
  | _, _ => none
def oIs : O2 := fun x y st => match dIs x y with
  | some b => .ok (.bl b) st
  | none => .bad
def oIsNot : O2 := fun x y st => match dIs x y with
  | some b => .ok (.bl !b) st
  | none => .bad
theorem m_isB {op : CmpOp} {neg : Bool → Bool} {r1 r2 : R2} (h1 : OpR X (compareOp op) r1) (h2 : OpR X (compareOp op) r2) (s1 : ∀ x H (Q : VK), Q (.bl (neg (decide (x = .non)))) H → r1 x .non H Q)
    (s2 : ∀ a b H (Q : VK), Q (.bl (neg (decide (a = b)))) H → r2 (.bl a) (.bl b) H Q) : OpM X W (compareOp op) (fun x y st => match dIs x y with
    | some b => .ok (.bl (neg b)) st
    | none => .bad) := opm_of (h1.or h2) fun m st H dx dy x y E Q hS ra rb hP => by
  split at hP
  · rename_i b hb
    have q := hP.now hS (.bl _)
    unfold dIs at hb
    split at hb <;> cases hb <;> cases ra <;> cases rb <;> first | exact .inl (s1 _ _ _ q) | exact .inr (s2 _ _ _ _ q)
  · exact hP.elim
theorem m_is : OpM X W (compareOp .Is) oIs := m_isB (neg := id) op_isN op_is_bl (fun x H Q q => ⟨rfl, q⟩) fun a b H Q q => ⟨_, _, rfl, rfl, q⟩
theorem m_isnot : OpM X W (compareOp .IsNot) oIsNot := m_isB (neg := Bool.not) op_notN op_isnot_bl (fun x H Q q => ⟨rfl, q⟩) fun a b H Q q => ⟨_, _, rfl, rfl, q⟩
end
end HM

/-! HM, part 4: expressions. -/
namespace HM
open PySem PySem.Spec PyProof.Rows L2
section
variable {X : Cx} {W : WX} {e a b c : Expr} {es rest : List Expr} {pos : Pos} {f fa fb fc : EM D} {fs : EM (List D)} {g ga gb : EM Bool}

/-! ### unary, comparisons -/
def eUn (o : O1) (fa : EM D) : EM D := fun τ st => (fa τ st).bind o
def UnM (X : Cx) (W : WX) (F : Value → Sem Value) (g : O1) : Prop :=
  ∀ (m : List Addr) (st : Store) (σ : L2.St) (H : Hp) (dx : D) (x : V) (Q : VK), SS X.kw m st H → RD X.K m H dx x → Pe X.kw (fun c d H' => W c d σ H') (RD X.K) m H (g dx st) Q →
    ∀ (pins : List (Addr × Obj)) (s : Shared) (v : Value), Inv X pins σ H s → RelV x v → wpAny (model X.prog X.w) X.A (F v) (EP X pins σ Q) X.xe s
theorem ex_un {op : UnaryOp} {o : O1} (ho : UnM X W (unaryOp op) o) (ha : Ex X W a fa) : Ex X W (.UnaryOp op a pos) (eUn o fa) := by
  refine ⟨fun m τ st σ H Q hL hS hP pins s I => ?_⟩
  refine UnaryOp_ (thn (ha.run m τ st σ H (fun x H1 => ∀ (pins : List (Addr × Obj)) (s : Shared) (v : Value), Inv X pins σ H1 s → RelV x v → wpAny (model X.prog X.w) X.A (unaryOp op v) (EP X pins σ Q) X.xe s) hL hS (hP.bind fun dx s1 m1 H1 x e1 hS1 r1 hP1 pins s v I rx => ho m1 s1 σ H1 dx x Q hS1 r1 hP1 pins s v I rx) pins s I) fun v s1 ⟨x, H1, I1, r1, q1⟩ => q1 pins s1 v I1 r1)
def oNeg : O1 := fun x st => match x with
  | .int i => .ok (.int (-i)) st
  | _ => .bad
theorem m_neg : UnM X W (unaryOp .USub) oNeg := fun m st σ H dx x Q hS r hP pins s v I rx => by
  unfold oNeg at hP
  split at hP
  · cases r
    exact un_neg pins s σ H _ v Q I rx ⟨_, rfl, hP.now hS (.int _)⟩
  · exact hP.elim
theorem ex_cmp {op : CmpOp} {o : O2} (ho : OpM X W (compareOp op) o) (ha : Ex X W a fa) (hb : Ex X W b fb) (hm : behindInMarks op b = false) : Ex X W (.Compare a [op] [b] pos) (eBin o fa fb) := by
  refine ⟨fun m τ st σ H Q hL hS hP pins s I => ?_⟩
  exact wpAny_Compare1 (binT peW peW I (R := fun x y H2 => wR2 X (compareOp op) σ x y H2 Q) (two ha hb hL hS hP fun m2 st2 H2 dx dy x y e2 hS2 r1 r2 hP2 pins s v u I rx ry => ho m2 st2 σ H2 dx dy x y Q hS2 r1 r2 hP2 pins s v u I rx ry) fun v u s2 x y H2 I2 rx ry q => q pins s2 v u I2 rx ry) hm
/-- a bool as a test -/
def dBl (x : D) (st : Store) : ER Bool := match x with
  | .bl b => .ok b st
  | _ => .bad
def tBl (fa : EM D) : EM Bool := fun τ st => (fa τ st).bind dBl
theorem bl_post {K : KW} {E : XK} {m : List Addr} {H : Hp} {dx : D} {s1 : Store} {x : V} {Q : Bool → Hp → Prop} (hS : SS K m s1 H) (r : RD K m H dx x) (hP : Pe K E RB m H (dBl dx s1) Q) : ∃ k, x = .bl k ∧ Q k H := by
  unfold dBl at hP
  split at hP
  · cases r
    exact ⟨_, rfl, hP.now hS rfl⟩
  · exact hP.elim
theorem et_cmp {op : CmpOp} {o : O2} (ho : OpM X W (compareOp op) o) (ha : Ex X W a fa) (hb : Ex X W b fb) (hm : behindInMarks op b = false) : Et X W (.Compare a [op] [b] pos) (tBl (eBin o fa fb)) := by
  refine ⟨fun m τ st σ H Q hL hS hP pins s I => ?_⟩
  have q : wE X (.Compare a [op] [b] pos) σ H fun x H1 => ∃ k, x = .bl k ∧ Q k H1 := (ex_cmp ho ha hb hm).run m τ st σ H _ hL hS (hP.bind fun dx s1 m1 H1 x e1 hS1 r1 hP1 => bl_post hS1 r1 hP1)
  refine wpAny_isTrue_Compare1 (binT peW peW I (R := fun x y H2 => wR2 X (compareOp op) σ x y H2 fun x H1 => ∃ k, x = .bl k ∧ Q k H1) ?_ fun v u s2 x y H2 I2 rx ry q => thn (q pins s2 v u I2 rx ry) fun c s3 ⟨x, H1, I1, r1, q1⟩ => ?_) hm
  · have hP' : Pe X.kw (fun c d H' => W c d σ H') (RD X.K) m H (eBin o fa fb τ st) fun x H1 => ∃ k, x = .bl k ∧ Q k H1 := hP.bind fun dx s1 m1 H1 x e1 hS1 r1 hP1 => bl_post hS1 r1 hP1
    exact two ha hb hL hS hP' fun m2 st2 H2 dx dy x y e2 hS2 r1 r2 hP2 pins s v u I rx ry => ho m2 st2 σ H2 dx dy x y _ hS2 r1 r2 hP2 pins s v u I rx ry
  · obtain ⟨k, rfl, q1⟩ := q1
    cases r1
    exact wpAny_truthy_bool ⟨H1, I1, q1⟩
/-- a chain of two comparisons -/
def eChain (o o' : O2) (fa fb fc : EM D) : EM D := fun τ st => (fa τ st).bind fun x s1 => (fb τ s1).bind fun y s2 => (o x y s2).bind fun z s3 => match z with
  | .bl true => (fc τ s3).bind fun w s4 => o' y w s4
  | .bl false => .ok (.bl false) s3
  | _ => .bad
theorem chain_read {op op' : CmpOp} {o o' : O2} (ho : OpM X W (compareOp op) o) (ho' : OpM X W (compareOp op') o') (ha : Ex X W a fa) (hb : Ex X W b fb) (hc : Ex X W c fc) {m : List Addr} {τ : Sl} {st : Store} {σ : L2.St} {H : Hp} {Q : VK} (hL : SL X.K m H τ σ) (hS : SS X.kw m st H)
    (hP : Pe X.kw (fun c d H' => W c d σ H') (RD X.K) m H (eChain o o' fa fb fc τ st) Q) : tChain (fun x y H Q => wR2 X (compareOp op) σ x y H Q) (fun x y H Q => wR2 X (compareOp op') σ x y H Q) (wE X a) (wE X b) (wE X c) σ H Q := by
  refine two ha hb hL hS hP fun m2 st2 H2 dx dy x y e2 hS2 r1 r2 hP2 pins s v u I rx ry => ?_
  refine ho m2 st2 σ H2 dx dy x y _ hS2 r1 r2 (hP2.bind fun dz s3 m3 H3 z e3 hS3 r3 hP3 => ?_) pins s v u I rx ry
  split at hP3
  · cases r3
    refine ⟨true, rfl, ?_⟩
    rw [if_pos rfl]
    exact hc.run m3 τ s3 σ H3 _ (hL.mono (e2.trans e3)) hS3 (hP3.bind fun dw s4 m4 H4 w e4 hS4 r4 hP4 pins s v u I rx ry => ho' m4 s4 σ H4 dy dw y w Q hS4 ((r2.mono e3).mono e4) r4 hP4 pins s v u I rx ry)
  · cases r3
    refine ⟨false, rfl, ?_⟩
    rw [if_neg Bool.false_ne_true]
    exact hP3.now hS3 (.bl _)
  · exact hP3.elim
/-- a rule of the layer's whose premises may speak of the slots at hand -/
theorem oprS {F : Value → Value → Sem Value} {σ : L2.St} : ∀ (pins : List (Addr × Obj)) (s : Shared) (H : Hp) (x y : V) (v u : Value) (Q : VK), Inv X pins σ H s → RelV x v → RelV y u → wR2 X F σ x y H Q → wpAny (model X.prog X.w) X.A (F v u) (EP X pins σ Q) X.xe s :=
  fun pins s H x y v u Q I rx ry q => q pins s v u I rx ry
theorem ex_chain {op op' : CmpOp} {o o' : O2} (ho : OpM X W (compareOp op) o) (ho' : OpM X W (compareOp op') o') (ha : Ex X W a fa) (hb : Ex X W b fb) (hc : Ex X W c fc) (hm : lastMarks [op, op'] [b, c] = false := by with_unfolding_all rfl) : Ex X W (.Compare a [op, op'] [b, c] pos) (eChain o o' fa fb fc) := by
  refine ⟨fun m τ st σ H Q hL hS hP pins s I => ?_⟩
  have h := chain_read ho ho' ha hb hc hL hS hP
  refine Compare_chain (thn (peW.run pins s σ H _ I h) fun v s1 ⟨x, H1, I1, r1, q1⟩ => chain_link (thn (peW.run pins s1 σ H1 _ I1 q1) fun u s2 ⟨y, H2, I2, r2, q2⟩ =>
    thn (q2 pins s2 v u I2 r1 r2) fun d s3 ⟨z, H3, I3, r3, k, e, q3⟩ => ?_)) hm
  subst e
  cases r3
  refine wpAny_truthy_bool ?_
  cases k with
  | false => exact ite_ff ⟨.bl false, H3, I3, rfl, q3⟩
  | true => exact ite_tt (chain_last (thn (peW.run pins s3 σ H3 _ I3 q3) fun w' s4 ⟨z', H4, I4, r4, q4⟩ => q4 pins s4 u w' I4 r2 r4))
theorem et_chain {op op' : CmpOp} {o o' : O2} (ho : OpM X W (compareOp op) o) (ho' : OpM X W (compareOp op') o') (ha : Ex X W a fa) (hb : Ex X W b fb) (hc : Ex X W c fc) (hm : lastMarks [op, op'] [b, c] = false := by with_unfolding_all rfl) : Et X W (.Compare a [op, op'] [b, c] pos) (tBl (eChain o o' fa fb fc)) := by
  refine ⟨fun m τ st σ H Q hL hS hP pins s I => ?_⟩
  have hP' : Pe X.kw (fun c d H' => W c d σ H') (RD X.K) m H (eChain o o' fa fb fc τ st) fun x H1 => ∃ k, x = .bl k ∧ Q k H1 := hP.bind fun dx s1 m1 H1 x e1 hS1 r1 hP1 => bl_post hS1 r1 hP1
  have h := chain_read ho ho' ha hb hc hL hS hP'
  refine isTrue_chain (thn (peW.run pins s σ H _ I h) fun v s1 ⟨x, H1, I1, r1, q1⟩ => test_link (thn (peW.run pins s1 σ H1 _ I1 q1) fun u s2 ⟨y, H2, I2, r2, q2⟩ =>
    thn (q2 pins s2 v u I2 r1 r2) fun d s3 ⟨z, H3, I3, r3, k, e, q3⟩ => ?_)) hm
  subst e
  cases r3
  refine wpAny_truthy_bool ?_
  cases k with
  | false =>
    obtain ⟨k', e', q'⟩ := q3
    cases e'
    exact ite_ff ⟨H3, I3, q'⟩
  | true =>
    refine ite_tt (test_last (thn (peW.run pins s3 σ H3 _ I3 q3) fun w' s4 ⟨z', H4, I4, r4, q4⟩ => thn (q4 pins s4 u w' I4 r2 r4) fun d' s5 ⟨z2, H5, I5, r5, k2, e2, q5⟩ => ?_))
    subst e2
    cases r5
    exact wpAny_truthy_bool ⟨H5, I5, q5⟩

/-! ### tests -/
/-- a value's truth -/
def dTru (st : Store) : D → Option Bool
  | .non => some false
  | .bl b => some b
  | .int i => some (i != 0)
  | .str x => if x.length ≤ 16777216 then some (!x.isEmpty) else none
  | .tup xs => some (!xs.isEmpty)
  | .rol xs => some (!xs.isEmpty)
  | .ref n => (lstAt st n).map fun xs => !xs.isEmpty
  | _ => none
def tVal (fa : EM D) : EM Bool := fun τ st => (fa τ st).bind fun x s1 => match dTru s1 x with
  | some b => .ok b s1
  | none => .bad
theorem empty_of {K : PySem.W.Frag} {m : List Addr} {H : Hp} {ds : List D} {vs : List V} (r : RDs K m H ds vs) : ds.isEmpty = vs.isEmpty := by
  cases r <;> rfl
theorem tru_read {K : KW} {m : List Addr} {st : Store} {H : Hp} {d : D} {v : V} {b : Bool} (s : SS K m st H) (h : dTru st d = some b) (r : RD K m H d v) : TruV K v H b := by
  cases r with
  | non =>
    cases h
    exact rfl
  | bl b =>
    cases h
    exact rfl
  | int i =>
    cases h
    exact rfl
  | str x =>
    have h : (if x.length ≤ 16777216 then some (!x.isEmpty) else none) = some b := h
    split at h
    · rename_i hl
      cases h
      refine ⟨line_of (by simpa [PySem.Str.length] using hl), ?_⟩
      cases x with
      | nil => rfl
      | cons c x =>
        have e : ((⟨(c :: x).toArray⟩ : PySem.Str).length : Int) ≠ 0 := by
          show (((c :: x).toArray.size : Nat) : Int) ≠ 0
          rw [List.size_toArray, List.length_cons]
          omega
        simp [PySem.Str.length]
        omega
    · cases h
  | tup q rs =>
    cases h
    exact .inr (.inl ⟨_, q, by rw [empty_of rs]⟩)
  | rol q rs =>
    cases h
    exact .inl ⟨_, q.sq, by rw [empty_of rs]⟩
  | ref q =>
    unfold dTru at h
    simp only [Option.map_eq_some_iff] at h
    obtain ⟨xs, e, rfl⟩ := h
    obtain ⟨vs, h1, h2⟩ := s.list e q
    exact .inl ⟨vs, SqL.of h1, by rw [empty_of h2]⟩
  | _ => cases h
theorem et_val (ha : Ex X W a fa) (he : ∀ whole, isTrue a X.env whole = (do let v ← whole; standAt a.pos; holding [v] (truthy v)) := by intro _; rfl) : Et X W a (tVal fa) := by
  refine ⟨fun m τ st σ H Q hL hS hP pins s I => ?_⟩
  refine isTrue_plain (thn (ha.run m τ st σ H (fun x H' => ∃ k, TruV X.K x H' k ∧ Q k H') hL hS (hP.bind fun dx s1 m1 H1 x e1 hS1 r1 hP1 => ?_) pins s I) fun v s1 ⟨x, H1, I1, r1, q1⟩ => tru_ok pins s1 σ H1 x v Q I1 r1 q1) (he _)
  split at hP1
  · rename_i k hk
    exact ⟨k, tru_read hS1 hk r1, hP1.now hS1 rfl⟩
  · exact hP1.elim
def tAnd (ga gb : EM Bool) : EM Bool := fun τ st => (ga τ st).bind fun x s1 => if x then gb τ s1 else .ok false s1
def tOr (ga gb : EM Bool) : EM Bool := fun τ st => (ga τ st).bind fun x s1 => if x then .ok true s1 else gb τ s1
def tNot (ga : EM Bool) : EM Bool := fun τ st => (ga τ st).bind fun x s1 => .ok (!x) s1
theorem Ew.et (h : Ew X W e g) : Et X W e g := ⟨fun m τ st σ H Q hL hS hP pins s I => h.run m τ st σ H Q hL hS hP _ pins s I⟩
theorem ew_and1 (ha : Et X W a ga) : Ew X W (.BoolOp .And [a] pos) ga := ⟨fun m τ st σ H Q hL hS hP wh pins s I => (pw_and1 ptW).run wh pins s σ H Q I (ha.run m τ st σ H Q hL hS hP)⟩
theorem ew_or1 (ha : Et X W a ga) : Ew X W (.BoolOp .Or [a] pos) ga := ⟨fun m τ st σ H Q hL hS hP wh pins s I => (pw_or1 ptW).run wh pins s σ H Q I (ha.run m τ st σ H Q hL hS hP)⟩
theorem ew_and (ha : Et X W a ga) (hb : Ew X W (.BoolOp .And (b :: rest) pos) gb) : Ew X W (.BoolOp .And (a :: b :: rest) pos) (tAnd ga gb) := by
  refine ⟨fun m τ st σ H Q hL hS hP wh pins s I => (pw_and ptW pwW).run wh pins s σ H Q I ?_⟩
  refine ha.run m τ st σ H _ hL hS (hP.bind fun dx s1 m1 H1 x e1 hS1 r1 hP1 => ?_)
  subst r1
  cases dx with
  | true => exact iteT (hb.run m1 τ s1 σ H1 Q (hL.mono e1) hS1 hP1)
  | false => exact iteF (hP1.now hS1 rfl)
theorem ew_or (ha : Et X W a ga) (hb : Ew X W (.BoolOp .Or (b :: rest) pos) gb) : Ew X W (.BoolOp .Or (a :: b :: rest) pos) (tOr ga gb) := by
  refine ⟨fun m τ st σ H Q hL hS hP wh pins s I => (pw_or ptW pwW).run wh pins s σ H Q I ?_⟩
  refine ha.run m τ st σ H _ hL hS (hP.bind fun dx s1 m1 H1 x e1 hS1 r1 hP1 => ?_)
  subst r1
  cases dx with
  | true => exact iteT (hP1.now hS1 rfl)
  | false => exact iteF (hb.run m1 τ s1 σ H1 Q (hL.mono e1) hS1 hP1)
theorem et_not (ha : Et X W a ga) : Et X W (.UnaryOp .Not a pos) (tNot ga) := by
  refine ⟨fun m τ st σ H Q hL hS hP pins s I => (pt_not ptW).run pins s σ H Q I ?_⟩
  refine ha.run m τ st σ H _ hL hS (hP.bind fun dx s1 m1 H1 x e1 hS1 r1 hP1 => ?_)
  subst r1
  exact hP1.now hS1 rfl
/-! ### and, or, not as values -/
def eAnd (fa fb : EM D) : EM D := fun τ st => (fa τ st).bind fun x s1 => match dTru s1 x with
  | some true => fb τ s1
  | some false => .ok x s1
  | none => .bad
def eOr (fa fb : EM D) : EM D := fun τ st => (fa τ st).bind fun x s1 => match dTru s1 x with
  | some true => .ok x s1
  | some false => fb τ s1
  | none => .bad
def eNot (fa : EM D) : EM D := fun τ st => (fa τ st).bind fun x s1 => match dTru s1 x with
  | some b => .ok (.bl !b) s1
  | none => .bad
theorem ex_one {op} (h : Ex X W a fa) : Ex X W (.BoolOp op [a] pos) fa := ⟨fun m τ st σ H Q hL hS hP pins s I => BoolOp_one (h.run m τ st σ H Q hL hS hP pins s I)⟩
theorem ex_and (ha : Ex X W a fa) (hb : Ex X W (.BoolOp .And (b :: rest) pos) fb) : Ex X W (.BoolOp .And (a :: b :: rest) pos) (eAnd fa fb) := by
  refine ⟨fun m τ st σ H Q hL hS hP pins s I => (pe_andT peW peW).run pins s σ H Q I ?_⟩
  refine ha.run m τ st σ H _ hL hS (hP.bind fun dx s1 m1 H1 x e1 hS1 r1 hP1 => ?_)
  split at hP1
  · rename_i hk
    exact ⟨true, tru_read hS1 hk r1, iteT (hb.run m1 τ s1 σ H1 Q (hL.mono e1) hS1 hP1)⟩
  · rename_i hk
    exact ⟨false, tru_read hS1 hk r1, iteF (hP1.now hS1 r1)⟩
  · exact hP1.elim
theorem ex_or (ha : Ex X W a fa) (hb : Ex X W (.BoolOp .Or (b :: rest) pos) fb) : Ex X W (.BoolOp .Or (a :: b :: rest) pos) (eOr fa fb) := by
  refine ⟨fun m τ st σ H Q hL hS hP pins s I => (pe_orT peW peW).run pins s σ H Q I ?_⟩
  refine ha.run m τ st σ H _ hL hS (hP.bind fun dx s1 m1 H1 x e1 hS1 r1 hP1 => ?_)
  split at hP1
  · rename_i hk
    exact ⟨true, tru_read hS1 hk r1, iteT (hP1.now hS1 r1)⟩
  · rename_i hk
    exact ⟨false, tru_read hS1 hk r1, iteF (hb.run m1 τ s1 σ H1 Q (hL.mono e1) hS1 hP1)⟩
  · exact hP1.elim
theorem ex_not (ha : Ex X W a fa) : Ex X W (.UnaryOp .Not a pos) (eNot fa) := by
  refine ⟨fun m τ st σ H Q hL hS hP pins s I => (pe_notT peW).run pins s σ H Q I ?_⟩
  refine ha.run m τ st σ H _ hL hS (hP.bind fun dx s1 m1 H1 x e1 hS1 r1 hP1 => ?_)
  split at hP1
  · rename_i k hk
    exact ⟨k, tru_read hS1 hk r1, hP1.now hS1 (.bl _)⟩
  · exact hP1.elim
def eIf (g : EM Bool) (fa fb : EM D) : EM D := fun τ st => (g τ st).bind fun x s1 => if x then fa τ s1 else fb τ s1
theorem ex_if {c : Expr} (hc : Et X W c g) (ha : Ex X W a fa) (hb : Ex X W b fb) : Ex X W (.IfExp c a b pos) (eIf g fa fb) := by
  refine ⟨fun m τ st σ H Q hL hS hP pins s I => (pe_ifExp ptW peW peW).run pins s σ H Q I ?_⟩
  refine hc.run m τ st σ H _ hL hS (hP.bind fun dx s1 m1 H1 x e1 hS1 r1 hP1 => ?_)
  subst r1
  cases dx with
  | true => exact iteT (ha.run m1 τ s1 σ H1 Q (hL.mono e1) hS1 hP1)
  | false => exact iteF (hb.run m1 τ s1 σ H1 Q (hL.mono e1) hS1 hP1)

/-! ### arguments, displays -/
def aNil : EM (List D) := fun _ st => .ok [] st
def aCons (f : EM D) (fs : EM (List D)) : EM (List D) := fun τ st => (f τ st).bind fun x s1 => (fs τ s1).bind fun xs s2 => .ok (x :: xs) s2
theorem ea_nil : Ea X W [] aNil := ⟨fun m τ st σ H Q hL hS hP pos pins s I => pa_nil.run pos pins s σ H Q I (hP.now hS .nil)⟩
theorem ea_cons (ha : Ex X W e f) (hr : Ea X W es fs) (hs : starEach (e :: es) X.env = (false, eval e X.env) :: starEach es X.env := by rfl) : Ea X W (e :: es) (aCons f fs) := by
  refine ⟨fun m τ st σ H Q hL hS hP pos pins s I => (pa_cons peW paW hs).run pos pins s σ H Q I ?_⟩
  refine ha.run m τ st σ H _ hL hS (hP.bind fun dx s1 m1 H1 x e1 hS1 r1 hP1 => ?_)
  exact hr.run m1 τ s1 σ H1 _ (hL.mono e1) hS1 (hP1.bind fun ds s2 m2 H2 xs e2 hS2 r2 hP2 => hP2.now hS2 (.cons (r1.mono e2) r2))
def eTup (fs : EM (List D)) : EM D := fun τ st => (fs τ st).bind fun xs s1 => if xs.length ≤ 16777216 then .ok (.tup xs) s1 else .bad
def eLst (fs : EM (List D)) : EM D := fun τ st => (fs τ st).bind fun xs s1 => if xs.length ≤ 16777216 then .ok (.ref s1.length) (s1 ++ [.lst xs]) else .bad
theorem ex_tup {x1} (h : Ea X W es fs) : Ex X W (.Tuple es x1 pos) (eTup fs) := by
  refine ⟨fun m τ st σ H Q hL hS hP pins s I => (pe_tup paW).run pins s σ H Q I ?_⟩
  refine h.run m τ st σ H _ hL hS (hP.bind fun ds s1 m1 H1 vs e1 hS1 r1 hP1 => ?_)
  split at hP1
  · rename_i hl
    exact ⟨line_of (by rw [← r1.len]; exact hl), hP1.tup hS1 r1⟩
  · exact hP1.elim
theorem ex_lst (h : Ea X W es fs) : Ex X W (.List es pos) (eLst fs) := by
  refine ⟨fun m τ st σ H Q hL hS hP pins s I => (pe_lst paW).run pins s σ H Q I ?_⟩
  refine h.run m τ st σ H _ hL hS (hP.bind fun ds s1 m1 H1 vs e1 hS1 r1 hP1 => ?_)
  split at hP1
  · rename_i hl
    exact ⟨line_of (by rw [← r1.len]; exact hl), hP1.lst hS1 r1⟩
  · exact hP1.elim

/-! ### subscripts -/
def IxM (X : Cx) (W : WX) (g : O2) : Prop :=
  ∃ r : R2, IxR X r ∧ ∀ (m : List Addr) (st : Store) (H : Hp) (dx dy : D) (x y : V) (E : XK) (Q : VK), SS X.kw m st H → RD X.K m H dx x → RD X.K m H dy y → Pe X.kw E (RD X.K) m H (g dx dy st) Q → r x y H Q
theorem ex_ix {o : O2} (ho : IxM X W o) (ha : Ex X W a fa) (hb : Ex X W b fb) (hs : PlainIx b := by exact fun _ _ => rfl) : Ex X W (.Subscript a b pos) (eBin o fa fb) := by
  obtain ⟨r, hr, h⟩ := ho
  refine ⟨fun m τ st σ H Q hL hS hP pins s I => (pe_ix hr peW peW hs).run pins s σ H Q I ?_⟩
  exact two ha hb hL hS hP fun m2 st2 H2 dx dy x y e2 hS2 r1 r2 hP2 => h m2 st2 H2 dx dy x y _ Q hS2 r1 r2 hP2
def oIxS : O2 := fun x y st => match x, y with
  | .tup xs, .int i => match atI xs i with
    | some d => .ok d st
    | none => .bad
  | .rol xs, .int i => match atI xs i with
    | some d => .ok d st
    | none => .bad
  | .ref n, .int i => match lstAt st n with
    | some xs => match atI xs i with
      | some d => .ok d st
      | none => .bad
    | none => .bad
  | .str x, .int i => if x.length ≤ 16777216 then match atI x i with
      | some c => .ok (.str [c]) st
      | none => .bad
    else .bad
  | _, _ => .bad
theorem atI_rds {K : PySem.W.Frag} {m : List Addr} {H : Hp} {ds : List D} {vs : List V} {i : Int} {d : D} (r : RDs K m H ds vs) (h : atI ds i = some d) : ∃ v, atI vs i = some v ∧ RD K m H d v := by
  unfold atI at h ⊢
  rw [← r.len]
  cases e : ixN ds.length i with
  | none =>
    rw [e] at h
    cases h
  | some j =>
    rw [e] at h
    exact r.get h
theorem m_ixS : IxM X W oIxS := ⟨_, ix_seq, fun m st H dx dy x y E Q hS r1 r2 hP => by
  unfold oIxS at hP
  split at hP
  · split at hP
    · rename_i d e
      cases r1 with
      | tup q rs =>
        cases r2
        obtain ⟨v, h1, h2⟩ := atI_rds rs e
        exact .inr (.inl ⟨_, _, _, v, rfl, rfl, q, h1, hP.now hS h2⟩)
    · exact hP.elim
  · split at hP
    · rename_i d e
      cases r1 with
      | rol q rs =>
        cases r2
        obtain ⟨v, h1, h2⟩ := atI_rds rs e
        exact .inl ⟨_, _, _, v, rfl, rfl, q.sq, h1, hP.now hS h2⟩
    · exact hP.elim
  · split at hP
    · split at hP
      · rename_i ex _ _ e
        cases r1 with
        | ref q =>
          cases r2
          obtain ⟨vs, h1, h2⟩ := hS.list ex q
          obtain ⟨v, h3, h4⟩ := atI_rds h2 e
          exact .inl ⟨_, _, _, v, rfl, rfl, SqL.of h1, h3, hP.now hS h4⟩
      · exact hP.elim
    · exact hP.elim
  · split at hP
    · split at hP
      · rename_i hl _ c e
        cases r1
        cases r2
        exact .inr (.inr ⟨_, _, c, rfl, rfl, line_of (by simpa [PySem.Str.length] using hl), by simpa using e, hP.now hS (.str [c])⟩)
      · exact hP.elim
    · exact hP.elim
  · exact hP.elim⟩
end
end HM

/-! HM, part 5: calls, what is walked, comprehensions. -/
namespace HM
open PySem PySem.Spec PyProof.Rows L2

/-! ### defs -/
abbrev FM := List D → Store → ER D
/-- a def's promise by its mirror -/
def spM (K : KW) (n : Nat) (mf : FM) : Sp := fun vs H Q E => ∃ (m : List Addr) (st : Store) (ds : List D), ds.length = n ∧ SS K m st H ∧ RDs K m H ds vs ∧ Pe K E (RD K) m H (mf ds st) Q
/-- the def f keeps the mirror -/
abbrev FnM (P : Program) (w : World) (K : PySem.W.Frag) (mg : Str → Option Value) (base : Heap) (k : Nat) (f : Addr) (fd : FuncData) (ps : List Str) (mf : FM) : Prop :=
  FnOk P w K mg base (L2.CX P w) k f fd ps (spM ⟨K, w⟩ ps.length mf)
section
variable {X : Cx} {W : WX} {e a b c : Expr} {es rest : List Expr} {pos p : Pos} {f fa fb fc : EM D} {fs : EM (List D)} {g ga gb : EM Bool}
def eCall (n : Nat) (mf : FM) (fs : EM (List D)) : EM D := fun τ st => (fs τ st).bind fun ds s1 => if ds.length = n then mf ds s1 else .bad
theorem ex_call {k : Nat} {fa : Addr} {fd : FuncData} {ps : List Str} {mf : FM} {x : Str} (tk : Takes X W) (F : FnM X.prog X.w X.K X.mg X.base k fa fd ps mf) (hr : Room k X.A) (hg : Gl X x) (hm : X.mg x = some (.ref fa)) (hk : PySem.W.keepIn X.K (.ref fa) = true) (hb : Binds X.K fd ps [])
    (ha : Ea X W (e :: es) fs) (hdb : (x == ("__debug__" : Str)) = false := by decide) (he : starEach (e :: es) X.env = (false, eval e X.env) :: starEach es X.env := by rfl) (hpl : (backTo pos (starEach es X.env)).any (·.1) = false := by rfl) :
    Ex X W (.Call (.Name x p) (e :: es) [] pos) (eCall ps.length mf fs) := by
  refine ⟨fun m τ st σ H Q hL hS hP pins s I => ?_⟩
  refine wpAny_Call_Name_kw (ld_glob I hg hm ?_ hdb)
  have q : wA X (e :: es) σ H fun vs H1 => spM X.kw ps.length mf (vs ++ []) H1 Q (WE W σ) := ha.run m τ st σ H _ hL hS (hP.bind fun ds s1 m1 H1 vs e1 hS1 r1 hP1 => by
    split at hP1
    · rename_i hl
      rw [List.append_nil]
      exact ⟨m1, s1, ds, hl, hS1, r1, hP1⟩
    · exact hP1.elim)
  refine PySem.W.callWith_K (h₀ := X.base) I.ok.mod.kin hk (thn (q pos pins s I) fun us s1 ⟨vs, H1, I1, r, q⟩ => ⟨I1.kIn, ?_⟩) he hpl
  exact run_fnSD (E := WE W) F hr hb .nil (passAt tk σ) I1 r q
theorem ex_call0 {k : Nat} {fa : Addr} {fd : FuncData} {ps : List Str} {mf : FM} {x : Str} (tk : Takes X W) (F : FnM X.prog X.w X.K X.mg X.base k fa fd ps mf) (hr : Room k X.A) (hg : Gl X x) (hm : X.mg x = some (.ref fa)) (hk : PySem.W.keepIn X.K (.ref fa) = true) (hb : Binds X.K fd ps [])
    (hdb : (x == ("__debug__" : Str)) = false := by decide) : Ex X W (.Call (.Name x p) [] [] pos) (eCall ps.length mf aNil) := by
  refine ⟨fun m τ st σ H Q hL hS hP pins s I => ?_⟩
  refine wpAny_Call_Name_kw (ld_glob I hg hm ?_ hdb)
  refine PySem.W.callWith_K0 I.kIn hk (run_fnSD (E := WE W) (us := []) (vs := []) F hr hb .nil (passAt tk σ) I .nil ?_)
  have hP : Pe X.kw (fun c d H' => W c d σ H') (RD X.K) m H (if ([] : List D).length = ps.length then mf [] st else .bad) Q := hP
  split at hP
  · rename_i hl
    exact ⟨m, st, [], hl, hS, .nil, hP⟩
  · exact hP.elim

/-! ### built-ins by values -/
def CallM (X : Cx) (fv : Value) (g : FM) : Prop :=
  ∃ r, CallR X fv r ∧ ∀ (m : List Addr) (st : Store) (H : Hp) (ds : List D) (vs : List V) (E : XK) (Q : VK), SS X.kw m st H → RDs X.K m H ds vs → Pe X.kw E (RD X.K) m H (g ds st) Q → r vs H Q
def eCB (mf : FM) (fs : EM (List D)) : EM D := fun τ st => (fs τ st).bind mf
theorem ex_callB {x : Str} {id : String} {mf : FM} (hc : CallM X (.builtin id) mf) (hg : Gl X x) (hm : X.mg x = none) (hv : bootBuiltins x = some (.builtin id)) (ha : Ea X W (e :: es) fs) (hn : x ≠ "__name__" := by decide) (hdb : (x == ("__debug__" : Str)) = false := by decide)
    (he : starEach (e :: es) X.env = (false, eval e X.env) :: starEach es X.env := by rfl) (hpl : (backTo pos (starEach es X.env)).any (·.1) = false := by rfl) : Ex X W (.Call (.Name x p) (e :: es) [] pos) (eCB mf fs) := by
  obtain ⟨r, hr, h⟩ := hc
  refine ⟨fun m τ st σ H Q hL hS hP pins s I => (pe_callB hr hg hm hv paW hn hdb he hpl).run pins s σ H Q I ?_⟩
  exact ha.run m τ st σ H _ hL hS (hP.bind fun ds s1 m1 H1 vs e1 hS1 r1 hP1 => h m1 s1 H1 ds vs _ Q hS1 r1 hP1)
theorem ex_callT {x : Str} {T : String} {mf : FM} (hc : CallM X (.type T) mf) (hg : Gl X x) (hm : X.mg x = none) (hv : bootBuiltins x = some (.type T)) (ha : Ea X W (e :: es) fs) (hn : x ≠ "__name__" := by decide) (hdb : (x == ("__debug__" : Str)) = false := by decide)
    (he : starEach (e :: es) X.env = (false, eval e X.env) :: starEach es X.env := by rfl) (hpl : (backTo pos (starEach es X.env)).any (·.1) = false := by rfl) : Ex X W (.Call (.Name x p) (e :: es) [] pos) (eCB mf fs) := by
  obtain ⟨r, hr, h⟩ := hc
  refine ⟨fun m τ st σ H Q hL hS hP pins s I => (pe_callTy hr hg hm hv paW hn hdb he hpl).run pins s σ H Q I ?_⟩
  exact ha.run m τ st σ H _ hL hS (hP.bind fun ds s1 m1 H1 vs e1 hS1 r1 hP1 => h m1 s1 H1 ds vs _ Q hS1 r1 hP1)
theorem ex_callF {x : Str} {id : String} {mf : FM} (hc : CallM X (.builtin id) mf) (hg : Gl X x) (hm : X.mg x = some (.builtin id)) (ha : Ea X W (e :: es) fs) (hdb : (x == ("__debug__" : Str)) = false := by decide)
    (he : starEach (e :: es) X.env = (false, eval e X.env) :: starEach es X.env := by rfl) (hpl : (backTo pos (starEach es X.env)).any (·.1) = false := by rfl) : Ex X W (.Call (.Name x p) (e :: es) [] pos) (eCB mf fs) := by
  obtain ⟨r, hr, h⟩ := hc
  refine ⟨fun m τ st σ H Q hL hS hP pins s I => (pe_callBfun hr hg hm paW hdb he hpl).run pins s σ H Q I ?_⟩
  exact ha.run m τ st σ H _ hL hS (hP.bind fun ds s1 m1 H1 vs e1 hS1 r1 hP1 => h m1 s1 H1 ds vs _ Q hS1 r1 hP1)
/-- the items of what is a list or a tuple -/
def dSeq (st : Store) : D → Option (List D)
  | .tup xs => some xs
  | .rol xs => some xs
  | .ref n => lstAt st n
  | _ => none
def SqV (K : PySem.W.Frag) (m : List Addr) (H : Hp) (ds : List D) (v : V) : Prop := ∃ a vs, v = .ref a ∧ (SqL K H a vs ∨ SqT K H a vs) ∧ RDs K m H ds vs
theorem dSeq_read {K : KW} {m : List Addr} {st : Store} {H : Hp} {d : D} {v : V} {xs : List D} (s : SS K m st H) (h : dSeq st d = some xs) (r : RD K m H d v) : SqV K m H xs v := by
  cases r with
  | tup q rs =>
    cases h
    exact ⟨_, _, rfl, .inr q, rs⟩
  | rol q rs =>
    cases h
    exact ⟨_, _, rfl, .inl q.sq, rs⟩
  | ref q =>
    obtain ⟨vs, h1, h2⟩ := s.list h q
    exact ⟨_, vs, rfl, .inl (SqL.of h1), h2⟩
  | _ => cases h
def fLenS : FM := fun ds st => match ds with
  | [.str x] => if x.length ≤ 16777216 then .ok (.int x.length) st else .bad
  | [d] => match dSeq st d with
    | some xs => .ok (.int xs.length) st
    | none => .bad
  | _ => .bad
theorem c_lenS : CallM X (.builtin "len") fLenS := ⟨_, call_len_seq.or call_len_str, fun m st H ds vs E Q hS r hP => by
  unfold fLenS at hP
  split at hP
  · split at hP
    · rename_i x hl
      obtain ⟨v, rfl, r1⟩ := r.one
      cases r1
      refine .inr ⟨_, rfl, line_of (by simpa [PySem.Str.length] using hl), ?_⟩
      have e : (((⟨x.toArray⟩ : PySem.Str).length : Nat) : Int) = (x.length : Int) := by simp [PySem.Str.length]
      rw [e]
      exact hP.now hS (.int _)
    · exact hP.elim
  · split at hP
    · rename_i xs hx
      obtain ⟨v, rfl, r1⟩ := r.one
      obtain ⟨a, vs, rfl, q, rs⟩ := dSeq_read hS hx r1
      refine .inl ⟨a, vs, rfl, q, ?_⟩
      rw [← rs.len]
      exact hP.now hS (.int _)
    · exact hP.elim
  · exact hP.elim⟩
def fInt : FM := fun ds st => match ds with
  | [.int i] => .ok (.int i) st
  | [.bl b] => .ok (.int (if b then 1 else 0)) st
  | _ => .bad
theorem c_int : CallM X (.type "int") fInt := ⟨_, call_int1, fun m st H ds vs E Q hS r hP => by
  unfold fInt at hP
  split at hP
  · obtain ⟨v, rfl, r1⟩ := r.one
    cases r1
    exact .inl ⟨_, rfl, hP.now hS (.int _)⟩
  · obtain ⟨v, rfl, r1⟩ := r.one
    cases r1
    exact .inr ⟨_, rfl, hP.now hS (.int _)⟩
  · exact hP.elim⟩
def fAbs : FM := fun ds st => match ds with
  | [.int i] => .ok (.int (i.natAbs : Nat)) st
  | _ => .bad
theorem c_abs : CallM X (.builtin "abs") fAbs := ⟨_, call_abs, fun m st H ds vs E Q hS r hP => by
  unfold fAbs at hP
  split at hP
  · rename_i i
    obtain ⟨v, rfl, r1⟩ := r.one
    cases r1
    refine ⟨_, rfl, ?_⟩
    have e : (if i < 0 then -i else i) = ((i.natAbs : Nat) : Int) := by split <;> omega
    rw [e]
    exact hP.now hS (.int _)
  · exact hP.elim⟩
def fGcd : FM := fun ds st => match ds with
  | [.int i, .int j] => .ok (.int (Nat.gcd i.natAbs j.natAbs : Nat)) st
  | _ => .bad
theorem c_gcd : CallM X (.builtin "math.gcd") fGcd := ⟨_, cr_gcd, fun m st H ds vs E Q hS r hP => by
  unfold fGcd at hP
  split at hP
  · obtain ⟨v, u, rfl, r1, r2⟩ := r.two
    cases r1
    cases r2
    exact ⟨_, _, rfl, hP.now hS (.int _)⟩
  · exact hP.elim⟩
def fTuple : FM := fun ds st => match ds with
  | [d] => match dSeq st d with
    | some xs => .ok (.tup xs) st
    | none => .bad
  | _ => .bad
theorem c_tuple : CallM X (.type "tuple") fTuple := ⟨_, call_tuple_of, fun m st H ds vs E Q hS r hP => by
  unfold fTuple at hP
  split at hP
  · split at hP
    · rename_i xs hx
      obtain ⟨v, rfl, r1⟩ := r.one
      obtain ⟨a, vs, rfl, q, rs⟩ := dSeq_read hS hx r1
      rcases q with q | q
      · exact ⟨a, vs, rfl, .inl ⟨q, hP.tup hS rs⟩⟩
      · exact ⟨a, vs, rfl, .inr ⟨q, hP.now hS (.tup q rs)⟩⟩
    · exact hP.elim
  · exact hP.elim⟩
def fList : FM := fun ds st => match ds with
  | [d] => match dSeq st d with
    | some xs => .ok (.ref st.length) (st ++ [.lst xs])
    | none => .bad
  | _ => .bad
theorem c_list : CallM X (.type "list") fList := ⟨_, call_list_of, fun m st H ds vs E Q hS r hP => by
  unfold fList at hP
  split at hP
  · split at hP
    · rename_i xs hx
      obtain ⟨v, rfl, r1⟩ := r.one
      obtain ⟨a, vs, rfl, q, rs⟩ := dSeq_read hS hx r1
      exact ⟨a, vs, rfl, q, hP.lst hS rs⟩
    · exact hP.elim
  · exact hP.elim⟩
def fMin2 : FM := fun ds st => match ds with
  | [.int i, .int j] => .ok (.int (if j < i then j else i)) st
  | _ => .bad
theorem c_min2 (hc : X.calm = true) : CallM X (.builtin "min") fMin2 := ⟨_, call_min2 hc, fun m st H ds vs E Q hS r hP => by
  unfold fMin2 at hP
  split at hP
  · obtain ⟨v, u, rfl, r1, r2⟩ := r.two
    cases r1
    cases r2
    exact ⟨_, _, rfl, hP.now hS (.int _)⟩
  · exact hP.elim⟩
def fMax2 : FM := fun ds st => match ds with
  | [.int i, .int j] => .ok (.int (if j > i then j else i)) st
  | _ => .bad
theorem c_max2 (hc : X.calm = true) : CallM X (.builtin "max") fMax2 := ⟨_, call_max2 hc, fun m st H ds vs E Q hS r hP => by
  unfold fMax2 at hP
  split at hP
  · obtain ⟨v, u, rfl, r1, r2⟩ := r.two
    cases r1
    cases r2
    exact ⟨_, _, rfl, hP.now hS (.int _)⟩
  · exact hP.elim⟩
/-! ### isinstance -/
def dTy (st : Store) : D → Option String
  | .non => some "NoneType"
  | .bl _ => some "bool"
  | .int _ => some "int"
  | .str _ => some "str"
  | .tup _ => some "tuple"
  | .rol _ => some "list"
  | .ref n => (lstAt st n).map fun _ => "list"
  | _ => none
def isiT (a b : String) : Option Bool :=
  if (["NoneType", "bool", "int", "str", "tuple", "list"].contains a && ["bool", "int", "str", "tuple", "list"].contains b) = true then some (decide (a = b) || (decide (a = "bool") && decide (b = "int"))) else none
theorem isiT_ok {a b : String} {r : Bool} (h : isiT a b = some r) : kitB a b = some r := by
  have all : (["NoneType", "bool", "int", "str", "tuple", "list"].all fun a => ["bool", "int", "str", "tuple", "list"].all fun b => decide (kitB a b = some (decide (a = b) || (decide (a = "bool") && decide (b = "int"))))) = true := by decide +kernel
  unfold isiT at h
  split at h
  · rename_i c
    rw [Bool.and_eq_true] at c
    have z := List.all_eq_true.mp (List.all_eq_true.mp all a (List.contains_iff_mem.mp c.1)) b (List.contains_iff_mem.mp c.2)
    rw [of_decide_eq_true z]
    exact h
  · cases h
theorem ty_read {K : KW} {m : List Addr} {st : Store} {H : Hp} {d : D} {v : V} {t : String} (s : SS K m st H) (h : dTy st d = some t) (r : RD K m H d v) : TyX K H v (.type t) := by
  cases r with
  | non => cases h; exact .base .non
  | bl b => cases h; exact .base (.bl b)
  | int i => cases h; exact .base (.int i)
  | str x => cases h; exact .base (.str _)
  | tup q rs =>
    cases h
    rcases q with (q | ⟨o, q⟩) | ⟨o, its, n, q1, q2, _⟩
    · exact .base (.tup q)
    · exact .fTuple q
    · exact .kTuple q1 q2
  | rol q rs =>
    cases h
    rcases q with ⟨o, q⟩ | ⟨o, its, n, q1, q2, _⟩
    · exact .base (.frz q)
    · exact .kList q1 q2
  | ref q =>
    have h : (lstAt st _).map (fun _ => "list") = some t := h
    simp only [Option.map_eq_some_iff] at h
    obtain ⟨xs, e, rfl⟩ := h
    obtain ⟨vs, h1, h2⟩ := s.list e q
    exact .base (.lst h1)
  | _ => cases h
def fIsi : FM := fun ds st => match ds with
  | [d, .ty c] => match dTy st d with
    | some t => match isiT t c with
      | some b => .ok (.bl b) st
      | none => .bad
    | none => .bad
  | _ => .bad
theorem c_isi : CallM X (.builtin "isinstance") fIsi := ⟨_, call_isi, fun m st H ds vs E Q hS r hP => by
  unfold fIsi at hP
  split at hP
  · split at hP
    · rename_i t ht
      split at hP
      · rename_i b hb
        obtain ⟨v, u, rfl, r1, r2⟩ := r.two
        cases r2
        exact ⟨_, _, _, _, b, rfl, by constructor, ty_read hS ht r1, kit_ty (isiT_ok hb), hP.now hS (.bl _)⟩
      · exact hP.elim
    · exact hP.elim
  · exact hP.elim⟩

/-! ### fresh lists, sequences as arguments -/
/-- an expression that makes a list that nobody else has -/
structure El (X : Cx) (W : WX) (e : Expr) (f : EM (List D)) : Prop where
  run : ∀ (m : List Addr) (τ : Sl) (st : Store) (σ : L2.St) (H : Hp) (Q : VK), SL X.K m H τ σ → SS X.kw m st H →
    Pe X.kw (fun c d H' => W c d σ H') (fun m' H' ds v => ∃ a vs, v = .ref a ∧ H' a = some (.lst vs) ∧ a ∉ m' ∧ H a = none ∧ RDs X.K m' H' ds vs) m H (f τ st) Q → wE X e σ H Q
def eEl (f : EM (List D)) : EM D := fun τ st => (f τ st).bind fun ds s1 => .ok (.ref s1.length) (s1 ++ [.lst ds])
theorem Ext.back {K : KW} {m m1 : List Addr} {H H1 : Hp} {s1 : Store} {a : Addr} (e : Ext K m H m1 H1) (s : SS K m1 s1 H1) (h : H1 a = none) : H a = none := by
  cases q : H a with
  | none => rfl
  | some o =>
    by_cases hm : a ∈ m
    · exact absurd (e.mem hm) (s.notin h)
    · rw [e.frm a o hm q] at h
      cases h
theorem Ext.own {K : PySem.W.Frag} {m m1 : List Addr} {H H1 : Hp} {a : Addr} (e : Ext K m H m1 H1) (h : H a = none) : Ext K m H (m1 ++ [a]) H1 where
  pre := fun n b q => by
    have z := e.pre n b q
    rw [List.getElem?_append_left (List.getElem?_eq_some_iff.mp z).1]
    exact z
  tup := e.tup
  fzl := e.fzl
  frm := e.frm
  new := fun b q n => by
    rcases List.mem_append.mp q with q | q
    · exact e.new b q n
    · have z : b = a := by simpa using q
      rw [z]
      exact h
theorem ex_el {fl : EM (List D)} (h : El X W e fl) : Ex X W e (eEl fl) := by
  refine ⟨fun m τ st σ H Q hL hS hP => h.run m τ st σ H Q hL hS ?_⟩
  unfold eEl at hP
  cases hq : fl τ st with
  | ok ds s1 =>
    rw [hq] at hP
    intro m1 H1 v e1 hS1 ⟨a, vs, e, ha, na, hn, rs⟩
    subst e
    refine hP (m1 ++ [a]) H1 (.ref a) (e1.own hn) (hS1.grow na ⟨vs, ha, rs.kp Kp.grow⟩) (.ref ?_)
    rw [← hS1.len]
    simp
  | exc x st' =>
    rw [hq] at hP
    exact hP
  | bad =>
    rw [hq] at hP
    exact hP.elim
/-- the items of an expression's list or tuple -/
structure Es (X : Cx) (W : WX) (e : Expr) (f : EM (List D)) : Prop where
  run : ∀ (m : List Addr) (τ : Sl) (st : Store) (σ : L2.St) (H : Hp) (Q : VK), SL X.K m H τ σ → SS X.kw m st H → Pe X.kw (fun c d H' => W c d σ H') (SqV X.K) m H (f τ st) Q → wE X e σ H Q
theorem es_el {fl : EM (List D)} (h : El X W e fl) : Es X W e fl := by
  refine ⟨fun m τ st σ H Q hL hS hP => h.run m τ st σ H Q hL hS ?_⟩
  cases hq : fl τ st with
  | ok ds s1 =>
    rw [hq] at hP
    intro m1 H1 v e1 hS1 ⟨a, vs, e, ha, na, hn, rs⟩
    exact hP m1 H1 v e1 hS1 ⟨a, vs, e, .inl (SqL.of ha), rs⟩
  | exc x st' =>
    rw [hq] at hP
    exact hP
  | bad =>
    rw [hq] at hP
    exact hP.elim
def sEx (f : EM D) : EM (List D) := fun τ st => (f τ st).bind fun d s1 => match dSeq s1 d with
  | some xs => .ok xs s1
  | none => .bad
theorem es_ex (h : Ex X W e f) : Es X W e (sEx f) := by
  refine ⟨fun m τ st σ H Q hL hS hP => h.run m τ st σ H Q hL hS (hP.bind fun d s1 m1 H1 v e1 hS1 r1 hP1 => ?_)⟩
  split at hP1
  · rename_i xs hx
    exact hP1.now hS1 (dSeq_read hS1 hx r1)
  · exact hP1.elim
/-- a built-in of one argument, by its items -/
abbrev SM1 := List D → Store → ER D
def CallS (X : Cx) (fv : Value) (g : SM1) : Prop :=
  ∃ r, CallR X fv r ∧ ∀ (m : List Addr) (st : Store) (H : Hp) (ds : List D) (v : V) (E : XK) (Q : VK), SS X.kw m st H → SqV X.K m H ds v → Pe X.kw E (RD X.K) m H (g ds st) Q → r [v] H Q
def eCS (g : SM1) (f : EM (List D)) : EM D := fun τ st => (f τ st).bind g
theorem ex_callBs {x : Str} {id : String} {g : SM1} {fl : EM (List D)} (hc : CallS X (.builtin id) g) (hg : Gl X x) (hm : X.mg x = none) (hv : bootBuiltins x = some (.builtin id)) (ha : Es X W e fl) (hn : x ≠ "__name__" := by decide) (hdb : (x == ("__debug__" : Str)) = false := by decide)
    (he : starEach [e] X.env = (false, eval e X.env) :: starEach [] X.env := by rfl) (hpl : (backTo pos (starEach [] X.env)).any (·.1) = false := by rfl) : Ex X W (.Call (.Name x p) [e] [] pos) (eCS g fl) := by
  obtain ⟨r, hr, h⟩ := hc
  refine ⟨fun m τ st σ H Q hL hS hP pins s I => (pe_callB hr hg hm hv (pa_cons peW pa_nil he) hn hdb he hpl).run pins s σ H Q I ?_⟩
  exact ha.run m τ st σ H _ hL hS (hP.bind fun ds s1 m1 H1 v e1 hS1 r1 hP1 => h m1 s1 H1 ds v _ Q hS1 r1 hP1)
theorem ex_callTs {x : Str} {T : String} {g : SM1} {fl : EM (List D)} (hc : CallS X (.type T) g) (hg : Gl X x) (hm : X.mg x = none) (hv : bootBuiltins x = some (.type T)) (ha : Es X W e fl) (hn : x ≠ "__name__" := by decide) (hdb : (x == ("__debug__" : Str)) = false := by decide)
    (he : starEach [e] X.env = (false, eval e X.env) :: starEach [] X.env := by rfl) (hpl : (backTo pos (starEach [] X.env)).any (·.1) = false := by rfl) : Ex X W (.Call (.Name x p) [e] [] pos) (eCS g fl) := by
  obtain ⟨r, hr, h⟩ := hc
  refine ⟨fun m τ st σ H Q hL hS hP pins s I => (pe_callTy hr hg hm hv (pa_cons peW pa_nil he) hn hdb he hpl).run pins s σ H Q I ?_⟩
  exact ha.run m τ st σ H _ hL hS (hP.bind fun ds s1 m1 H1 v e1 hS1 r1 hP1 => h m1 s1 H1 ds v _ Q hS1 r1 hP1)
def gTuple : SM1 := fun xs st => .ok (.tup xs) st
theorem s_tuple : CallS X (.type "tuple") gTuple := ⟨_, call_tuple_of, fun m st H ds v E Q hS r hP => by
  obtain ⟨a, vs, rfl, q, rs⟩ := r
  rcases q with q | q
  · exact ⟨a, vs, rfl, .inl ⟨q, hP.tup hS rs⟩⟩
  · exact ⟨a, vs, rfl, .inr ⟨q, hP.now hS (.tup q rs)⟩⟩⟩
def gLen : SM1 := fun xs st => .ok (.int xs.length) st
theorem s_len : CallS X (.builtin "len") gLen := ⟨_, call_len_seq, fun m st H ds v E Q hS r hP => by
  obtain ⟨a, vs, rfl, q, rs⟩ := r
  refine ⟨a, vs, rfl, q, ?_⟩
  rw [← rs.len]
  exact hP.now hS (.int _)⟩

/-! ### targets -/
def wG (X : Cx) (tg : Expr) : TG := fun v σ H Q => ∀ (pins : List (Addr × Obj)) (s : Shared) (u : Value), Inv X pins σ H s → RelV v u → wpAny (model X.prog X.w) X.A (assign tg X.env u) (fun _ s' => ∃ σ' H', Inv X pins σ' H' s' ∧ Q σ' H') X.xe s
theorem pgW {X : Cx} {tg : Expr} : PG X tg (wG X tg) := ⟨fun pins s σ H v u Q I r h => h pins s u I r⟩
/-- a target: the slots at ix are set -/
structure Eg (X : Cx) (tg : Expr) (ix : List Nat) (set : D → Sl → Option Sl) : Prop where
  run : ∀ (m : List Addr) (τ τ' : Sl) (st : Store) (σ : L2.St) (H : Hp) (d : D) (v : V) (Q : L2.St → Hp → Prop), SL X.K m H τ σ → SS X.kw m st H → RD X.K m H d v → set d τ = some τ' →
    (∀ σ', σ'.length = σ.length → (∀ j, j ∉ ix → σ'[j]? = σ[j]?) → SL X.K m H τ' σ' → Q σ' H) → wG X tg v σ H Q
def gN (i : Nat) : D → Sl → Option Sl := fun d τ => some (τ.set i (some d))
theorem eg_name {i : Nat} {x : Str} (hN : X.N.Nodup) (hi : X.N[i]? = some x := by rfl) (hx : Loc X.env.scope x := by first | exact Or.inl rfl | exact Or.inr rfl) (hf : X.fn x = true ∨ X.env.scope.names.lookup x = some .local := by first | exact .inl rfl | exact .inr rfl) : Eg X (.Name x pos) [i] (gN i) := by
  refine ⟨fun m τ τ' st σ H d v Q hL hS r e k pins s u I ru => (pg_name hN hi hx hf).run pins s σ H v u Q I ru ?_⟩
  cases e
  exact k _ (by simp) (fun j hj => List.getElem?_set_ne (fun z => hj (by simp [z]))) (hL.set i r)
/-- several names, one after another -/
structure Egs (X : Cx) (ts : List Expr) (ix : List Nat) (set : List D → Sl → Option Sl) : Prop where
  run : ∃ t : TGs, PGs X ts t ∧ ∀ (m : List Addr) (τ τ' : Sl) (σ : L2.St) (H : Hp) (ds : List D) (vs : List V) (Q : L2.St → Hp → Prop), SL X.K m H τ σ → RDs X.K m H ds vs → set ds τ = some τ' →
    (∀ σ', σ'.length = σ.length → (∀ j, j ∉ ix → σ'[j]? = σ[j]?) → SL X.K m H τ' σ' → Q σ' H) → t vs σ H Q
def gNil0 : List D → Sl → Option Sl := fun ds τ => match ds with
  | [] => some τ
  | _ => none
theorem egs_nil : Egs X [] [] gNil0 := ⟨_, pgs_nil, fun m τ τ' σ H ds vs Q hL r e k => by
    cases r with
    | nil =>
      cases e
      exact ⟨rfl, k σ rfl (fun _ _ => rfl) hL⟩
    | cons _ _ => cases e⟩
def gCs (i : Nat) (set : List D → Sl → Option Sl) : List D → Sl → Option Sl := fun ds τ => match ds with
  | d :: r => set r (τ.set i (some d))
  | [] => none
theorem egs_cons {i : Nat} {ix : List Nat} {x : Str} {ts : List Expr} {set : List D → Sl → Option Sl} (hN : X.N.Nodup) (hr : Egs X ts ix set) (hi : X.N[i]? = some x := by rfl) (hx : Loc X.env.scope x := by first | exact Or.inl rfl | exact Or.inr rfl) (hf : X.fn x = true ∨ X.env.scope.names.lookup x = some .local := by first | exact .inl rfl | exact .inr rfl)
    (hs : (assignEach (.Name x pos :: ts) X.env).map (·.2) = assign (.Name x pos) X.env :: (assignEach ts X.env).map (·.2) := by rfl) : Egs X (.Name x pos :: ts) (i :: ix) (gCs i set) := by
  obtain ⟨t, ht, h⟩ := hr
  refine ⟨_, pgs_cons (pg_name hN hi hx hf) ht hs, fun m τ τ' σ H ds vs Q hL r e k => ?_⟩
  cases r with
  | nil => cases e
  | cons r1 r2 =>
    refine ⟨_, _, rfl, h m _ τ' _ H _ _ Q (hL.set i r1) r2 e fun σ' l q s => k σ' (by rw [l, List.length_set]) (fun j hj => ?_) s⟩
    rw [q j fun z => hj (List.mem_cons_of_mem _ z)]
    exact List.getElem?_set_ne (fun z => hj (by simp [z]))
def gT (n : Nat) (set : List D → Sl → Option Sl) : D → Sl → Option Sl := fun d τ => match d with
  | .tup ds => if ds.length = n then set ds τ else none
  | _ => none
theorem eg_tup {ts : List Expr} {kk : Nat} {ix : List Nat} {set : List D → Sl → Option Sl} {n : Nat} (hc : X.calm = true) (h : Egs X ts ix set) (hn : (assignEach ts X.env).length = n := by rfl) (hst : (assignEach ts X.env).findIdx? (·.1) = none := by rfl) : Eg X (.Tuple ts kk pos) ix (gT n set) := by
  obtain ⟨t, ht, h⟩ := h
  refine ⟨fun m τ τ' st σ H d v Q hL hS r e k pins s u I ru => (pg_tup hc ht hn hst).run pins s σ H v u Q I ru ?_⟩
  unfold gT at e
  split at e
  · split at e
    · rename_i hl
      cases r with
      | tup q rs => exact ⟨_, _, rfl, q, by rw [← rs.len]; exact hl, h m τ τ' σ H _ _ Q hL rs e k⟩
    · cases e
  · cases e

/-! ### what is walked -/
inductive Sq where
  /-- items that stay -/
  | fix (xs : List D)
  /-- the items of a list of the store's, which must stay as long as it is walked -/
  | cell (n : Nat) (xs : List D)
  /-- pairs of the items of two lists of the store's -/
  | two (n k : Nat) (xs ys : List D)
  /-- pairs of the items of a list of the store's (the first one if l, otherwise the second one) and of a tuple -/
  | mix (l : Bool) (n : Nat) (xs ys : List D)
/-- pairs -/
def zipD (xs ys : List D) : List D := (List.zip xs ys).map fun p => .tup [p.1, p.2]
def Sq.items : Sq → List D
  | .fix xs => xs
  | .cell _ xs => xs
  | .two _ _ xs ys => zipD xs ys
  | .mix _ _ xs ys => zipD xs ys
def Sq.chk (q : Sq) (st : Store) : Bool := match q with
  | .fix _ => true
  | .cell n xs => decide (lstAt st n = some xs)
  | .two n k xs ys => decide (lstAt st n = some xs) && decide (lstAt st k = some ys)
  | .mix l n xs ys => decide (lstAt st n = some (if l then xs else ys))
def JOk (K : KW) (m0 : List Addr) (H0 : Hp) (q : Sq) (J : It) : Prop :=
  ∀ (m : List Addr) (H : Hp) (st : Store), Ext K m0 H0 m H → SS K m st H → q.chk st = true →
    (∀ (i : Nat) (d : D), q.items[i]? = some d → J.go i H ∧ ∀ x H', J.yld i H x H' → Ext K m H m H' ∧ SS K m st H' ∧ RD K m H' d x) ∧ J.stop q.items.length H
def wI (X : Cx) (tg iter : Expr) : TI := fun σ H R => ∀ (pins : List (Addr × Obj)) (s : Shared), Inv X pins σ H s → wpAny (model X.prog X.w) X.A (eval iter X.env) (fun v s1 => wpAny (model X.prog X.w) X.A (pyIter v) (PIE X pins σ tg R) X.xe s1) X.xe s
theorem piW {X : Cx} {tg iter : Expr} : PI X tg iter (wI X tg iter) := ⟨fun pins s σ H R I h => h pins s I⟩
structure Ei (X : Cx) (W : WX) (tg iter : Expr) (f : EM Sq) : Prop where
  run : ∀ (m : List Addr) (τ : Sl) (st : Store) (σ : L2.St) (H : Hp) (R : It → Hp → Prop), SL X.K m H τ σ → SS X.kw m st H → Pe X.kw (fun c d H' => W c d σ H') (JOk X.kw) m H (f τ st) R → wI X tg iter σ H R
theorem j_list {K : KW} {m0 : List Addr} {H0 : Hp} {a : Addr} {q : Sq} (h : ∀ (m : List Addr) (H : Hp) (st : Store), Ext K m0 H0 m H → SS K m st H → q.chk st = true → ∃ vs, SqL K H a vs ∧ RDs K m H q.items vs) : JOk K m0 H0 q (Itl K a) := fun m H st e s hc => by
  obtain ⟨vs, hq, rs⟩ := h m H st e s hc
  refine ⟨fun i d hd => ?_, ⟨vs, hq, by rw [rs.len]; exact Nat.le_refl _⟩⟩
  obtain ⟨v, hv, r⟩ := rs.get hd
  refine ⟨⟨vs, v, hq, hv⟩, fun x H' hy => ?_⟩
  obtain ⟨rfl, y⟩ := hy
  have z := y vs hq
  rw [hv] at z
  cases z
  exact ⟨.refl, s, r⟩
theorem j_tup {K : KW} {m0 : List Addr} {H0 : Hp} {a : Addr} {vs : List V} {xs : List D} (hq : SqT K H0 a vs) (rs : RDs K m0 H0 xs vs) : JOk K m0 H0 (.fix xs) (Itt K a) := fun m H st e s _ => by
  have hq' := e.tup a vs hq
  have rs' := rs.mono e
  refine ⟨fun i d hd => ?_, ⟨vs, hq', by show vs.length ≤ xs.length; rw [← rs.len]; exact Nat.le_refl _⟩⟩
  obtain ⟨v, hv, r⟩ := rs'.get (show xs[i]? = some d from hd)
  refine ⟨⟨vs, v, hq', hv⟩, fun x H' hy => ?_⟩
  obtain ⟨rfl, y⟩ := hy
  have z := y vs hq'
  rw [hv] at z
  cases z
  exact ⟨.refl, s, r⟩
def dSq (st : Store) : D → Option Sq
  | .tup xs => some (.fix xs)
  | .rol xs => some (.fix xs)
  | .ref n => (lstAt st n).map (.cell n)
  | .str x => some (.fix (x.map fun c => .str [c]))
  | _ => none
def iEx (f : EM D) : EM Sq := fun τ st => (f τ st).bind fun d s1 => match dSq s1 d with
  | some q => .ok q s1
  | none => .bad
theorem j_str {K : KW} {m0 : List Addr} {H0 : Hp} (x : List Nat) : JOk K m0 H0 (.fix (x.map fun c => .str [c])) (Its ⟨x.toArray⟩) := fun m H st e s _ => by
  refine ⟨fun i d hd => ?_, ?_⟩
  · have hd : (x.map fun c => D.str [c])[i]? = some d := hd
    rw [List.getElem?_map] at hd
    cases hx : x[i]? with
    | none =>
      rw [hx] at hd
      cases hd
    | some c =>
      rw [hx] at hd
      cases hd
      refine ⟨(List.getElem?_eq_some_iff.mp hx).1, fun y H' hy => ?_⟩
      obtain ⟨e, c', h1, h2⟩ := hy
      subst e
      have h3 : x[i]? = some c' := by simpa using h1
      rw [hx] at h3
      cases h3
      subst h2
      exact ⟨.refl, s, .str [c]⟩
  · show (⟨x.toArray⟩ : PySem.Str).cps.size ≤ (x.map fun c => D.str [c]).length
    simp
theorem ei_ex {tg : Expr} (h : Ex X W e f) : Ei X W tg e (iEx f) := by
  refine ⟨fun m τ st σ H R hL hS hP pins s I => ?_⟩
  unfold iEx at hP
  have hrun := h.run m τ st σ H
  cases hq : f τ st with
  | bad =>
    rw [hq] at hP
    exact hP.elim
  | exc x s1 =>
    rw [hq] at hP
    refine (pi_list (tg := tg) peW).run pins s σ H R I (hrun _ hL hS ?_)
    rw [hq]
    exact hP
  | ok d s1 =>
    rw [hq] at hP
    have hP : Pe X.kw (fun c d H' => W c d σ H') (JOk X.kw) m H (match dSq s1 d with
      | some q => .ok q s1
      | none => .bad) R := hP
    cases hd : dSq s1 d with
    | none =>
      rw [hd] at hP
      exact hP.elim
    | some q =>
      rw [hd] at hP
      cases d with
      | tup xs =>
        cases hd
        refine (pi_tup (tg := tg) peW).run pins s σ H R I (hrun _ hL hS ?_)
        rw [hq]
        intro m1 H1 v e1 hS1 r1
        cases r1 with
        | tup sq rs => exact ⟨_, rfl, ⟨_, sq⟩, hP m1 H1 _ e1 hS1 (j_tup sq rs)⟩
      | rol xs =>
        cases hd
        refine (pi_list (tg := tg) peW).run pins s σ H R I (hrun _ hL hS ?_)
        rw [hq]
        intro m1 H1 v e1 hS1 r1
        cases r1 with
        | rol sq rs => exact ⟨_, rfl, ⟨_, sq.sq⟩, hP m1 H1 _ e1 hS1 (j_list fun m H st e s _ => ⟨_, (e.fzl _ _ sq).sq, rs.mono e⟩)⟩
      | ref n =>
        have hd : (lstAt s1 n).map (Sq.cell n) = some q := hd
        simp only [Option.map_eq_some_iff] at hd
        obtain ⟨xs, hx, rfl⟩ := hd
        refine (pi_list (tg := tg) peW).run pins s σ H R I (hrun _ hL hS ?_)
        rw [hq]
        intro m1 H1 v e1 hS1 r1
        cases r1 with
        | ref z =>
          obtain ⟨vs, h1, h2⟩ := hS1.list hx z
          refine ⟨_, rfl, ⟨vs, SqL.of h1⟩, hP m1 H1 _ e1 hS1 (j_list fun m H st e s hc => ?_)⟩
          obtain ⟨us, h3, h4⟩ := s.list (of_decide_eq_true hc) (e.pre _ _ z)
          exact ⟨us, SqL.of h3, h4⟩
      | str x =>
        cases hd
        refine (pi_str (tg := tg) peW).run pins s σ H R I (hrun _ hL hS ?_)
        rw [hq]
        intro m1 H1 v e1 hS1 r1
        cases r1
        exact ⟨_, rfl, hP m1 H1 _ e1 hS1 (j_str x)⟩
      | _ => cases hd
def iEl (f : EM (List D)) : EM Sq := fun τ st => (f τ st).bind fun xs s1 => .ok (.fix xs) s1
theorem ei_el {tg : Expr} {fl : EM (List D)} (h : El X W e fl) : Ei X W tg e (iEl fl) := by
  refine ⟨fun m τ st σ H R hL hS hP pins s I => (pi_list (tg := tg) peW).run pins s σ H R I (h.run m τ st σ H _ hL hS ?_)⟩
  unfold iEl at hP
  cases hq : fl τ st with
  | ok ds s1 =>
    rw [hq] at hP
    intro m1 H1 v e1 hS1 ⟨a, vs, e, ha, na, hn, rs⟩
    exact ⟨a, e, ⟨vs, SqL.of ha⟩, hP m1 H1 _ e1 hS1 (j_list fun m H st e s _ => ⟨vs, SqL.of (e.frm _ _ na ha), rs.mono e⟩)⟩
  | exc x st' =>
    rw [hq] at hP
    exact hP
  | bad =>
    rw [hq] at hP
    exact hP.elim
/-- lo, lo + 1, .. below hi -/
def rng (lo hi : Int) : List D := (List.range (hi - lo).toNat).map fun k => D.int (lo + (k : Nat))
theorem j_rng {K : KW} {m0 : List Addr} {H0 : Hp} (lo hi : Int) : JOk K m0 H0 (.fix (rng lo hi)) (Itr lo (hi - lo).toNat) := fun m H st e s _ => by
  refine ⟨fun i d hd => ?_, ?_⟩
  · have hd : (rng lo hi)[i]? = some d := hd
    unfold rng at hd
    rw [List.getElem?_map] at hd
    cases hx : (List.range (hi - lo).toNat)[i]? with
    | none =>
      rw [hx] at hd
      cases hd
    | some k =>
      rw [hx] at hd
      cases hd
      obtain ⟨h1, h2⟩ := List.getElem?_eq_some_iff.mp hx
      rw [List.length_range] at h1
      rw [List.getElem_range] at h2
      subst h2
      refine ⟨h1, fun y H' hy => ?_⟩
      obtain ⟨rfl, rfl⟩ := hy
      exact ⟨.refl, s, .int _⟩
  · show (hi - lo).toNat ≤ (rng lo hi).length
    simp [rng]
def okRng (j : Int) : Bool := decide (j.natAbs < 4611686018427387904)
theorem okRng_ok {j : Int} (h : okRng j = true) : -(2 ^ 62) ≤ j ∧ j < 2 ^ 62 := by
  have q : j.natAbs < 4611686018427387904 := of_decide_eq_true h
  have q' : -4611686018427387904 ≤ j ∧ j < 4611686018427387904 := by omega
  exact q'
def iRg1 (f : EM D) : EM Sq := fun τ st => (f τ st).bind fun d s1 => match d with
  | .int j => if okRng j then .ok (.fix (rng 0 j)) s1 else .bad
  | _ => .bad
def iRg2 (fa fb : EM D) : EM Sq := fun τ st => (fa τ st).bind fun d s1 => (fb τ s1).bind fun e s2 => match d, e with
  | .int i, .int j => if okRng i && okRng j then .ok (.fix (rng i j)) s2 else .bad
  | _, _ => .bad
theorem ei_range1 {tg : Expr} (hg : Gl X "range") (hm : X.mg "range" = none) (ha : Ex X W a fa) (hs : starEach [a] X.env = [(false, eval a X.env)] := by rfl) : Ei X W tg (.Call (.Name "range" p) [a] [] pos) (iRg1 fa) := by
  refine ⟨fun m τ st σ H R hL hS hP pins s I => (pi_range1 (tg := tg) hg hm (pa_cons peW pa_nil (by rw [hs]; rfl)) hs).run pins s σ H R I (ha.run m τ st σ H _ hL hS (hP.bind fun d s1 m1 H1 v e1 hS1 r1 hP1 => ?_))⟩
  split at hP1
  · split at hP1
    · rename_i j hj
      cases r1
      obtain ⟨q1, q2⟩ := okRng_ok hj
      refine ⟨j, rfl, q1, q2, hP1.now hS1 ?_⟩
      have z := j_rng (K := X.kw) (m0 := m1) (H0 := H1) 0 j
      rw [Int.sub_zero] at z
      exact z
    · exact hP1.elim
  · exact hP1.elim
theorem ei_range2 {tg : Expr} (hg : Gl X "range") (hm : X.mg "range" = none) (ha : Ex X W a fa) (hb : Ex X W b fb) (hs : starEach [a, b] X.env = [(false, eval a X.env), (false, eval b X.env)] := by rfl) (hs2 : starEach [b] X.env = [(false, eval b X.env)] := by rfl) :
    Ei X W tg (.Call (.Name "range" p) [a, b] [] pos) (iRg2 fa fb) := by
  refine ⟨fun m τ st σ H R hL hS hP pins s I => (pi_range2 (tg := tg) hg hm (pa_cons peW (pa_cons peW pa_nil (by rw [hs2]; rfl)) (by rw [hs, hs2])) hs hs2).run pins s σ H R I ?_⟩
  refine two ha hb hL hS hP fun m2 st2 H2 dx dy x y e2 hS2 r1 r2 hP2 => ?_
  split at hP2
  · split at hP2
    · rename_i i j hij
      cases r1
      cases r2
      rw [Bool.and_eq_true] at hij
      obtain ⟨q1, q2⟩ := okRng_ok hij.1
      obtain ⟨q3, q4⟩ := okRng_ok hij.2
      exact ⟨i, j, rfl, ⟨q1, q2, q3, q4⟩, hP2.now hS2 (j_rng i j)⟩
    · exact hP2.elim
  · exact hP2.elim

/-! ### comprehensions -/
def wipeD (τ : Sl) : List Nat → Sl
  | [] => τ
  | v :: vs => (wipeD τ vs).set v none
theorem wipeD_some {τ : Sl} {i : Nat} {d : D} : ∀ {vs : List Nat}, (wipeD τ vs)[i]? = some (some d) → τ[i]? = some (some d) ∧ i ∉ vs
  | [], h => ⟨h, by simp⟩
  | v :: vs, h => by
    unfold wipeD at h
    by_cases hi : v = i
    · subst hi
      by_cases hv : v < (wipeD τ vs).length
      · rw [List.getElem?_set_self hv] at h
        cases h
      · rw [List.getElem?_eq_none (by simpa using hv)] at h
        cases h
    · rw [List.getElem?_set_ne hi] at h
      obtain ⟨h1, h2⟩ := wipeD_some h
      exact ⟨h1, by simp only [List.mem_cons, not_or]; exact ⟨fun e => hi e.symm, h2⟩⟩
theorem wipeD_len (τ : Sl) : ∀ vs : List Nat, (wipeD τ vs).length = τ.length
  | [] => rfl
  | v :: vs => by unfold wipeD; rw [List.length_set, wipeD_len τ vs]
theorem SL.wipe {K : PySem.W.Frag} {m : List Addr} {H : Hp} {τ : Sl} {σ : L2.St} (s : SL K m H τ σ) (vs : List Nat) : SL K m H (wipeD τ vs) (L2.wipe σ vs) :=
  ⟨by rw [wipeD_len, wipe_length, s.len], fun i d h => by
    obtain ⟨h1, h2⟩ := wipeD_some h
    obtain ⟨v, h3, h4⟩ := s.get i d h1
    exact ⟨v, by rw [wipe_out h2]; exact h3, h4⟩⟩
theorem wipe_same {σ σ' : L2.St} {vs : List Nat} (hl : σ'.length = σ.length) (h : ∀ j, j ∉ vs → σ'[j]? = σ[j]?) : L2.wipe σ' vs = L2.wipe σ vs := by
  apply List.ext_getElem?
  intro i
  by_cases hi : i ∈ vs
  · have z : ∀ (τ : L2.St) (us : List Nat), i ∈ us → (L2.wipe τ us)[i]? = if i < τ.length then some none else none := by
      intro τ us
      induction us with
      | nil => intro q; cases q
      | cons u us ih =>
        intro q
        unfold L2.wipe
        by_cases hu : u = i
        · subst hu
          split
          · rename_i hlt
            rw [List.getElem?_set_self (by rw [wipe_length]; exact hlt)]
          · rename_i hlt
            exact List.getElem?_eq_none (by rw [List.length_set, wipe_length]; omega)
        · rw [List.getElem?_set_ne hu]
          exact ih ((List.mem_cons.mp q).resolve_left fun e => hu e.symm)
    rw [z σ' vs hi, z σ vs hi, hl]
  · rw [wipe_out hi, wipe_out hi, h i hi]
/-- no exception leaves here -/
def _root_.HM.ER.bindN {α β : Type} (r : ER α) (k : α → Store → ER β) : ER β := match r with
  | .ok a st => k a st
  | _ => .bad
@[simp] theorem _root_.HM.ER.bindN_ok {α β : Type} (a : α) (st : Store) (k : α → Store → ER β) : (ER.ok a st).bindN k = k a st := rfl
theorem Pe.bindN {α β γ δ : Type} {K : KW} {E E' : XK} {R : List Addr → Hp → α → β → Prop} {S : List Addr → Hp → γ → δ → Prop} {m : List Addr} {H : Hp} {r : ER α} {Q : β → Hp → Prop} {k : α → Store → ER γ} {Q' : δ → Hp → Prop} (h : Pe K E S m H (r.bindN k) Q')
    (hk : ∀ a st m' H' b, Ext K m H m' H' → SS K m' st H' → R m' H' a b → Pe K E S m' H' (k a st) Q' → Q b H') : Pe K E' R m H r Q := by
  cases r with
  | ok a st => exact fun m' H' b e s q => hk a st m' H' b e s q (Pe.up h e)
  | exc x st => exact h.elim
  | bad => exact h
/-- .. read from an earlier heap -/
theorem Pe.from {α β γ δ : Type} {K : KW} {E E' : XK} {R : List Addr → Hp → α → β → Prop} {S : List Addr → Hp → γ → δ → Prop} {m m1 : List Addr} {H H1 : Hp} {r : ER α} {Q : β → Hp → Prop} {k : α → Store → ER γ} {Q' : δ → Hp → Prop} (h : Pe K E S m1 H1 (r.bindN k) Q')
    (hk : ∀ a st m' H' b, Ext K m H m' H' → SS K m' st H' → R m' H' a b → Pe K E S m1 H1 (k a st) Q' → Q b H') : Pe K E' R m H r Q := by
  cases r with
  | ok a st => exact fun m' H' b e s q => hk a st m' H' b e s q h
  | exc x st => exact h.elim
  | bad => exact h
/-- the turns of a comprehension -/
def compL (q : Sq) (set : D → Sl → Option Sl) (ft : EM Bool) (fe : EM D) (τ : Sl) : List D → List D → Store → ER (List D)
  | [], acc => fun st => if q.chk st then .ok acc st else .bad
  | d :: ds, acc => fun st => if q.chk st then match set d τ with
    | some τ1 => (ft τ1 st).bindN fun b s1 => if b then (fe τ1 s1).bindN fun x s2 => compL q set ft fe τ ds (acc ++ [x]) s2 else compL q set ft fe τ ds acc s1
    | none => .bad
  else .bad
def lComp (own : List Nat) (fi : EM Sq) (set : D → Sl → Option Sl) (ft : EM Bool) (fe : EM D) : EM (List D) := fun τ st => (fi τ st).bind fun q s1 =>
  if q.items.length ≤ 16777216 then compL q set ft fe (wipeD τ own) q.items [] s1 else .bad
/-- tests of a comprehension -/
def wTs (X : Cx) (ifs : List Expr) : TT := fun σ H Q => ∀ (pins : List (Addr × Obj)) (s : Shared), Inv X pins σ H s → wpAny (model X.prog X.w) X.A (forIn ifs true fun c r => if r = true then do let ok ← isTrue c X.env (eval c X.env); pure (ForInStep.yield ok) else pure (ForInStep.yield r)) (TP X pins σ Q) X.xe s
theorem ptsW {X : Cx} {ifs : List Expr} : PTs X ifs (wTs X ifs) := ⟨fun pins s σ H Q I h => h pins s I⟩
structure Ets (X : Cx) (W : WX) (ifs : List Expr) (f : EM Bool) : Prop where
  run : ∀ (m : List Addr) (τ : Sl) (st : Store) (σ : L2.St) (H : Hp) (Q : Bool → Hp → Prop), SL X.K m H τ σ → SS X.kw m st H → Pe X.kw (fun c d H' => W c d σ H') RB m H (f τ st) Q → wTs X ifs σ H Q
def tYes : EM Bool := fun _ st => .ok true st
theorem ets_nil : Ets X W [] tYes := ⟨fun m τ st σ H Q hL hS hP pins s I => pts_nil.run pins s σ H Q I (hP.now hS rfl)⟩
theorem ets_one (h : Et X W e g) : Ets X W [e] g := ⟨fun m τ st σ H Q hL hS hP pins s I => (pts_one ptW).run pins s σ H Q I (h.run m τ st σ H Q hL hS hP)⟩
abbrev W0 : WX := fun _ _ _ _ => False
/-- the context of a block, whatever it starts at -/
abbrev Blk (X : Cx) (scope : Scope) (P : Cx → Prop) : Prop := ∀ (s : Shared) (H : Hp) (C : Addr) (cl : List (Str × Addr)) (fp : List Addr), P (X.blk s H scope (compEnvC scope cl C X.env) fp)
abbrev BEx (X : Cx) (scope : Scope) (elt : Expr) (fe : EM D) : Prop := ∀ (s : Shared) (H : Hp) (C : Addr) (cl : List (Str × Addr)) (fp : List Addr), Ex (X.blk s H scope (compEnvC scope cl C X.env) fp) W0 elt fe
abbrev BEt (X : Cx) (scope : Scope) (ifs : List Expr) (ft : EM Bool) : Prop := ∀ (s : Shared) (H : Hp) (C : Addr) (cl : List (Str × Addr)) (fp : List Addr), Ets (X.blk s H scope (compEnvC scope cl C X.env) fp) W0 ifs ft
abbrev BEg (X : Cx) (scope : Scope) (tg : Expr) (ix : List Nat) (set : D → Sl → Option Sl) : Prop := ∀ (s : Shared) (H : Hp) (C : Addr) (cl : List (Str × Addr)) (fp : List Addr), Eg (X.blk s H scope (compEnvC scope cl C X.env) fp) tg ix set
def gAll (X : Cx) (scope : Scope) (tg : Expr) : TG := fun v σ H Q => Blk X scope fun Y => wG Y tg v σ H Q
def tAll (X : Cx) (scope : Scope) (ifs : List Expr) : TT := fun σ H Q => Blk X scope fun Y => wTs Y ifs σ H Q
def eAll (X : Cx) (scope : Scope) (e : Expr) : TE := fun σ H Q => Blk X scope fun Y => wE Y e σ H Q
/-- one turn after another -/
theorem comp_read {tg elt : Expr} {ifs : List Expr} {scope : Scope} {ix own : List Nat} {set : D → Sl → Option Sl} {ft : EM Bool} {fe : EM D} (hown : ∀ i ∈ ix, i ∈ own) (hg : BEg X scope tg ix set) (ht : BEt X scope ifs ft) (he : BEx X scope elt fe)
    {m0 : List Addr} {τ : Sl} {σ : L2.St} {H0 H1 : Hp} {st0 : Store} {m1 : List Addr} {q : Sq} {J : It} {Q : VK} {E : XK} (e1 : Ext X.K m0 H0 m1 H1) (hL : SL X.K m1 H1 τ σ) (hS : SS X.kw m1 st0 H1) (hJ : JOk X.kw m1 H1 q J) (hz : q.items.length ≤ 16777216)
    (hP : Pe X.kw E (fun m' H' ds v => ∃ a vs, v = .ref a ∧ H' a = some (.lst vs) ∧ a ∉ m' ∧ H0 a = none ∧ RDs X.K m' H' ds vs) m1 H1 (compL q set ft fe (wipeD τ own) q.items [] st0) Q) (D' : Addr) (hD : H1 D' = none) :
    ∃ W : Nat → Nat → Hp → Prop, (∃ m, W 0 m (upd H1 D' (.lst []))) ∧ ∀ i m H, W i m H →
      (J.stop i H ∧ Q (.ref D') H) ∨ (J.go i H ∧ ∃ Nx : Hp → Prop, (∀ H', Nx H' → ∃ m', m' < m ∧ W (i + 1) m' H') ∧ ∀ x H', J.yld i H x H' → gAll X scope tg x (L2.wipe σ own) H' fun σ2 H2 => L2.wipe σ2 own = L2.wipe σ own ∧ tAll X scope ifs σ2 H2 fun b H3 =>
        if b = true then eAll X scope elt σ2 H3 fun y H4 => ∃ acc, H4 D' = some (.lst acc) ∧ acc.length < sizeLine ∧ Nx (upd H4 D' (.lst (acc ++ [y]))) else Nx H3) := by
  have hD0 : H0 D' = none := e1.back hS hD
  have hn : D' ∉ m1 := hS.notin hD
  obtain ⟨Z, hZ⟩ : ∃ Z : Nat → Hp → Prop, Z = fun i H => i ≤ q.items.length ∧ ∃ (m : List Addr) (st : Store) (acc : List D) (vs : List V), Ext X.K m1 H1 m H ∧ D' ∉ m ∧ SS X.kw m st H ∧ H D' = some (.lst vs) ∧ RDs X.K m H acc vs ∧ acc.length ≤ i ∧
    Pe X.kw E (fun m' H' ds v => ∃ a vs, v = .ref a ∧ H' a = some (.lst vs) ∧ a ∉ m' ∧ H0 a = none ∧ RDs X.K m' H' ds vs) m1 H1 (compL q set ft fe (wipeD τ own) (q.items.drop i) acc st) Q := ⟨_, rfl⟩
  refine ⟨fun i k H => k = q.items.length - i ∧ Z i H, ⟨_, rfl, ?_⟩, ?_⟩
  · rw [hZ]
    refine ⟨Nat.zero_le _, m1, st0, [], [], Ext.fresh hD, hn, hS.fresh hD, upd_same, .nil, Nat.le_refl _, ?_⟩
    rw [List.drop_zero]
    exact hP
  · rintro i k H ⟨rfl, hZi⟩
    rw [hZ] at hZi
    obtain ⟨hi, m, st, acc, vs, e, hm, s, hd, rs, hacc, hP⟩ := hZi
    by_cases hlt : i < q.items.length
    · rw [List.drop_eq_getElem_cons hlt] at hP
      unfold compL at hP
      split at hP
      · rename_i hc
        obtain ⟨hgo, _⟩ := hJ m H st e s hc
        obtain ⟨go, yl⟩ := hgo i q.items[i] (by simp [hlt])
        split at hP
        · rename_i τ1 hset
          refine .inr ⟨go, Z (i + 1), fun H' h => ⟨q.items.length - (i + 1), by omega, rfl, h⟩, fun x H' hy s0 H0' C cl fp => ?_⟩
          obtain ⟨e2, s2, r2⟩ := yl x H' hy
          refine (hg s0 H0' C cl fp).run m _ τ1 st _ H' _ x _ ((hL.mono (e.trans e2)).wipe own) s2 r2 hset fun σ2 l1 l2 hL2 => ?_
          have l3 : σ2.length = σ.length := by rw [l1, wipe_length]
          have l4 : ∀ j, j ∉ own → σ2[j]? = σ[j]? := fun j hj => by rw [l2 j fun z => hj (hown j z), wipe_out hj]
          refine ⟨wipe_same l3 l4, fun s0 H0' C cl fp => ?_⟩
          have keep : ∀ {m' : List Addr} {H' : Hp}, Ext X.K m H m' H' → H' D' = some (.lst vs) ∧ D' ∉ m' := fun {m' H'} e => by
            refine ⟨e.frm D' _ hm hd, fun z => ?_⟩
            have q := e.new D' z hm
            rw [hd] at q
            cases q
          refine (ht s0 H0' C cl fp).run m τ1 st σ2 H' _ hL2 s2 (Pe.from (m := m) (H := H') hP fun b s3 m3 H3 b' e3 hS3 r3 hP3 => ?_)
          subst r3
          cases b with
          | false =>
            refine iteF ?_
            rw [hZ]
            obtain ⟨k1, k2⟩ := keep (e2.trans e3)
            exact ⟨by omega, m3, s3, acc, vs, e.trans (e2.trans e3), k2, hS3, k1, rs.mono (e2.trans e3), by omega, hP3⟩
          | true =>
            refine iteT fun s0 H0' C cl fp => (he s0 H0' C cl fp).run m3 τ1 s3 σ2 H3 _ (hL2.mono e3) hS3 (Pe.from (m := m3) (H := H3) (k := fun x s2 => compL q set ft fe (wipeD τ own) (List.drop (i + 1) q.items) (acc ++ [x]) s2) hP3 fun y s4 m4 H4 y' e4 hS4 r4 hP4 => ?_)
            obtain ⟨k1, k2⟩ := keep ((e2.trans e3).trans e4)
            have rs4 := rs.mono ((e2.trans e3).trans e4)
            have hz' : vs.length < sizeLine := by
              rw [← rs.len, PySem.sizeLine_eq]
              omega
            have e5 : Ext X.K m1 H1 m4 H4 := e.trans ((e2.trans e3).trans e4)
            have e6 : Ext X.K m1 H1 m4 (upd H4 D' (.lst (vs ++ [y']))) := {
              pre := e5.pre
              tup := fun a us h => (Kp.write (K := X.K) (m := m4) k1).tup a us (e5.tup a us h)
              fzl := fun a us h => (Kp.write (K := X.K) (m := m4) k1).fzl a us (e5.fzl a us h)
              frm := fun a o q h => by
                rw [upd_ne (ne_of_none h hD)]
                exact e5.frm a o q h
              new := e5.new }
            refine ⟨vs, k1, hz', ?_⟩
            rw [hZ]
            refine ⟨by omega, m4, s4, acc ++ [y], vs ++ [y'], e6, k2, hS4.other k1 k2, upd_same, (rs4.append (.cons r4 .nil)).kp (Kp.write k1), by rw [List.length_append, List.length_singleton]; omega, ?_⟩
            exact hP4
        · exact hP.elim
      · exact hP.elim
    · have e0 : i = q.items.length := by omega
      subst e0
      rw [List.drop_length] at hP
      unfold compL at hP
      split at hP
      · rename_i hc
        obtain ⟨_, stop⟩ := hJ m H st e s hc
        exact .inl ⟨stop, hP m H (.ref D') e s ⟨D', vs, rfl, hd, hm, hD0, rs⟩⟩
      · exact hP.elim
end
end HM

/-! HM, part 6: list comprehensions, statements. -/
namespace HM
open PySem PySem.Spec PyProof.Rows L2
section
variable {X : Cx} {W : WX} {e a b c : Expr} {es rest : List Expr} {pos p : Pos} {f fa fb fc : EM D} {fs : EM (List D)} {g ga gb : EM Bool}
theorem comp_post {tg elt iter : Expr} {ifs : List Expr} {scope : Scope} {own : List (Str × Nat)} {ix : List Nat} {set : D → Sl → Option Sl} {ft : EM Bool} {fe : EM D} {fi : EM Sq} (hi : Ei X W tg iter fi) (hown : ∀ i ∈ ix, i ∈ own.map (·.2))
    (hg : BEg X scope tg ix set) (ht : BEt X scope ifs ft) (he : BEx X scope elt fe) {m : List Addr} {τ : Sl} {st : Store} {σ : L2.St} {H : Hp} {Q : VK} (hL : SL X.K m H τ σ) (hS : SS X.kw m st H)
    (hP : Pe X.kw (fun c d H' => W c d σ H') (fun m' H' ds v => ∃ a vs, v = .ref a ∧ H' a = some (.lst vs) ∧ a ∉ m' ∧ H a = none ∧ RDs X.K m' H' ds vs) m H (lComp (own.map (·.2)) fi set ft fe τ st) Q) :
    tLc (wI X tg iter) (gAll X scope tg) (tAll X scope ifs) (eAll X scope elt) (own.map (·.2)) σ H Q := by
  unfold lComp at hP
  refine hi.run m τ st σ H _ hL hS ?_
  cases hq : fi τ st with
  | bad =>
    rw [hq] at hP
    exact hP.elim
  | exc x s1 =>
    rw [hq] at hP
    exact hP
  | ok q s1 =>
    rw [hq] at hP
    intro m1 H1 J e1 hS1 hJ D' hD
    have hP : Pe X.kw (fun c d H' => W c d σ H') (fun m' H' ds v => ∃ a vs, v = .ref a ∧ H' a = some (.lst vs) ∧ a ∉ m' ∧ H a = none ∧ RDs X.K m' H' ds vs) m H (if q.items.length ≤ 16777216 then compL q set ft fe (wipeD τ (own.map (·.2))) q.items [] s1 else .bad) Q := hP
    split at hP
    · rename_i hz
      exact comp_read (E := fun c d H' => W c d σ H') hown hg ht he e1 (hL.mono e1) hS1 hJ hz (hP.up e1) D' hD
    · exact hP.elim
theorem el_comp {tg elt iter : Expr} {ifs : List Expr} {scope : Scope} {own : List (Str × Nat)} {ix : List Nat} {set : D → Sl → Option Sl} {ft : EM Bool} {fe : EM D} {fi : EM Sq} (hc : X.calm = true) (hN : X.N.Nodup) (hi : Ei X W tg iter fi) (ok : BlkOk X.N X.env.scope scope own)
    (hg : BEg X scope tg ix set) (ht : BEt X scope ifs ft) (he : BEx X scope elt fe) (hown : ∀ i ∈ ix, i ∈ own.map (·.2) := by decide) (hs : ∀ x, foldedSetIterable iter X.env x = pure x := by intro _; rfl) :
    El X W (.ListComp elt [⟨tg, iter, ifs, 0⟩] scope pos) (lComp (own.map (·.2)) fi set ft fe) := by
  refine ⟨fun m τ st σ H Q hL hS hP pins s I => ?_⟩
  refine (pe_lc (g := gAll X scope tg) (tt := tAll X scope ifs) (te := eAll X scope elt) hc hN piW ok ?_ ?_ ?_ hs).run pins s σ H Q I (comp_post hi hown hg ht he hL hS hP)
  · exact fun s H C cl fp => ⟨fun pins s' σ H' v u Q I r h => h s H C cl fp pins s' u I r⟩
  · exact fun s H C cl fp => ⟨fun pins s' σ H' Q I h => h s H C cl fp pins s' I⟩
  · exact fun s H C cl fp => ⟨fun pins s' σ H' Q I h => h s H C cl fp pins s' I⟩
end

/-! ### statements -/
/-- behind a statement -/
def Ps (K : KW) (W : WX) (m : List Addr) (H : Hp) (r : SR) (D : Ends) : Prop := match r with
  | .nx τ st => ∀ m' H' σ, Ext K m H m' H' → SS K m' st H' → SL K m' H' τ σ → D.nx σ H'
  | .bk τ st => ∀ m' H' σ, Ext K m H m' H' → SS K m' st H' → SL K m' H' τ σ → D.bk σ H'
  | .ct τ st => ∀ m' H' σ, Ext K m H m' H' → SS K m' st H' → SL K m' H' τ σ → D.ct σ H'
  | .rt d st => ∀ m' H' v, Ext K m H m' H' → SS K m' st H' → RD K m' H' d v → D.rt v H'
  | .exc x τ st => ∀ m' H' σ c d, Ext K m H m' H' → SS K m' st H' → SL K m' H' τ σ → XR K m' H' x c d → W c d σ H'
  | .bad => False
theorem Ps.up {K : KW} {W : WX} {m m1 : List Addr} {H H1 : Hp} {r : SR} {D : Ends} (h : Ps K W m H r D) (e : Ext K m H m1 H1) : Ps K W m1 H1 r D := by
  cases r with
  | nx τ st => exact fun m' H' σ e' => h m' H' σ (e.trans e')
  | bk τ st => exact fun m' H' σ e' => h m' H' σ (e.trans e')
  | ct τ st => exact fun m' H' σ e' => h m' H' σ (e.trans e')
  | rt d st => exact fun m' H' σ e' => h m' H' σ (e.trans e')
  | exc x τ st => exact fun m' H' σ c d e' => h m' H' σ c d (e.trans e')
  | bad => exact h
def wS (X : Cx) (st : Stmt) : TS := fun D σ H => ∀ (pins : List (Addr × Obj)) (s : Shared), Inv X pins σ H s → wpAny (model X.prog X.w) X.A (exec st X.env) (SP X pins D) X.xe s
def wSs (X : Cx) (st : List Stmt) : TS := fun D σ H => ∀ (pins : List (Addr × Obj)) (s : Shared), Inv X pins σ H s → wpAny (model X.prog X.w) X.A (execs st X.env) (SP X pins D) X.xe s
theorem psW {X : Cx} {st : Stmt} : PS X st (wS X st) := ⟨fun pins s σ H D I h => h pins s I⟩
theorem pssW {X : Cx} {st : List Stmt} : PSs X st (wSs X st) := ⟨fun pins s σ H D I h => h pins s I⟩
structure Sx (X : Cx) (W : WX) (st : Stmt) (f : SM) : Prop where
  run : ∀ (m : List Addr) (τ : Sl) (s : Store) (σ : L2.St) (H : Hp) (D : Ends), SL X.K m H τ σ → SS X.kw m s H → Ps X.kw W m H (f τ s) D → wS X st D σ H
structure Sxs (X : Cx) (W : WX) (st : List Stmt) (f : SM) : Prop where
  run : ∀ (m : List Addr) (τ : Sl) (s : Store) (σ : L2.St) (H : Hp) (D : Ends), SL X.K m H τ σ → SS X.kw m s H → Ps X.kw W m H (f τ s) D → wSs X st D σ H
/-- an expression, then the rest of a statement -/
def bindE {α : Type} (r : ER α) (τ : Sl) (k : α → Store → SR) : SR := match r with
  | .ok a st => k a st
  | .exc x st => .exc x τ st
  | .bad => .bad
@[simp] theorem bindE_ok {α : Type} (a : α) (st : Store) (τ : Sl) (k : α → Store → SR) : bindE (.ok a st) τ k = k a st := rfl
@[simp] theorem bindE_exc {α : Type} (x : Xc) (st : Store) (τ : Sl) (k : α → Store → SR) : bindE (.exc x st : ER α) τ k = .exc x τ st := rfl
@[simp] theorem bindE_bad {α : Type} (τ : Sl) (k : α → Store → SR) : bindE (.bad : ER α) τ k = .bad := rfl
theorem Ps.bind {α β : Type} {K : KW} {W : WX} {R : List Addr → Hp → α → β → Prop} {m : List Addr} {H : Hp} {r : ER α} {τ : Sl} {σ : L2.St} {k : α → Store → SR} {D : Ends} {Q : β → Hp → Prop} (hL : SL K m H τ σ) (h : Ps K W m H (bindE r τ k) D)
    (hk : ∀ a st m' H' b, Ext K m H m' H' → SS K m' st H' → R m' H' a b → Ps K W m' H' (k a st) D → Q b H') : Pe K (fun c d H' => W c d σ H') R m H r Q := by
  cases r with
  | ok a st => exact fun m' H' b e s q => hk a st m' H' b e s q (Ps.up h e)
  | exc x st => exact fun m' H' c d e s q => h m' H' σ c d e s (hL.mono e) q
  | bad => exact h
def sSeq (f g : SM) : SM := fun τ st => match f τ st with
  | .nx τ1 s1 => g τ1 s1
  | r => r
def sNil : SM := fun τ st => .nx τ st
section
variable {X : Cx} {W : WX} {e a b c : Expr} {es rest : List Expr} {pos p : Pos} {fa fb fc fe : EM D} {fs : EM (List D)} {g ga gb : EM Bool} {s1 : Stmt} {ss body : List Stmt} {f h k : SM}
theorem sx_nil : Sxs X W [] sNil := ⟨fun m τ s σ H D hL hS hP pins sh I => pss_nil.run pins sh σ H D I (hP m H σ .refl hS hL)⟩
theorem sx_cons (h1 : Sx X W s1 f) (h2 : Sxs X W ss h) : Sxs X W (s1 :: ss) (sSeq f h) := by
  refine ⟨fun m τ s σ H D hL hS hP pins sh I => (pss_cons psW pssW).run pins sh σ H D I (h1.run m τ s σ H _ hL hS ?_)⟩
  unfold sSeq at hP
  cases hq : f τ s with
  | nx τ1 s1 =>
    rw [hq] at hP
    exact fun m1 H1 σ1 e1 hS1 hL1 => h2.run m1 τ1 s1 σ1 H1 D hL1 hS1 (hP.up e1)
  | bk τ1 s1 =>
    rw [hq] at hP
    exact hP
  | ct τ1 s1 =>
    rw [hq] at hP
    exact hP
  | rt d s1 =>
    rw [hq] at hP
    exact hP
  | exc x τ1 s1 =>
    rw [hq] at hP
    exact hP
  | bad =>
    rw [hq] at hP
    exact hP
theorem sx_one (h1 : Sx X W s1 f) : Sxs X W [s1] f := by
  refine ⟨fun m τ s σ H D hL hS hP pins sh I => (pss_one psW).run pins sh σ H D I (h1.run m τ s σ H _ hL hS hP)⟩
theorem sx_pass : Sx X W (.Pass pos) sNil := ⟨fun m τ s σ H D hL hS hP pins sh I => ps_pass.run pins sh σ H D I (hP m H σ .refl hS hL)⟩
def sBrk : SM := fun τ st => .bk τ st
def sCnt : SM := fun τ st => .ct τ st
theorem sx_break : Sx X W (.Break pos) sBrk := ⟨fun m τ s σ H D hL hS hP pins sh I => ps_break.run pins sh σ H D I (hP m H σ .refl hS hL)⟩
theorem sx_continue : Sx X W (.Continue pos) sCnt := ⟨fun m τ s σ H D hL hS hP pins sh I => ps_continue.run pins sh σ H D I (hP m H σ .refl hS hL)⟩
def sRet (fe : EM D) : SM := fun τ st => bindE (fe τ st) τ fun d s1 => .rt d s1
theorem sx_ret (he : Ex X W e fe) : Sx X W (.Return (some e) pos) (sRet fe) := by
  refine ⟨fun m τ s σ H D hL hS hP pins sh I => (ps_ret peW).run pins sh σ H D I ?_⟩
  exact he.run m τ s σ H _ hL hS (hP.bind hL fun d s1 m1 H1 v e1 hS1 r1 hP1 => hP1 m1 H1 v .refl hS1 r1)
def sRetN : SM := fun _ st => .rt .non st
theorem sx_retN : Sx X W (.Return none pos) sRetN := ⟨fun m τ s σ H D hL hS hP pins sh I => ps_retN.run pins sh σ H D I (hP m H .non .refl hS .non)⟩
def sExpr (fe : EM D) : SM := fun τ st => bindE (fe τ st) τ fun _ s1 => .nx τ s1
theorem sx_expr (he : Ex X W e fe) (hs : swapsWith e none pos.line X.env = pure false := by rfl) : Sx X W (.Expr e pos) (sExpr fe) := by
  refine ⟨fun m τ s σ H D hL hS hP pins sh I => (ps_expr peW hs).run pins sh σ H D I ?_⟩
  exact he.run m τ s σ H _ hL hS (hP.bind hL fun d s1 m1 H1 v e1 hS1 r1 hP1 => hP1 m1 H1 σ .refl hS1 (hL.mono e1))
def sIf (g : EM Bool) (f h : SM) : SM := fun τ st => bindE (g τ st) τ fun b s1 => if b then f τ s1 else h τ s1
theorem sx_if {sa sb : List Stmt} (hc : Et X W c g) (ha : Sxs X W sa f) (hb : Sxs X W sb h) : Sx X W (.If c sa sb pos) (sIf g f h) := by
  refine ⟨fun m τ s σ H D hL hS hP pins sh I => (ps_if ptW pssW pssW).run pins sh σ H D I ?_⟩
  refine hc.run m τ s σ H _ hL hS (hP.bind hL fun d s1 m1 H1 v e1 hS1 r1 hP1 => ?_)
  subst r1
  cases d with
  | true => exact iteT (ha.run m1 τ s1 σ H1 D (hL.mono e1) hS1 hP1)
  | false => exact iteF (hb.run m1 τ s1 σ H1 D (hL.mono e1) hS1 hP1)
/-- name = e -/
def sSet (i : Nat) (fe : EM D) : SM := fun τ st => bindE (fe τ st) τ fun d s1 => .nx (τ.set i (some d)) s1
theorem sx_set {i : Nat} {x : Str} {pos' : Pos} (hN : X.N.Nodup) (he : Ex X W e fe) (hi : X.N[i]? = some x := by rfl) (hx : Loc X.env.scope x := by first | exact Or.inl rfl | exact Or.inr rfl) (hs : swapsWith e (some (.Name x pos')) pos.line X.env = pure false := by rfl)
    (hf : X.fn x = true ∨ X.env.scope.names.lookup x = some .local := by first | exact .inl rfl | exact .inr rfl) : Sx X W (.Assign [.Name x pos'] e pos) (sSet i fe) := by
  refine ⟨fun m τ s σ H D hL hS hP pins sh I => (ps_set hN hi hx peW hs hf).run pins sh σ H D I ?_⟩
  exact he.run m τ s σ H _ hL hS (hP.bind hL fun d s1 m1 H1 v e1 hS1 r1 hP1 => hP1 m1 H1 _ .refl hS1 ((hL.mono e1).set i r1))
/-- target = e -/
def sAsg (set : D → Sl → Option Sl) (fe : EM D) : SM := fun τ st => bindE (fe τ st) τ fun d s1 => match set d τ with
  | some τ1 => .nx τ1 s1
  | none => .bad
theorem sx_asg {tg : Expr} {ix : List Nat} {set : D → Sl → Option Sl} (he : Ex X W e fe) (hg : Eg X tg ix set) (hs : swapsWithSole [tg] e pos.line X.env = pure false := by rfl) (hw : swappedStores [tg] e X.env = pure none := by rfl) (h1 : (assignEach [tg] X.env).map (·.2) = [assign tg X.env] := by rfl) : Sx X W (.Assign [tg] e pos) (sAsg set fe) := by
  refine ⟨fun m τ s σ H D hL hS hP pins sh I => (ps_asg peW pgW hs hw h1).run pins sh σ H D I ?_⟩
  refine he.run m τ s σ H _ hL hS (hP.bind hL fun d s1 m1 H1 v e1 hS1 r1 hP1 => ?_)
  split at hP1
  · rename_i τ1 hset
    exact hg.run m1 τ τ1 s1 σ H1 d v _ (hL.mono e1) hS1 r1 hset fun σ2 _ _ hL2 => hP1 m1 H1 σ2 .refl hS1 hL2
  · exact hP1.elim
/-- name op= e -/
def sAug (i : Nat) (o : O2) (fe : EM D) : SM := fun τ st => match τ[i]? with
  | some (some x) => bindE (fe τ st) τ fun y s1 => bindE (o x y s1) τ fun z s2 => .nx (τ.set i (some z)) s2
  | _ => .bad
theorem sx_aug {i : Nat} {x : Str} {pos' : Pos} {op : Operator} {o : O2} (hN : X.N.Nodup) (he : Ex X W e fe) (ho : OpM X W (inplaceOp op) o) (hi : X.N[i]? = some x := by rfl) (hx : Loc X.env.scope x := by first | exact Or.inl rfl | exact Or.inr rfl)
    (hf : X.fn x = true ∨ X.env.scope.names.lookup x = some .local := by first | exact .inl rfl | exact .inr rfl) : Sx X W (.AugAssign (.Name x pos') op e pos) (sAug i o fe) := by
  refine ⟨fun m τ s σ H D hL hS hP pins sh I => ?_⟩
  unfold sAug at hP
  split at hP
  · rename_i d0 hd0
    obtain ⟨v0, h1, h2⟩ := hL.get i d0 hd0
    obtain ⟨mm, hn, hl⟩ := I.loc
    have vis : Vis X.env.scope x := by
      rcases hx with k | k
      · exact .inl k
      · exact .inr (.inl k)
    obtain ⟨u0, r0, l⟩ := hl i x v0 hi h1 vis
    refine wpAny_AugAssign_Name ?_
    have go : wpAny (model X.prog X.w) X.A (eval e X.env) (fun w s₂ => wpAny (model X.prog X.w) X.A (inplaceOp op u0 w) (fun r s₃ => wpAny (model X.prog X.w) X.A (storeName X.env x r) (fun _ => SP X pins D .next) X.xe s₃) X.xe s₂) X.xe sh := by
      refine thn (he.run m τ s σ H (fun y H1 => wR2 X (inplaceOp op) σ v0 y H1 fun z H2 => D.nx (σ.set i (some z)) H2) hL hS (hP.bind hL fun dy s1 m1 H1 y e1 hS1 r1 hP1 pins s v u I rx ry => ?_) pins sh I) fun w s1 ⟨y, H1, I1, r1, q1⟩ => ?_
      · exact ho m1 s1 σ H1 d0 dy v0 y _ hS1 (h2.mono e1) r1 (hP1.bind (hL.mono e1) fun dz s2 m2 H2 z e2 hS2 r2 hP2 => hP2 m2 H2 _ .refl hS2 (((hL.mono e1).mono e2).set i r2)) pins s v u I rx ry
      · refine thn (q1 pins s1 u0 w I1 r0 r1) fun z s2 ⟨zv, H2, I2, r2, q2⟩ => ?_
        exact store_ok I2 hN hi hx r2 (fun s3 I3 => ⟨_, H2, I3, q2⟩) hf
    rcases l with ⟨hk, hm⟩ | ⟨hk, c, hc, hcell⟩
    · exact wpAny_loadName_local I.ok.kind hk hn hm go
    · rcases hk with hk | hk
      · exact wpAny_loadName_cell I.ok.kind hk hc hcell go
      · rcases hx with k | k
        · have : X.env.scope.names.lookup x = some .free := hk
          rw [k] at this
          cases this
        · have : X.env.scope.names.lookup x = some .free := hk
          rw [k] at this
          cases this
  · exact hP.elim
/-- o[i] = e (a list) -/
def oSetS : D → D → D → Store → Option Store := fun o i v st => match o, i with
  | .ref n, .int k => match lstAt st n with
    | some xs => match ixN xs.length k with
      | some j => some (st.set n (.lst (xs.set j v)))
      | none => none
    | none => none
  | _, _ => none
/-- the order: the value, then the object, then the index -/
def sSubS (fo fi fe : EM D) : SM := fun τ st => bindE (fe τ st) τ fun v s1 => bindE (fo τ s1) τ fun o s2 => bindE (fi τ s2) τ fun i s3 => match oSetS o i v s3 with
  | some s4 => .nx τ s4
  | none => .bad
theorem set_readS {K : KW} {m : List Addr} {st st' : Store} {H : Hp} {o i v : D} {vo vi vv : V} (hS : SS K m st H) (ro : RD K m H o vo) (ri : RD K m H i vi) (rv : RD K m H v vv) (h : oSetS o i v st = some st') :
    ∃ p xs k j, vo = .ref p ∧ vi = .int k ∧ H p = some (.lst xs) ∧ ixN xs.length k = some j ∧ Ext K m H m (upd H p (.lst (xs.set j vv))) ∧ SS K m st' (upd H p (.lst (xs.set j vv))) := by
  unfold oSetS at h
  split at h
  · split at h
    · rename_i xs hx
      split at h
      · rename_i j hj
        cases h
        cases ro with
        | ref q =>
          cases ri
          obtain ⟨vs, h1, h2⟩ := hS.list hx q
          exact ⟨_, vs, _, j, rfl, rfl, h1, by rw [← h2.len]; exact hj, Ext.write h1 q, hS.write h1 q (h2.set rv j)⟩
      · cases h
    · cases h
  · cases h
theorem sx_subS {o i : Expr} {p' : Pos} {fo fi : EM D} (he : Ex X W e fe) (ho : Ex X W o fo) (hi : Ex X W i fi)
    (ha : ∀ v, assign (.Subscript o i p') X.env v = (do
      let ov ← holding [v] (eval o X.env)
      let iv ← holding [v, ov] (eval i X.env)
      standAt p'
      holding [v, ov, iv] (setItem ov iv v)
      release [v, ov, iv] []) := by intro _; rfl)
    (hs : swapsWithSole [.Subscript o i p'] e pos.line X.env = pure false := by rfl) (hw : swappedStores [.Subscript o i p'] e X.env = pure none := by rfl) (h1 : (assignEach [.Subscript o i p'] X.env).map (·.2) = [assign (.Subscript o i p') X.env] := by rfl) : Sx X W (.Assign [.Subscript o i p'] e pos) (sSubS fo fi fe) := by
  refine ⟨fun m τ s σ H D hL hS hP pins sh I => (ps_asg peW (pg_sub peW peW set_list ha) hs hw h1).run pins sh σ H D I ?_⟩
  refine he.run m τ s σ H _ hL hS (hP.bind hL fun v s1 m1 H1 vv e1 hS1 r1 hP1 => ?_)
  refine ho.run m1 τ s1 σ H1 _ (hL.mono e1) hS1 (hP1.bind (hL.mono e1) fun o s2 m2 H2 vo e2 hS2 r2 hP2 => ?_)
  refine hi.run m2 τ s2 σ H2 _ ((hL.mono e1).mono e2) hS2 (hP2.bind ((hL.mono e1).mono e2) fun i s3 m3 H3 vi e3 hS3 r3 hP3 => ?_)
  split at hP3
  · rename_i s4 h4
    obtain ⟨p, xs, k, j, q1, q2, q3, q4, q5, q6⟩ := set_readS hS3 (r2.mono e3) r3 ((r1.mono e2).mono e3) h4
    exact ⟨p, xs, k, j, q1, q2, q3, q4, hP3 m3 _ σ q5 q6 ((((hL.mono e1).mono e2).mono e3).mono q5)⟩
  · exact hP3.elim
/-- o[i] op= e -/
def oGetLS : O2 := fun x i st => match x, i with
  | .ref n, .int k => match lstAt st n with
    | some xs => match atI xs k with
      | some d => .ok d st
      | none => .bad
    | none => .bad
  | _, _ => .bad
def sAugSS (o : O2) (fo fi fe : EM D) : SM := fun τ st => bindE (fo τ st) τ fun x s1 => bindE (fi τ s1) τ fun i s2 => bindE (oGetLS x i s2) τ fun y s3 => bindE (fe τ s3) τ fun z s4 => bindE (o y z s4) τ fun v s5 => match oSetS x i v s5 with
  | some s6 => .nx τ s6
  | none => .bad
theorem get_list : PGet X (rIxL X.K) := by
  intro pins s σ H x y v u Q I rx ry h
  obtain ⟨p, xs, i, z, rfl, rfl, hq, he, q⟩ := h
  cases rx
  obtain ⟨t, rfl⟩ := ry
  obtain ⟨its, r, pl, hz⟩ := I.list hq
  obtain ⟨j, h1, h2, h3, h4, h5⟩ := atI_get he
  obtain ⟨w, ew, rw'⟩ := r.get h2
  have hl := r.length
  have hn := line63
  have fin : EP X pins σ Q w s := ⟨z, H, I, rw', q⟩
  by_cases h0 : 0 ≤ i
  · have hj : i.toNat = j := by
      rw [seqIndex_of h0 h5] at h1
      exact Option.some.inj h1
    exact wpAny_getItem_list pl.isList h0 (by omega) (by rw [hj]; simpa using ew) fin
  · have hj : (i + (its.toArray.size : Int)).toNat = j := by
      rw [seqIndex_neg (by omega) h4] at h1
      rw [List.size_toArray, ← hl]
      exact Option.some.inj h1
    exact wpAny_getItem_list_neg pl.isList (by omega) (by rw [List.size_toArray] <;> omega) (by omega) (by rw [hj]; simpa using ew) fin
theorem getL_readS {K : KW} {E : XK} {m : List Addr} {st : Store} {H : Hp} {x i : D} {vx vi : V} {Q : VK} (hS : SS K m st H) (rx : RD K m H x vx) (ri : RD K m H i vi) (h : Pe K E (RD K) m H (oGetLS x i st) Q) : rIxL K vx vi H Q := by
  unfold oGetLS at h
  split at h
  · split at h
    · split at h
      · rename_i xs hx _ d hd
        cases rx with
        | ref q =>
          cases ri
          obtain ⟨vs, h1, h2⟩ := hS.list hx q
          obtain ⟨v, h3, h4⟩ := atI_rds h2 hd
          exact ⟨_, vs, _, v, rfl, rfl, SqL.of h1, h3, h.now hS h4⟩
      · exact h.elim
    · exact h.elim
  · exact h.elim
theorem sx_augSS {o i : Expr} {p' : Pos} {fo fi : EM D} {op : Operator} {op2 : O2} (ho : Ex X W o fo) (hi : Ex X W i fi) (he : Ex X W e fe) (hop : OpM X W (inplaceOp op) op2)
    (ha : ∀ ov iv new, augStore i ov iv new = (do holding [new, ov, iv] (setItem ov iv new); release [new, ov, iv] []; pure .next) := by intros; rfl) : Sx X W (.AugAssign (.Subscript o i p') op e pos) (sAugSS op2 fo fi fe) := by
  refine ⟨fun m τ s σ H D hL hS hP pins sh I => ?_⟩
  have read : wE X o σ H fun vo H1 => wE X i σ H1 fun vi H2 => rIxL X.K vo vi H2 fun vy H3 => wE X e σ H3 fun vz H4 => wR2 X (inplaceOp op) σ vy vz H4 fun vv H5 => rSetL vo vi vv H5 fun H6 => D.nx σ H6 := by
    refine ho.run m τ s σ H _ hL hS (hP.bind hL fun dx s1 m1 H1 vx e1 hS1 r1 hP1 => ?_)
    have hL1 := hL.mono e1
    refine hi.run m1 τ s1 σ H1 _ hL1 hS1 (hP1.bind hL1 fun di s2 m2 H2 vi e2 hS2 r2 hP2 => ?_)
    have hL2 := hL1.mono e2
    refine getL_readS hS2 (r1.mono e2) r2 (hP2.bind hL2 fun dy s3 m3 H3 vy e3 hS3 r3 hP3 => ?_)
    have hL3 := hL2.mono e3
    refine he.run m3 τ s3 σ H3 _ hL3 hS3 (hP3.bind hL3 fun dz s4 m4 H4 vz e4 hS4 r4 hP4 => ?_)
    have hL4 := hL3.mono e4
    intro pins s v u I rv ru
    refine hop m4 s4 σ H4 dy dz vy vz _ hS4 (r3.mono e4) r4 (hP4.bind hL4 fun dv s5 m5 H5 vv e5 hS5 r5 hP5 => ?_) pins s v u I rv ru
    have hL5 := hL4.mono e5
    split at hP5
    · rename_i s6 h6
      have e25 := ((e3.trans e4).trans e5)
      obtain ⟨p, xs, k, j, q1, q2, q3, q4, q5, q6⟩ := set_readS hS5 ((r1.mono e2).mono e25) (r2.mono e25) r5 h6
      exact ⟨p, xs, k, j, q1, q2, q3, q4, hP5 m5 _ σ q5 q6 (hL5.mono q5)⟩
    · exact hP5.elim
  refine wpAny_AugAssign_SubscriptAny (thn (read pins sh I) fun ov s1 ⟨x1, H1, I1, r1, q1⟩ => ?_) ha
  refine thn (q1 pins s1 I1) fun iv s2 ⟨x2, H2, I2, r2, q2⟩ => ?_
  refine thn (get_list pins s2 σ H2 x1 x2 ov iv _ I2 r1 r2 q2) fun old s3 ⟨x3, H3, I3, r3, q3⟩ => ?_
  refine thn (q3 pins s3 I3) fun v s4 ⟨x4, H4, I4, r4, q4⟩ => ?_
  refine thn (q4 pins s4 old v I4 r3 r4) fun new s5 ⟨x5, H5, I5, r5, q5⟩ => ?_
  exact thn (set_list pins s5 σ H5 x1 x2 x5 ov iv new _ I5 r1 r2 r5 q5) fun _ s6 ⟨H6, I6, q6⟩ => ⟨σ, H6, I6, q6⟩
/-! ### loops -/
def forL (q : Sq) (set : D → Sl → Option Sl) (body : SM) : List D → SM
  | [], τ, st => if q.chk st then .nx τ st else .bad
  | d :: ds, τ, st => if q.chk st then match set d τ with
    | some τ1 => match body τ1 st with
      | .nx τ2 s2 => forL q set body ds τ2 s2
      | .ct τ2 s2 => forL q set body ds τ2 s2
      | .bk τ2 s2 => .nx τ2 s2
      | r => r
    | none => .bad
  else .bad
def sFor (fi : EM Sq) (set : D → Sl → Option Sl) (body : SM) : SM := fun τ st => bindE (fi τ st) τ fun q s1 => forL q set body q.items τ s1
theorem sx_for {tg iter : Expr} {ix : List Nat} {set : D → Sl → Option Sl} {fi : EM Sq} (hp : PassesOwn (model X.prog X.w) X.A X.env X.xe) (hc : X.calm = true) (hi : Ei X W tg iter fi) (hg : Eg X tg ix set) (hb : Sxs X W body f) (hs : ∀ x, foldedSetIterable iter X.env x = pure x := by intro _; rfl) : Sx X W (.For tg iter body [] pos) (sFor fi set f) := by
  refine ⟨fun m τ s σ H D hL hS hP pins sh I => (ps_for hp hc piW pgW pssW hs).run pins sh σ H D I ?_⟩
  refine hi.run m τ s σ H _ hL hS (hP.bind hL fun q s1 m1 H1 J e1 hS1 hJ hP1 => ?_)
  refine ⟨fun i k σ H => k = q.items.length - i ∧ i ≤ q.items.length ∧ ∃ (m : List Addr) (τ : Sl) (st : Store), Ext X.K m1 H1 m H ∧ SS X.kw m st H ∧ SL X.K m H τ σ ∧ Ps X.kw W m H (forL q set f (q.items.drop i) τ st) D, ⟨_, rfl, Nat.zero_le _, m1, τ, s1, .refl, hS1, hL.mono e1, by rw [List.drop_zero]; exact hP1⟩, ?_⟩
  rintro i k σ H ⟨rfl, hi, m, τ, st, e, hS, hL, hP⟩
  by_cases hlt : i < q.items.length
  · rw [List.drop_eq_getElem_cons hlt] at hP
    unfold forL at hP
    split at hP
    · rename_i hc
      obtain ⟨hgo, _⟩ := hJ m H st e hS hc
      obtain ⟨go, yl⟩ := hgo i q.items[i] (by simp [hlt])
      split at hP
      · rename_i τ1 hset
        refine .inr ⟨go, fun σ' H' => i + 1 ≤ q.items.length ∧ ∃ (m : List Addr) (τ : Sl) (st : Store), Ext X.K m1 H1 m H' ∧ SS X.kw m st H' ∧ SL X.K m H' τ σ' ∧ Ps X.kw W m H' (forL q set f (q.items.drop (i + 1)) τ st) D, fun σ' H' h => ⟨q.items.length - (i + 1), by omega, rfl, h⟩, fun x H' hy => ?_⟩
        obtain ⟨e2, s2, r2⟩ := yl x H' hy
        refine hg.run m τ τ1 st σ H' _ x _ (hL.mono e2) s2 r2 hset fun σ2 _ _ hL2 => ?_
        refine hb.run m τ1 st σ2 H' _ hL2 s2 ?_
        have hP := hP.up e2
        cases hq : f τ1 st with
        | nx τ2 s3 =>
          rw [hq] at hP
          exact fun m3 H3 σ3 e3 hS3 hL3 => ⟨by omega, m3, τ2, s3, e.trans (e2.trans e3), hS3, hL3, hP.up e3⟩
        | ct τ2 s3 =>
          rw [hq] at hP
          exact fun m3 H3 σ3 e3 hS3 hL3 => ⟨by omega, m3, τ2, s3, e.trans (e2.trans e3), hS3, hL3, hP.up e3⟩
        | bk τ2 s3 =>
          rw [hq] at hP
          exact hP
        | rt d s3 =>
          rw [hq] at hP
          exact hP
        | exc x τ2 s3 =>
          rw [hq] at hP
          exact hP
        | bad =>
          rw [hq] at hP
          exact hP
      · exact hP.elim
    · exact hP.elim
  · have e0 : i = q.items.length := by omega
    subst e0
    rw [List.drop_length] at hP
    unfold forL at hP
    split at hP
    · rename_i hc
      obtain ⟨_, stop⟩ := hJ m H st e hS hc
      exact .inl ⟨stop, hP m H σ .refl hS hL⟩
    · exact hP.elim
/-- more turns than any loop here takes -/
@[irreducible] def big : Nat := 2 ^ 20000
theorem le_big {k n : Nat} (hk : k ≤ 20000) (h : n ≤ 2 ^ k) : n ≤ big := by
  unfold big
  exact Nat.le_trans h (Nat.pow_le_pow_right (by decide) hk)
/-- while, at most n turns -/
def whileN (g : EM Bool) (body : SM) : Nat → SM
  | 0, _, _ => .bad
  | n + 1, τ, st => bindE (g τ st) τ fun b s1 => if b then match body τ s1 with
      | .nx τ2 s2 => whileN g body n τ2 s2
      | .ct τ2 s2 => whileN g body n τ2 s2
      | .bk τ2 s2 => .nx τ2 s2
      | r => r
    else .nx τ s1
theorem sx_while {c : Expr} (n : Nat) (hp : PassesOwn (model X.prog X.w) X.A X.env X.xe) (hc : Et X W c g) (hb : Sxs X W body f) : Sx X W (.While c body [] pos) (whileN g f n) := by
  refine ⟨fun m τ s σ H D hL hS hP pins sh I => (ps_while hp ptW pssW).run pins sh σ H D I ?_⟩
  refine ⟨fun k σ H => ∃ (m : List Addr) (τ : Sl) (st : Store), SS X.kw m st H ∧ SL X.K m H τ σ ∧ Ps X.kw W m H (whileN g f k τ st) D, ⟨n, m, τ, s, hS, hL, hP⟩, ?_⟩
  rintro k σ H ⟨m, τ, st, hS, hL, hP⟩
  cases k with
  | zero => exact hP.elim
  | succ k =>
    refine hc.run m τ st σ H _ hL hS (hP.bind hL fun b s1 m1 H1 b' e1 hS1 r1 hP1 => ?_)
    subst r1
    cases b with
    | false => exact iteF (hP1 m1 H1 σ .refl hS1 (hL.mono e1))
    | true =>
      refine iteT ⟨fun σ' H' => ∃ (m : List Addr) (τ : Sl) (st : Store), SS X.kw m st H' ∧ SL X.K m H' τ σ' ∧ Ps X.kw W m H' (whileN g f k τ st) D, fun σ' H' h => ⟨k, Nat.lt_succ_self k, h⟩, ?_⟩
      refine hb.run m1 τ s1 σ H1 _ (hL.mono e1) hS1 ?_
      have hP1 : Ps X.kw W m1 H1 (match f τ s1 with
        | .nx τ2 s2 => whileN g f k τ2 s2
        | .ct τ2 s2 => whileN g f k τ2 s2
        | .bk τ2 s2 => .nx τ2 s2
        | r => r) D := hP1
      cases hq : f τ s1 with
      | nx τ2 s3 =>
        rw [hq] at hP1
        exact fun m3 H3 σ3 e3 hS3 hL3 => ⟨m3, τ2, s3, hS3, hL3, hP1.up e3⟩
      | ct τ2 s3 =>
        rw [hq] at hP1
        exact fun m3 H3 σ3 e3 hS3 hL3 => ⟨m3, τ2, s3, hS3, hL3, hP1.up e3⟩
      | bk τ2 s3 =>
        rw [hq] at hP1
        exact hP1
      | rt d s3 =>
        rw [hq] at hP1
        exact hP1
      | exc x τ2 s3 =>
        rw [hq] at hP1
        exact hP1
      | bad =>
        rw [hq] at hP1
        exact hP1
end
end HM

/-! HM, part 7: raise, try; defs; the law's end. -/
namespace HM
open PySem PySem.Spec PyProof.Rows L2
section
variable {X : Cx} {W : WX} {e a b c : Expr} {es rest : List Expr} {pos p : Pos} {fa fb fc fe : EM D} {fs : EM (List D)} {g ga gb : EM Bool} {s1 : Stmt} {ss body suite : List Stmt} {f h k : SM}
def sRaise (x : Xc) : SM := fun τ st => .exc x τ st
theorem sx_raiseB {T N I : String} {x : Str} {m : Str} {j : Nat} {p2 pos' : Pos} (hc : X.calm = true) (tk : Takes X W) (F : ExcB T N I) (hg : Gl X x) (hm : X.mg x = none) (hv : bootBuiltins x = some (.type T)) (hn : x ≠ "__name__" := by decide) (hdb : (x == ("__debug__" : Str)) = false := by decide) :
    Sx X W (.Raise (some (.Call (.Name x p) [.Constant (.str m) j p2] [] pos)) none pos') (sRaise ⟨.ty T, []⟩) :=
  ⟨fun m τ s σ H D hL hS hP pins sh I => (ps_raiseB hc tk F hg hm hv hn hdb).run pins sh σ H D I (hP m H σ _ _ .refl hS hL ⟨rfl, rfl⟩)⟩
def sTry (f : SM) (mt : D → Option Bool) (h : SM) : SM := fun τ st => match f τ st with
  | .exc x τ1 s1 => match mt x.cls with
    | some true => h τ1 s1
    | some false => .exc x τ1 s1
    | none => .bad
  | r => r
theorem sx_try {x : Str} {c : Value} {b₀ : Stmt} {np pos' : Pos} {mt : D → Option Bool} (hs : X.stack = X.env :: X.outer) (hf : X.env.frame = some X.env.locals) (hc : Names X x c) (tk : Takes X W) (hmt : ∀ (m : List Addr) (H : Hp) (y : Xc) (cls : Value) (d : Option Addr) (b : Bool), XR X.K m H y cls d → mt y.cls = some b → PySem.W.exmOne X.K cls c = some b)
    (hb : ∀ (W : WX) (pn : List (Addr × Obj)) (xe : Value → Shared → Prop), Takes (X.tr pn xe) W → PassesOwn (model X.prog X.w) X.A X.env xe → Sxs (X.tr pn xe) W body f)
    (hsu : ∀ (a : Addr) (oe : Obj) (pn : List (Addr × Obj)), Sxs (X.suite a ((a, oe) :: pn)) (fun _ _ _ _ => False) (b₀ :: suite) h)
    (hno : ∀ τ st x τ1 s1, h τ st ≠ .exc x τ1 s1) : Sx X W (.Try body [.ExceptHandler (some (.Name x np)) none (b₀ :: suite) pos'] [] [] pos) (sTry f mt h) := by
  refine ⟨fun m τ s σ H D hL hS hP pins sh I => ?_⟩
  refine (ps_try_only (tb := fun W => fun D σ H => ∀ (pn : List (Addr × Obj)) (xe : Value → Shared → Prop), Takes (X.tr pn xe) W → PassesOwn (model X.prog X.w) X.A X.env xe → wSs (X.tr pn xe) body D σ H)
    (ts := fun a cls d => fun D σ H => ∀ (oe : Obj) (pn : List (Addr × Obj)), wSs (X.suite a ((a, oe) :: pn)) (b₀ :: suite) D σ H) hs hf hc tk (fun W pn xe t1 t2 => ⟨fun pins s σ H D I h => h pn xe t1 t2 pins s I⟩) (fun a oe cls d pn _ _ => ⟨fun pins s σ H D I h => h oe pn pins s I⟩)).run pins sh σ H D I ?_
  intro pn xe t1 t2
  refine (hb _ pn xe t1 t2).run m τ s σ H D hL hS ?_
  unfold sTry at hP
  cases hq : f τ s with
  | exc y τ1 s1 =>
    rw [hq] at hP
    intro m1 H1 σ1 cls d e1 hS1 hL1 hX
    have hP : Ps X.kw W m H (match mt y.cls with
      | some true => h τ1 s1
      | some false => .exc y τ1 s1
      | none => .bad) D := hP
    cases hm : mt y.cls with
    | none =>
      rw [hm] at hP
      exact hP.elim
    | some b =>
      rw [hm] at hP
      refine ⟨b, hmt m1 H1 y cls d b hX hm, fun hb' a na oe pn => ?_, fun hb' => ?_⟩
      · subst hb'
        refine (hsu a oe pn).run m1 τ1 s1 σ1 H1 D hL1 hS1 ?_
        have hP := hP.up e1
        cases hh : h τ1 s1 with
        | exc x τ2 s2 => exact absurd hh (hno _ _ _ _ _)
        | nx _ _ =>
          have hP : Ps X.kw W m1 H1 (h τ1 s1) D := hP
          rw [hh] at hP
          exact hP
        | bk _ _ =>
          have hP : Ps X.kw W m1 H1 (h τ1 s1) D := hP
          rw [hh] at hP
          exact hP
        | ct _ _ =>
          have hP : Ps X.kw W m1 H1 (h τ1 s1) D := hP
          rw [hh] at hP
          exact hP
        | rt _ _ =>
          have hP : Ps X.kw W m1 H1 (h τ1 s1) D := hP
          rw [hh] at hP
          exact hP
        | bad =>
          have hP : Ps X.kw W m1 H1 (h τ1 s1) D := hP
          rw [hh] at hP
          exact hP
      · subst hb'
        exact hP m1 H1 σ1 cls d e1 hS1 hL1 hX
  | nx _ _ =>
    rw [hq] at hP
    exact hP
  | bk _ _ =>
    rw [hq] at hP
    exact hP
  | ct _ _ =>
    rw [hq] at hP
    exact hP
  | rt _ _ =>
    rw [hq] at hP
    exact hP
  | bad =>
    rw [hq] at hP
    exact hP
end

/-- does a built-in class catch -/
def mtB (T : String) : D → Option Bool
  | .ty n => if n = T then some true else none
  | _ => none
theorem mtB_of {K : PySem.W.Frag} {T : String} (h : PySem.W.exmOne K (.type T) (.type T) = some true) (m : List Addr) (H : Hp) (y : Xc) (cls : Value) (d : Option Addr) (b : Bool) (hx : XR K m H y cls d) (hm : mtB T y.cls = some b) : PySem.W.exmOne K cls (.type T) = some b := by
  unfold mtB at hm
  split at hm
  · rename_i n e
    split at hm
    · rename_i hn
      subst hn
      cases hm
      unfold XR at hx
      rw [e] at hx
      obtain ⟨rfl, _⟩ := hx
      exact h
    · cases hm
  · cases hm
theorem mtB_ZeroDivisionError {K : PySem.W.Frag} : ∀ (m : List Addr) (H : Hp) (y : Xc) (cls : Value) (d : Option Addr) (b : Bool), XR K m H y cls d → mtB "ZeroDivisionError" y.cls = some b → PySem.W.exmOne K cls (.type "ZeroDivisionError") = some b := mtB_of (by kernel_rfl)
/-! ### defs -/
/-- the slots at a def's entry -/
def ent (n : Nat) (ds : List D) : Sl := ds.map some ++ List.replicate (n - ds.length) none
def runB (n : Nat) (fb : SM) : FM := fun ds st => match fb (ent n ds) st with
  | .nx _ s => .ok .non s
  | .rt d s => .ok d s
  | .exc x _ s => .exc x s
  | _ => .bad
theorem SL.start {K : PySem.W.Frag} {m : List Addr} {H : Hp} {N : List Str} {ds : List D} {vs : List V} (r : RDs K m H ds vs) : SL K m H (ent N.length ds) (L2.start N vs) where
  len := by simp [ent, L2.start, r.len]
  get := fun i d h => by
    unfold ent at h
    by_cases hi : i < ds.length
    · rw [List.getElem?_append_left (by simpa using hi), List.getElem?_map] at h
      cases hd : ds[i]? with
      | none =>
        rw [hd] at h
        cases h
      | some d' =>
        rw [hd] at h
        simp only [Option.map_some, Option.some.injEq] at h
        subst h
        obtain ⟨v, h1, h2⟩ := r.get hd
        refine ⟨v, ?_, h2⟩
        unfold L2.start
        rw [List.getElem?_append_left (by simpa [← r.len] using hi), List.getElem?_map, h1]
        rfl
    · rw [List.getElem?_append_right (by simpa using hi)] at h
      have z := List.mem_of_getElem? h
      have z2 := List.eq_of_mem_replicate z
      cases z2
section
variable {P : Program} {w : World} {K : PySem.W.Frag} {mg : Str → Option Value} {base : Heap} {x qual : Str} {params : Arguments} {body : List Stmt} {scope : Scope} {dvs : List V} {kws : List (Str × V)} {f : Addr} {fd : FuncData} {N ps : List Str} {k : Nat} {fb : SM}
/-- the context of a def's body -/
abbrev Cd (P : Program) (w : World) (K : PySem.W.Frag) (mg : Str → Option Value) (base : Heap) (N : List Str) (qual : Str) (scope : Scope) (f : Addr) (k : Nat) (B : Cx → WX → Prop) : Prop :=
  ∀ (cdv : Value) (A : Around) (outer : List Env) (s : Shared) (H : Hp) (E : XK), Room k (A.deeper (envOfC qual scope s.heap.objs.size f cdv)) → B (cxOf (L2.CX P w) P w K mg base N qual scope f cdv A outer s H E) (fun c d _ H => E c d H)
theorem fn_def (F : FunD K x qual params body scope dvs kws f fd) (S : FnScope N ps scope)
    (hb : ∀ (cdv : Value) (A : Around) (outer : List Env) (s : Shared) (H : Hp) (E : XK), Room k (A.deeper (envOfC qual scope s.heap.objs.size f cdv)) → Takes (cxOf (L2.CX P w) P w K mg base N qual scope f cdv A outer s H E) (fun c d _ H => E c d H) →
      PassesOwn (model P w) (A.deeper (envOfC qual scope s.heap.objs.size f cdv)) (envOfC qual scope s.heap.objs.size f cdv) (cxOf (L2.CX P w) P w K mg base N qual scope f cdv A outer s H E).xe →
      Sxs (cxOf (L2.CX P w) P w K mg base N qual scope f cdv A outer s H E) (fun c d _ H => E c d H) body fb) : FnM P w K mg base (k + 1) f fd ps (runB N.length fb) := by
  refine F.ok S (fun vs H Q E ⟨m, st, ds, hl, hS, r, _⟩ => by rw [← r.len, hl]) (fun cdv A outer s H vs Q E hr ⟨m, st, ds, hl, hS, r, hP⟩ => ?_)
  refine ⟨_, pssW, (hb cdv A outer s H E hr (takes_of rfl rfl rfl rfl) (passes_of rfl)).run m (ent N.length ds) st (L2.start N vs) H _ (SL.start r) hS ?_⟩
  unfold runB at hP
  cases hq : fb (ent N.length ds) st with
  | nx τ s1 =>
    rw [hq] at hP
    exact fun m1 H1 σ e1 hS1 hL1 => hP m1 H1 .non e1 hS1 .non
  | rt d s1 =>
    rw [hq] at hP
    exact hP
  | exc x τ s1 =>
    rw [hq] at hP
    exact fun m1 H1 σ c d e1 hS1 hL1 hX => hP m1 H1 c d e1 hS1 hX
  | bk τ s1 =>
    rw [hq] at hP
    exact hP.elim
  | ct τ s1 =>
    rw [hq] at hP
    exact hP.elim
  | bad =>
    rw [hq] at hP
    exact hP.elim
end

/-! ### what a def leaves behind may be forgotten -/
mutual
def D.lo (k : Nat) : D → Bool
  | .ref n => decide (n < k)
  | .tup xs => D.loAll k xs
  | .rol xs => D.loAll k xs
  | _ => true
def D.loAll (k : Nat) : List D → Bool
  | [] => true
  | d :: ds => D.lo k d && D.loAll k ds
end
def Cell.lo (k : Nat) : Cell → Bool
  | .lst xs => D.loAll k xs
  | .dct kvs => kvs.all fun p => p.1.lo k && p.2.lo k
section
variable {K : PySem.W.Frag} {m : List Addr} {H : Hp}
mutual
theorem RD.take {k : Nat} : ∀ {d : D} {v : V}, RD K m H d v → d.lo k = true → RD K (m.take k) H d v
  | _, _, .non, _ => .non
  | _, _, .bl b, _ => .bl b
  | _, _, .int i, _ => .int i
  | _, _, .str x, _ => .str x
  | _, _, .ty n, _ => .ty n
  | _, _, .adr a, _ => .adr a
  | _, _, .tup h r, q => .tup h (RDs.takeA r (by simpa only [D.lo] using q))
  | _, _, .rol h r, q => .rol h (RDs.takeA r (by simpa only [D.lo] using q))
  | _, _, .ref (n := n) h, q => .ref (by
    have z : n < k := of_decide_eq_true (by simpa only [D.lo] using q)
    rw [List.getElem?_take_of_lt z]
    exact h)
theorem RDs.takeA {k : Nat} : ∀ {ds : List D} {vs : List V}, RDs K m H ds vs → D.loAll k ds = true → RDs K (m.take k) H ds vs
  | _, _, .nil, _ => .nil
  | _, _, .cons h r, q => by
    simp only [D.loAll, Bool.and_eq_true] at q
    exact .cons (RD.take h q.1) (RDs.takeA r q.2)
end
mutual
theorem RD.is_lo {k : Nat} (hk : m.length ≤ k) : ∀ {d : D} {v : V}, RD K m H d v → d.lo k = true
  | _, _, .non => rfl
  | _, _, .bl b => rfl
  | _, _, .int i => rfl
  | _, _, .str x => rfl
  | _, _, .ty n => rfl
  | _, _, .adr a => rfl
  | _, _, .tup h r => by simpa only [D.lo] using RDs.is_lo hk r
  | _, _, .rol h r => by simpa only [D.lo] using RDs.is_lo hk r
  | _, _, .ref h => by
    simp only [D.lo, decide_eq_true_eq]
    exact Nat.lt_of_lt_of_le (List.getElem?_eq_some_iff.mp h).1 hk
theorem RDs.is_lo {k : Nat} (hk : m.length ≤ k) : ∀ {ds : List D} {vs : List V}, RDs K m H ds vs → D.loAll k ds = true
  | _, _, .nil => rfl
  | _, _, .cons h r => by simp only [D.loAll, RD.is_lo hk h, RDs.is_lo hk r, Bool.and_self]
end
theorem RC.is_lo {K : KW} {k : Nat} {a : Addr} {c : Cell} (hk : m.length ≤ k) (r : RC K m H a c) : c.lo k = true := by
  cases c with
  | lst ds =>
    obtain ⟨vs, _, r⟩ := r
    exact r.is_lo hk
  | dct kvs =>
    have f1 : ∀ {kvs us}, DRel1 K m H kvs us → (kvs.all fun p => p.1.lo k && p.2.lo k) = true := fun {kvs us} r => by
      induction r with
      | nil => rfl
      | @cons p q ps qs h t ih =>
        obtain ⟨h1, h2⟩ := h
        have z : p.1.lo k = true := by rw [h1]; cases q.1 <;> rfl
        rw [List.all_cons, ih, z, h2.is_lo hk]
        rfl
    have f2 : ∀ {kvs us}, DRel2 K m H kvs us → (kvs.all fun p => p.1.lo k && p.2.lo k) = true := fun {kvs us} r => by
      induction r with
      | nil => rfl
      | @cons p q ps qs h t ih =>
        rw [List.all_cons, ih, h.2.2.1.is_lo hk, h.2.2.2.is_lo hk]
        rfl
    rcases r with ⟨us, _, r⟩ | ⟨xs, _, r⟩
    · exact f1 r
    · exact f2 r.2
theorem RC.take {K : KW} {k : Nat} {a : Addr} {c : Cell} (r : RC K m H a c) (h : c.lo k = true) : RC K (m.take k) H a c := by
  cases c with
  | lst ds =>
    obtain ⟨vs, q, r⟩ := r
    exact ⟨vs, q, r.takeA h⟩
  | dct kvs =>
    have f1 : ∀ {kvs us}, DRel1 K m H kvs us → (kvs.all fun p => p.1.lo k && p.2.lo k) = true → DRel1 K (m.take k) H kvs us := fun {kvs us} r => by
      induction r with
      | nil => exact fun _ => .nil
      | @cons p q ps qs h t ih =>
        intro z
        rw [List.all_cons, Bool.and_eq_true, Bool.and_eq_true] at z
        exact .cons ⟨h.1, h.2.take z.1.2⟩ (ih z.2)
    have f2 : ∀ {kvs us}, DRel2 K m H kvs us → (kvs.all fun p => p.1.lo k && p.2.lo k) = true → DRel2 K (m.take k) H kvs us := fun {kvs us} r => by
      induction r with
      | nil => exact fun _ => .nil
      | @cons p q ps qs h t ih =>
        intro z
        rw [List.all_cons, Bool.and_eq_true, Bool.and_eq_true] at z
        exact .cons ⟨h.1, h.2.1, h.2.2.1.take z.1.1, h.2.2.2.take z.1.2⟩ (ih z.2)
    rcases r with ⟨us, q, r⟩ | ⟨xs, q, r⟩
    · exact .inl ⟨us, q, f1 r h⟩
    · exact .inr ⟨xs, q, r.1, f2 r.2 h⟩
/-- r' says no more than r, or the same with a shorter store -/
inductive Le (st : Store) : ER D → ER D → Prop
  | bad (r : ER D) : Le st r .bad
  | refl (r : ER D) : Le st r r
  | gc {v : D} {s1 : Store} (k : Nat) (hk : st.length ≤ k) (hv : v.lo k = true) (hc : ∀ (i : Nat) (c : Cell), i < k → s1[i]? = some c → st[i]? = some c ∨ c.lo k = true) : Le st (.ok v s1) (.ok v (s1.take k))
theorem Le.pe {K : KW} {E : XK} {st : Store} {r r' : ER D} {Q : VK} (l : Le st r r') (s : SS K m st H) (h : Pe K E (RD K) m H r' Q) : Pe K E (RD K) m H r Q := by
  cases l with
  | bad r => exact h.elim
  | refl r => exact h
  | @gc v s1 k hk hv hc =>
    intro m1 H1 b e1 hS1 r1
    refine h (m1.take k) H1 b ⟨⟨fun n a q => ?_, e1.tup, e1.fzl⟩, e1.frm, fun a q n => e1.new a (List.mem_of_mem_take q) n⟩ ⟨?_, ?_, fun n c a q1 q2 => ?_⟩ (r1.take hv)
    · have hl : n < m.length := (List.getElem?_eq_some_iff.mp q).1
      rw [s.len] at hl
      rw [List.getElem?_take_of_lt (Nat.lt_of_lt_of_le hl hk)]
      exact e1.pre n a q
    · rw [List.length_take, List.length_take, hS1.len]
    · exact hS1.nd.sublist (List.take_sublist _ _)
    · have hn : n < k := by
        have z := (List.getElem?_eq_some_iff.mp q1).1
        rw [List.length_take] at z
        omega
      rw [List.getElem?_take_of_lt hn] at q1 q2
      refine (hS1.cel n c a q1 q2).take ?_
      rcases hc n c hn q1 with z | z
      · obtain ⟨a0, _, r0⟩ := s.at z
        exact r0.is_lo (by rw [s.len]; exact hk)
      · exact z
theorem FnM.le {P : Program} {w : World} {mg : Str → Option Value} {base : Heap} {k : Nat} {f : Addr} {fd : FuncData} {ps : List Str} {mf sf : FM} (F : FnM P w K mg base k f fd ps mf) (h : ∀ ds st, Le st (mf ds st) (sf ds st)) : FnM P w K mg base k f fd ps sf :=
  FnOk.imp F fun vs H Q E ⟨m, st, ds, hl, hS, r, hP⟩ => ⟨m, st, ds, hl, hS, r, (h ds st).pe hS hP⟩
/-- a value without the store, the store but for what was laid on it -/
theorem Le.app {st more : Store} {v : D} (hv : v.lo st.length = true) : Le st (.ok v (st ++ more)) (.ok v st) := by
  have z := Le.gc (st := st) (v := v) (s1 := st ++ more) st.length (Nat.le_refl _) hv fun i c hi h => by
    rw [List.getElem?_append_left hi] at h
    exact .inl h
  rw [List.take_left] at z
  exact z
end

/-! ### the law -/
theorem law_sp {K : KW} {mf : FM} {n : Nat} (h : ∀ ns : List Int, ns.length ≤ n → ∃ st, mf [.rol (ns.map D.int)] [] = .ok (.bl true) st) (H : Hp) (a : Addr) (ns : List Int) (hl : ns.length ≤ n) (ho : Only H) (hS : SqL K H a (ns.map V.int)) :
    spM K 1 mf [V.ref a] H (fun v _ => v = .bl true) (fun _ _ _ => False) := by
  obtain ⟨st, e⟩ := h ns hl
  refine ⟨[], [], [.rol (ns.map D.int)], rfl, ⟨rfl, .nil, fun n c a q => by simp at q⟩, .cons (.rol (FzL.of hS fun ys z => ?_) (RDs.ints ns)) .nil, ?_⟩
  · rcases ho a with q | ⟨o, xs, q⟩
    · rw [q] at z
      cases z
    · rw [q] at z
      cases z
  · rw [e]
    intro m' H' b _ _ r
    cases r
    rfl
end HM

/-! HM, part 8: defs as they are called; what a text is put together of. -/
namespace HM
open PySem PySem.Spec PyProof.Rows L2
section
variable {X : Cx} {W : WX} {e a b c : Expr} {es rest : List Expr} {pos p : Pos} {fa fb fc fe : EM D} {fs : EM (List D)} {g ga gb : EM Bool} {s1 : Stmt} {ss body suite : List Stmt} {f h k : SM}
/-- a name = [..] on one line -/
theorem sx_setLc {i : Nat} {y : Str} {py spos : Pos} {tg elt iter : Expr} {ifs : List Expr} {scope : Scope} {own : List (Str × Nat)} {ix : List Nat} {set : D → Sl → Option Sl} {ft : EM Bool} {fe : EM D} {fi : EM Sq} (hc : X.calm = true) (hN : X.N.Nodup) (hi : Ei X W tg iter fi) (ok : BlkOk X.N X.env.scope scope own)
    (hg : BEg X scope tg ix set) (ht : BEt X scope ifs ft) (he : BEx X scope elt fe) (hy : X.N[i]? = some y := by rfl) (hyl : X.env.scope.names.lookup y = some .local := by rfl)
    (hsw : swapsWith (.ListComp elt [⟨tg, iter, ifs, 0⟩] scope pos) (some (.Name y py)) spos.line X.env = pure true := by exact sw_true rfl rfl rfl (by decide +kernel)) (hown : ∀ i ∈ ix, i ∈ own.map (·.2) := by decide) (hs : ∀ x, foldedSetIterable iter X.env x = pure x := by intro _; rfl) :
    Sx X W (.Assign [.Name y py] (.ListComp elt [⟨tg, iter, ifs, 0⟩] scope pos) spos) (sSet i (eEl (lComp (own.map (·.2)) fi set ft fe))) := by
  refine ⟨fun m τ st σ H D hL hS hP pins s I => ?_⟩
  refine (ps_setLc (g := gAll X scope tg) (tt := tAll X scope ifs) (te := eAll X scope elt) hc hN hy hyl hsw piW ok ?_ ?_ ?_ hs).run pins s σ H D I (comp_post hi hown hg ht he hL hS ?_)
  · exact fun s H C cl fp => ⟨fun pins s' σ H' v u Q I r h => h s H C cl fp pins s' u I r⟩
  · exact fun s H C cl fp => ⟨fun pins s' σ H' Q I h => h s H C cl fp pins s' I⟩
  · exact fun s H C cl fp => ⟨fun pins s' σ H' Q I h => h s H C cl fp pins s' I⟩
  · unfold sSet eEl at hP
    cases hq : lComp (own.map (·.2)) fi set ft fe τ st with
    | ok ds s1 =>
      rw [hq] at hP
      intro m1 H1 v e1 hS1 ⟨a, vs, e, ha, na, hn, rs⟩
      subst e
      have e2 := e1.own hn
      have r2 : RD X.K (m1 ++ [a]) H1 (.ref s1.length) (.ref a) := .ref (by
        rw [← hS1.len]
        simp)
      exact hP (m1 ++ [a]) H1 _ e2 (hS1.grow na ⟨vs, ha, rs.kp Kp.grow⟩) ((hL.mono e2).set i r2)
    | exc x st' =>
      rw [hq] at hP
      exact fun m' H' c d e s q => hP m' H' σ c d e s (hL.mono e) q
    | bad =>
      rw [hq] at hP
      exact hP.elim

/-! ### defs by name -/
structure Cal (P : Program) (w : World) (K : PySem.W.Frag) (mg : Str → Option Value) (base : Heap) (x : Str) (k : Nat) (ps : List Str) (mf : FM) : Prop where
  ex : ∃ (f : Addr) (fd : FuncData), FnM P w K mg base k f fd ps mf ∧ mg x = some (.ref f) ∧ PySem.W.keepIn K (.ref f) = true ∧ Binds K fd ps [] ∧ ∃ oc od osl, K.lookup f = some ⟨oc, od, .func fd, osl⟩
theorem Cal.le {P : Program} {w : World} {K : PySem.W.Frag} {mg : Str → Option Value} {base : Heap} {x : Str} {k : Nat} {ps : List Str} {mf sf : FM} (c : Cal P w K mg base x k ps mf) (h : ∀ ds st, Le st (mf ds st) (sf ds st)) : Cal P w K mg base x k ps sf := by
  obtain ⟨f, fd, F, r⟩ := c.ex
  exact ⟨f, fd, F.le h, r⟩
theorem Cal.mono {P : Program} {w : World} {K : PySem.W.Frag} {mg : Str → Option Value} {base : Heap} {x : Str} {j k : Nat} {ps : List Str} {mf : FM} (c : Cal P w K mg base x j ps mf) (h : j ≤ k) : Cal P w K mg base x k ps mf := by
  obtain ⟨f, fd, F, r⟩ := c.ex
  exact ⟨f, fd, FnOk.mono F h, r⟩
theorem ex_c1 {P : Program} {w : World} {K : PySem.W.Frag} {mg : Str → Option Value} {base : Heap} {A : Around} {j k : Nat} {ps : List Str} {mf : FM} {x : Str} (c : Cal P w K mg base x j ps mf) (tk : Takes X W) (hr : Room k A) (hj : j ≤ k) (ha : Ea X W (e :: es) fs)
    (h1 : X.prog = P := by rfl) (h2 : X.w = w := by rfl) (h3 : X.K = K := by rfl) (h4 : X.mg = mg := by rfl) (h5 : X.base = base := by rfl) (h6 : X.A = A := by rfl) (hg : Gl X x := by rfl) (hdb : (x == ("__debug__" : Str)) = false := by decide) (he : starEach (e :: es) X.env = (false, eval e X.env) :: starEach es X.env := by rfl)
    (hpl : (backTo pos (starEach es X.env)).any (·.1) = false := by rfl) : Ex X W (.Call (.Name x p) (e :: es) [] pos) (eCall ps.length mf fs) := by
  subst h1 h2 h3 h4 h5 h6
  obtain ⟨f, fd, F, hm, hk, hb, _⟩ := c.ex
  exact ex_call tk F (hr.mono hj) hg hm hk hb ha hdb he hpl
theorem ex_c0 {P : Program} {w : World} {K : PySem.W.Frag} {mg : Str → Option Value} {base : Heap} {A : Around} {j k : Nat} {ps : List Str} {mf : FM} {x : Str} (c : Cal P w K mg base x j ps mf) (tk : Takes X W) (hr : Room k A) (hj : j ≤ k)
    (h1 : X.prog = P := by rfl) (h2 : X.w = w := by rfl) (h3 : X.K = K := by rfl) (h4 : X.mg = mg := by rfl) (h5 : X.base = base := by rfl) (h6 : X.A = A := by rfl) (hg : Gl X x := by rfl) (hdb : (x == ("__debug__" : Str)) = false := by decide) : Ex X W (.Call (.Name x p) [] [] pos) (eCall ps.length mf aNil) := by
  subst h1 h2 h3 h4 h5 h6
  obtain ⟨f, fd, F, hm, hk, hb, _⟩ := c.ex
  exact ex_call0 tk F (hr.mono hj) hg hm hk hb hdb
/-- in a comprehension nothing is let out -/
theorem tk0 : Takes X (fun _ _ _ _ => False) := takes0
end
/-- a def of the text -/
abbrev FnP (K : PySem.W.Frag) (x : Str) (st : Stmt) (f : Addr) (fd : FuncData) : Prop := FunD K x x (defArgs st) (defBody st) (defScope st) [] [] f fd
section
variable {P : Program} {w : World} {K : PySem.W.Frag} {mg : Str → Option Value} {base : Heap}
theorem cal_mk {x : Str} {st : Stmt} {f : Addr} {fd : FuncData} {N ps : List Str} {k : Nat} {fb : SM} (F : FnP K x st f fd) (S : FnScope N ps (defScope st)) (gx : mg x = some (.ref f))
    (bn : ∀ (kV doc pm : Value) (an : Option Addr) (cdv ct : Value) (us : List Value), us.length = ps.length → bindArgs (PySem.W.fnOf x x (defArgs st) (defBody st) (defScope st) .none kV doc pm an cdv ct) ⟨us, []⟩ = pure (ps.zip us))
    (hb : ∀ (cdv : Value) (A : Around) (outer : List Env) (s : Shared) (H : Hp) (E : XK), Room k (A.deeper (envOfC x (defScope st) s.heap.objs.size f cdv)) → Takes (cxOf (L2.CX P w) P w K mg base N x (defScope st) f cdv A outer s H E) (fun c d _ H => E c d H) →
      PassesOwn (model P w) (A.deeper (envOfC x (defScope st) s.heap.objs.size f cdv)) (envOfC x (defScope st) s.heap.objs.size f cdv) (cxOf (L2.CX P w) P w K mg base N x (defScope st) f cdv A outer s H E).xe →
      Sxs (cxOf (L2.CX P w) P w K mg base N x (defScope st) f cdv A outer s H E) (fun c d _ H => E c d H) (defBody st) fb) : Cal P w K mg base x (k + 1) ps (runB N.length fb) :=
  ⟨f, fd, fn_def F S hb, gx, F.kp, F.bindsN bn, let ⟨oc, od, _, _, _, _, _, _, _, osl, e, lk, _⟩ := F.ex; ⟨oc, od, osl, e ▸ lk⟩⟩
end
/-! ### what the built-in names hold -/
theorem bt_len : bootBuiltins "len" = some (.builtin "len") := by decide +kernel
theorem bt_abs : bootBuiltins "abs" = some (.builtin "abs") := by decide +kernel
theorem bt_isinstance : bootBuiltins "isinstance" = some (.builtin "isinstance") := by decide +kernel
theorem bt_min : bootBuiltins "min" = some (.builtin "min") := by decide +kernel
theorem bt_max : bootBuiltins "max" = some (.builtin "max") := by decide +kernel
theorem bt_sum : bootBuiltins "sum" = some (.builtin "sum") := by decide +kernel
theorem bt_all : bootBuiltins "all" = some (.builtin "all") := by decide +kernel
theorem bt_any : bootBuiltins "any" = some (.builtin "any") := by decide +kernel
theorem bt_sorted : bootBuiltins "sorted" = some (.builtin "sorted") := by decide +kernel
theorem bt_int : bootBuiltins "int" = some (.type "int") := by decide +kernel
theorem bt_bool : bootBuiltins "bool" = some (.type "bool") := by decide +kernel
theorem bt_str : bootBuiltins "str" = some (.type "str") := by decide +kernel
theorem bt_tuple : bootBuiltins "tuple" = some (.type "tuple") := by decide +kernel
theorem bt_list : bootBuiltins "list" = some (.type "list") := by decide +kernel
end HM

/-! HM, part 9: what the top leaves. -/
namespace HM
open PySem PySem.Spec PyProof.Rows L2
mutual
def conB (K : PySem.W.Frag) : D → Value → Bool
  | .non, .none => true
  | .bl a, .bool b => a == b
  | .int i, .int j _ => decide (i = j)
  | .str x, .str y _ => decide (y.cps.toList = x)
  | .tup ds, .ref a => match K.lookup a with
    | some ⟨.type c, _, .seq its _, _⟩ => decide (c = "tuple") && (decide (its.size ≤ sizeLine) && conAll K ds its.toList)
    | _ => false
  | _, _ => false
def conAll (K : PySem.W.Frag) : List D → List Value → Bool
  | [], [] => true
  | d :: ds, u :: us => conB K d u && conAll K ds us
  | _, _ => false
end
mutual
theorem conB_ok {K : PySem.W.Frag} : ∀ (d : D) (u : Value), conB K d u = true → ∃ v, RelV v u ∧ ∀ m H, RD K m H d v
  | .non, u, h => by
    cases u <;> simp [conB] at h
    exact ⟨.non, rfl, fun _ _ => .non⟩
  | .bl a, u, h => by
    cases u <;> simp [conB] at h
    subst h
    exact ⟨.bl _, rfl, fun _ _ => .bl _⟩
  | .int i, u, h => by
    cases u <;> simp [conB] at h
    subst h
    exact ⟨.int _, ⟨_, rfl⟩, fun _ _ => .int _⟩
  | .str x, u, h => by
    cases u <;> simp [conB] at h
    rename_i y t
    subst h
    refine ⟨.str y, ⟨_, rfl⟩, fun _ _ => ?_⟩
    have e : (⟨y.cps.toList.toArray⟩ : PySem.Str) = y := by simp
    have z := RD.str (K := K) (m := ‹_›) (H := ‹_›) y.cps.toList
    rw [e] at z
    exact z
  | .tup ds, u, h => by
    cases u with
    | ref a =>
      have h1 : (match K.lookup a with
        | some ⟨.type c, _, .seq its _, _⟩ => decide (c = "tuple") && (decide (its.size ≤ sizeLine) && conAll K ds its.toList)
        | _ => false) = true := by
        simpa only [conB] using h
      split at h1
      · rename_i c od its n osl e
        simp only [Bool.and_eq_true, decide_eq_true_eq] at h1
        obtain ⟨h2, h3, h4⟩ := h1
        subst h2
        obtain ⟨vs, r, q⟩ := conAll_ok ds its.toList h4
        exact ⟨.ref a, rfl, fun m H => .tup (.inr ⟨_, its, n, e, rfl, rfl, h3, r⟩) (q m H)⟩
      · cases h1
    | _ => simp [conB] at h
  | .ref _, u, h => by simp [conB] at h
  | .ty _, u, h => by simp [conB] at h
  | .adr _, u, h => by simp [conB] at h
  | .rol _, u, h => by simp [conB] at h
theorem conAll_ok {K : PySem.W.Frag} : ∀ (ds : List D) (us : List Value), conAll K ds us = true → ∃ vs, Vals vs us ∧ ∀ m H, RDs K m H ds vs
  | [], [], _ => ⟨[], .nil, fun _ _ => .nil⟩
  | [], _ :: _, h => by simp [conAll] at h
  | _ :: _, [], h => by simp [conAll] at h
  | d :: ds, u :: us, h => by
    simp only [conAll, Bool.and_eq_true] at h
    obtain ⟨v, r1, q1⟩ := conB_ok d u h.1
    obtain ⟨vs, r2, q2⟩ := conAll_ok ds us h.2
    exact ⟨v :: vs, .cons r1 r2, fun m H => .cons (q1 m H) (q2 m H)⟩
end
/-- a module's name holds a constant -/
structure Con (K : PySem.W.Frag) (mg : Str → Option Value) (x : Str) (d : D) : Prop where
  ex : ∃ u v, mg x = some u ∧ RelV v u ∧ ∀ m H, RD K m H d v
theorem ex_con {X : Cx} {W : WX} {x : Str} {d : D} {pos : Pos} (c : Con X.K X.mg x d) (hg : Gl X x := by rfl) (hd : (x == ("__debug__" : Str)) = false := by decide) : Ex X W (.Name x pos) (eC d) := by
  obtain ⟨u, v, hm, r, rd⟩ := c.ex
  exact ex_glob hg hm r rd hd
/-- further facts of the top -/
inductive Fx where
  /-- a built-in function by a name of the module's -/
  | blt (x : Str) (id : String)
  /-- a constant -/
  | con (x : Str) (d : D)
def Fx.ok (K : PySem.W.Frag) : Fx → Bool
  | .blt x id => (match PySem.W.nsIn K mainGlobals x with
    | some (some (.builtin j)) => decide (j = id)
    | _ => false)
  | .con x d => (match PySem.W.nsIn K mainGlobals x with
    | some (some u) => conB K d u
    | _ => false)
section
variable {K : PySem.W.Frag} {h : Heap} {mg : Str → Option Value}
theorem blt_ok (X : K.In h) (G : h.Ns mainGlobals mg) {x : Str} {id : String} (c : (Fx.blt x id).ok K = true) : mg x = some (.builtin id) := by
  have c : (match PySem.W.nsIn K mainGlobals x with
    | some (some (.builtin j)) => decide (j = id)
    | _ => false) = true := c
  split at c
  · rename_i j e
    rw [PySem.W.mg_of X G e, of_decide_eq_true c]
  · cases c
theorem con_ok (X : K.In h) (G : h.Ns mainGlobals mg) {x : Str} {d : D} (c : (Fx.con x d).ok K = true) : Con K mg x d := by
  have c : (match PySem.W.nsIn K mainGlobals x with
    | some (some u) => conB K d u
    | _ => false) = true := c
  split at c
  · rename_i u e
    obtain ⟨v, r, q⟩ := conB_ok d u c
    exact ⟨u, v, PySem.W.mg_of X G e, r, q⟩
  · cases c
end
/-! ### the Hook -/
def obsM (fa : List He.Fa) (fx : List Fx) (fn : List He.DefD) (K : PySem.W.Frag) : He.AlD := (((fa.all fun f => f.ok K) && fx.all fun f => f.ok K) && fn.all fun d => d.ok K, fn.map fun d => He.fnW K d.at_)
def SaysM (fa : List He.Fa) (fx : List Fx) (fn : List He.DefD) (K : PySem.W.Frag) : Prop := obsM fa fx fn K = He.valD fn
def obsMG (n : Nat) (fa : List He.Fa) (fx : List Fx) (fn : List He.DefD) (g : Addr → Option Obj) : He.AlD := obsM fa fx fn (He.frG g (He.asD g n))
def hookM (n : Nat) (fa : List He.Fa) (fx : List Fx) (fn : List He.DefD) : PySem.W.Hook where
  α := He.AlD
  obs := fun s => obsMG n fa fx fn s.heap.get?
  val := fun _ => He.valD fn
  says := fun _ h => ∃ K : PySem.W.Frag, K.In h ∧ SaysM fa fx fn K
  of := fun _ _ e => ⟨_, He.frG_in, e⟩
  keeps := fun _ _ _ ⟨K, hK, c⟩ k => ⟨K, PySem.W.Frag.In.keeps hK k, c⟩
theorem obsMG_eq {n : Nat} {fa : List He.Fa} {fx : List Fx} {fn : List He.DefD} {g : Addr → Option Obj} {s : Shared} (h : ∀ a, g a = s.heap.get? a) : obsMG n fa fx fn g = (hookM n fa fx fn).obs s := by
  have e : g = s.heap.get? := funext h
  rw [e] <;> rfl
section
variable {fa : List He.Fa} {fx : List Fx} {fn : List He.DefD} {K : PySem.W.Frag}
theorem SaysM.fact (c : SaysM fa fx fn K) (i : Nat) {f : He.Fa} (h : fa[i]? = some f := by rfl) : f.ok K = true := by
  have c1 := (He.ba (He.ba (show (((fa.all fun f => f.ok K) && fx.all fun f => f.ok K) && fn.all fun d => d.ok K) = true from congrArg (fun z : He.AlD => z.1) c)).1).1
  exact List.all_eq_true.mp c1 f (List.mem_of_getElem? h)
theorem SaysM.more (c : SaysM fa fx fn K) (i : Nat) {f : Fx} (h : fx[i]? = some f := by rfl) : f.ok K = true := by
  have c1 := (He.ba (He.ba (show (((fa.all fun f => f.ok K) && fx.all fun f => f.ok K) && fn.all fun d => d.ok K) = true from congrArg (fun z : He.AlD => z.1) c)).1).2
  exact List.all_eq_true.mp c1 f (List.mem_of_getElem? h)
theorem SaysM.def_ (c : SaysM fa fx fn K) (i : Nat) {d : He.DefD} (h : fn[i]? = some d := by rfl) : ∃ fd, FunD K d.name d.qual d.params d.body d.scope (d.dvs K) (d.kws K) (He.fAd K d.at_) fd := by
  have c2 := (He.ba (show (((fa.all fun f => f.ok K) && fx.all fun f => f.ok K) && fn.all fun d => d.ok K) = true from congrArg (fun z : He.AlD => z.1) c)).2
  have e : fn.map (fun d => He.fnW K d.at_) = fn.map He.DefD.val := congrArg (fun z : He.AlD => z.2) c
  have e2 : (fn.map fun d => He.fnW K d.at_)[i]? = (fn.map He.DefD.val)[i]? := by rw [e]
  rw [List.getElem?_map, List.getElem?_map, h] at e2
  exact He.DefD.funD (Option.some.inj e2) (List.all_eq_true.mp c2 d (List.mem_of_getElem? h))
end
/-! ### the law's end -/
/-- where nothing may be let out -/
theorem FnM.shut {P : Program} {w : World} {K : PySem.W.Frag} {mg : Str → Option Value} {base : Heap} {k : Nat} {f : Addr} {fd : FuncData} {ps : List Str} {mf : FM} (F : FnM P w K mg base k f fd ps mf) :
    FnOk P w K mg base CX0 k f fd ps (fun vs H Q _ => spM ⟨K, w⟩ ps.length mf vs H Q fun _ _ _ => False) where
  len := fun vs H Q E h => F.len vs H Q _ h
  run := fun A outer s H args us vs Q E hr e0 hb hv h => by
    refine codeAny_mono (F.run A outer s H args us vs Q _ hr e0 hb hv h) fun r s' hq => ?_
    cases r with
    | error e =>
      obtain ⟨_, _, _, _, _, _, _, _, _, _, _, _, z⟩ := (hq : L2.CX P w outer H s (fun _ _ _ => False) e s')
      exact z.elim
    | ok fl => cases fl <;> exact hq
end HM

/-! HM, part 10: methods of lists and texts, in, slices, sums. -/
namespace HM
open PySem PySem.Spec PyProof.Rows L2
section
variable {X : Cx} {W : WX} {e o a b c : Expr} {es : List Expr} {pos p : Pos} {f fo fa fb : EM D} {fs : EM (List D)}
theorem _root_.L2.Room.units65 {k : Nat} {A : Around} (r : Room k A) : A.units + 65 < cLine := by have := r.un; omega
theorem below_line {n : Nat} (h : n < 16777216) : n < sizeLine := by
  rw [PySem.sizeLine_eq]
  exact h
/-! ### methods -/
abbrev MM := D → FM
def MethM (X : Cx) (id : String) (g : MM) : Prop :=
  ∃ r, MtR X id r ∧ ∀ (m : List Addr) (st : Store) (H : Hp) (d : D) (v : V) (ds : List D) (vs : List V) (E : XK) (Q : VK), SS X.kw m st H → RD X.K m H d v → RDs X.K m H ds vs → Pe X.kw E (RD X.K) m H (g d ds st) Q → r v vs H Q
def okT (T : String) (st : Store) (d : D) : Bool := match d with
  | .str _ => decide (T = "str")
  | .rol _ => decide (T = "list")
  | .ref n => decide (T = "list") && (lstAt st n).isSome
  | _ => false
theorem okT_ty {K : KW} {m : List Addr} {st : Store} {H : Hp} {d : D} {v : V} {T : String} (s : SS K m st H) (h : okT T st d = true) (r : RD K m H d v) : tyV K T v H := by
  cases r with
  | str x =>
    have q : T = "str" := of_decide_eq_true h
    exact q
  | rol q rs => exact .inl ⟨of_decide_eq_true h, _, q.sq⟩
  | ref q =>
    have h : (decide (T = "list") && (lstAt st _).isSome) = true := h
    rw [Bool.and_eq_true] at h
    obtain ⟨xs, e⟩ := Option.isSome_iff_exists.mp h.2
    obtain ⟨vs, h1, h2⟩ := s.list e q
    exact .inl ⟨of_decide_eq_true h.1, _, SqL.of h1⟩
  | _ => cases h
def eM (T : String) (g : MM) (fo : EM D) (fs : EM (List D)) : EM D := fun τ st => (fo τ st).bind fun d s1 => if okT T s1 d then (fs τ s1).bind fun ds s2 => g d ds s2 else .bad
theorem ex_m {name : Str} {apos cpos : Pos} {T id : String} {g : MM} (pa : PlainAttrs T) (slot : Slot T name id) (hty : typeOf (.builtin id) = pure (.type "method_descriptor")) (hm : MethM X id g) (ho : Ex X W o fo) (ha : Ea X W (e :: es) fs)
    (hbase : attributeBase o name X.env (eval o X.env) = eval o X.env := by rfl)
    (hfew : ((backTo cpos (starEach (e :: es) X.env)).all (fun x => !x.1) && (backToKw cpos (keywordEach [] X.env)).all (fun x => x.1.isSome)
      && decide ((e :: es).length + ([] : List Keyword).length + (if ([] : List Keyword).isEmpty then 0 else 1) < 30)) = true := by rfl)
    (hline : (apos.endLine == cpos.line) = true := by rfl) (hs : starEach (e :: es) X.env = (false, eval e X.env) :: starEach es X.env := by rfl) (hplain : (backTo cpos (starEach es X.env)).any (·.1) = false := by rfl) :
    Ex X W (.Call (.Attribute o name apos) (e :: es) [] cpos) (eM T g fo fs) := by
  obtain ⟨r, hr, h⟩ := hm
  refine ⟨fun m τ st σ H Q hL hS hP pins s I => (pe_bm pa slot hty hr peW paW hbase hfew hline hs hplain).run pins s σ H Q I ?_⟩
  refine ho.run m τ st σ H _ hL hS (hP.bind fun d s1 m1 H1 v e1 hS1 r1 hP1 => ?_)
  split at hP1
  · rename_i hk
    exact ⟨okT_ty hS1 hk r1, ha.run m1 τ s1 σ H1 _ (hL.mono e1) hS1 (hP1.bind fun ds s2 m2 H2 vs e2 hS2 r2 hP2 => h m2 s2 H2 d v ds vs _ Q hS2 (r1.mono e2) r2 hP2)⟩
  · exact hP1.elim
theorem ex_m0 {name : Str} {apos cpos : Pos} {T id : String} {g : MM} (pa : PlainAttrs T) (slot : Slot T name id) (hty : typeOf (.builtin id) = pure (.type "method_descriptor")) (hm : MethM X id g) (ho : Ex X W o fo)
    (hbase : attributeBase o name X.env (eval o X.env) = eval o X.env := by rfl) (hline : (apos.endLine == cpos.line) = true := by rfl) :
    Ex X W (.Call (.Attribute o name apos) [] [] cpos) (eM T g fo aNil) := by
  obtain ⟨r, hr, h⟩ := hm
  refine ⟨fun m τ st σ H Q hL hS hP pins s I => (pe_bm0 pa slot hty hr peW hbase hline).run pins s σ H Q I ?_⟩
  refine ho.run m τ st σ H _ hL hS (hP.bind fun d s1 m1 H1 v e1 hS1 r1 hP1 => ?_)
  split at hP1
  · rename_i hk
    exact ⟨okT_ty hS1 hk r1, h m1 s1 H1 d v [] [] _ Q hS1 r1 .nil hP1⟩
  · exact hP1.elim
def mAppend : MM := fun d ds st => match d, ds with
  | .ref n, [x] => match lstAt st n with
    | some xs => if xs.length < 16777216 then .ok .non (st.set n (.lst (xs ++ [x]))) else .bad
    | none => .bad
  | _, _ => .bad
theorem me_append : MethM X "list.append" mAppend := ⟨_, mt_append, fun m st H d v ds vs E Q hS r rs hP => by
  unfold mAppend at hP
  split at hP
  · split at hP
    · rename_i xs hx
      split at hP
      · rename_i hl
        cases r with
        | ref q =>
          obtain ⟨us, h1, h2⟩ := hS.list hx q
          obtain ⟨u, rfl, ru⟩ := rs.one
          exact ⟨_, us, u, rfl, rfl, h1, below_line (by rw [← h2.len]; exact hl), hP m _ _ (Ext.write h1 q) (hS.write h1 q (h2.append (.cons ru .nil))) .non⟩
      · exact hP.elim
    · exact hP.elim
  · exact hP.elim⟩
def mExtend : MM := fun d ds st => match d, ds with
  | .ref n, [.ref k] => match lstAt st n, lstAt st k with
    | some xs, some ys => if xs.length + ys.length ≤ 16777216 then .ok .non (st.set n (.lst (xs ++ ys))) else .bad
    | _, _ => .bad
  | _, _ => .bad
theorem me_extend : MethM X "list.extend" mExtend := ⟨_, mt_extend, fun m st H d v ds vs E Q hS r rs hP => by
  unfold mExtend at hP
  split at hP
  · split at hP
    · rename_i xs ys hx hy
      split at hP
      · rename_i hl
        obtain ⟨u, rfl, ru⟩ := rs.one
        cases r with
        | ref q =>
          cases ru with
          | ref q' =>
            obtain ⟨us, h1, h2⟩ := hS.list hx q
            obtain ⟨ws, h3, h4⟩ := hS.list hy q'
            exact ⟨_, _, us, ws, rfl, rfl, h1, h3, line_of (by rw [← h2.len, ← h4.len]; exact hl), hP m _ _ (Ext.write h1 q) (hS.write h1 q (h2.append h4)) .non⟩
      · exact hP.elim
    · exact hP.elim
  · exact hP.elim⟩
def mPop : MM := fun d ds st => match d, ds with
  | .ref n, [] => match lstAt st n with
    | some xs => match xs[xs.length - 1]? with
      | some y => .ok y (st.set n (.lst xs.dropLast))
      | none => .bad
    | none => .bad
  | _, _ => .bad
theorem me_pop : MethM X "list.pop" mPop := ⟨_, mt_pop, fun m st H d v ds vs E Q hS r rs hP => by
  unfold mPop at hP
  split at hP
  · split at hP
    · rename_i xs hx
      split at hP
      · rename_i y hy
        cases r with
        | ref q =>
          obtain ⟨us, h1, h2⟩ := hS.list hx q
          cases rs
          rw [h2.len] at hy
          obtain ⟨u, hu, ru⟩ := h2.get hy
          have e := Ext.write (K := X.K) (o := .lst us.dropLast) h1 q
          exact ⟨_, us, u, rfl, rfl, h1, hu, hP m _ _ e (hS.write h1 q h2.dropLast) (ru.mono e)⟩
      · exact hP.elim
    · exact hP.elim
  · exact hP.elim⟩
def okIx (i : Int) : Bool := decide (i.natAbs < 9223372036854775808)
theorem okIx_ok {i : Int} (h : okIx i = true) : -(2 ^ 63) ≤ i ∧ i < 2 ^ 63 := by
  have q : i.natAbs < 9223372036854775808 := of_decide_eq_true h
  have q' : -9223372036854775808 ≤ i ∧ i < 9223372036854775808 := by omega
  exact q'
def mPopAt : MM := fun d ds st => match d, ds with
  | .ref n, [.int i] => match lstAt st n with
    | some xs => match seqIndex? i xs.length with
      | some k => match xs[k]? with
        | some y => if okIx i then .ok y (st.set n (.lst (xs.eraseIdx k))) else .bad
        | none => .bad
      | none => .bad
    | none => .bad
  | _, _ => .bad
theorem me_popAt : MethM X "list.pop" mPopAt := ⟨_, mt_popAt, fun m st H d v ds vs E Q hS r rs hP => by
  unfold mPopAt at hP
  split at hP
  · split at hP
    · rename_i xs hx
      split at hP
      · rename_i k hk
        split at hP
        · rename_i y hy
          split at hP
          · rename_i hi
            obtain ⟨w, rfl, rw'⟩ := rs.one
            cases rw'
            cases r with
            | ref q =>
              obtain ⟨us, h1, h2⟩ := hS.list hx q
              obtain ⟨u, hu, ru⟩ := h2.get hy
              have e := Ext.write (K := X.K) (o := .lst (us.eraseIdx k)) h1 q
              exact ⟨_, us, _, k, u, rfl, rfl, h1, (okIx_ok hi).1, (okIx_ok hi).2, by rw [← h2.len]; exact hk, hu, hP m _ _ e (hS.write h1 q (h2.erase k)) (ru.mono e)⟩
          · exact hP.elim
        · exact hP.elim
      · exact hP.elim
    · exact hP.elim
  · exact hP.elim⟩
def mInsert : MM := fun d ds st => match d, ds with
  | .ref n, [.int i, y] => match lstAt st n with
    | some xs => if decide (0 ≤ i) && okIx i && decide (xs.length < 16777216) then .ok .non (st.set n (.lst (xs.take i.toNat ++ [y] ++ xs.drop i.toNat))) else .bad
    | none => .bad
  | _, _ => .bad
theorem me_insert : MethM X "list.insert" mInsert := ⟨_, mt_insert, fun m st H d v ds vs E Q hS r rs hP => by
  unfold mInsert at hP
  split at hP
  · split at hP
    · rename_i xs hx
      split at hP
      · rename_i hc
        simp only [Bool.and_eq_true, decide_eq_true_eq] at hc
        obtain ⟨w, u, rfl, rw', ru⟩ := rs.two
        cases rw'
        cases r with
        | ref q =>
          obtain ⟨us, h1, h2⟩ := hS.list hx q
          exact ⟨_, us, _, u, rfl, rfl, h1, below_line (by rw [← h2.len]; exact hc.2), hc.1.1, (okIx_ok hc.1.2).2, hP m _ _ (Ext.write h1 q) (hS.write h1 q (((h2.take _).append (.cons ru .nil)).append (h2.drop _))) .non⟩
      · exact hP.elim
    · exact hP.elim
  · exact hP.elim⟩
/-! ### in -/
def D.flat : D → Bool
  | .non => true
  | .bl _ => true
  | .int _ => true
  | .str _ => true
  | _ => false
def eqF : D → D → Bool
  | .non, .non => true
  | .bl a, .bl b => a == b
  | .bl a, .int b => (if a then 1 else 0) == b
  | .int a, .bl b => a == (if b then 1 else 0)
  | .int a, .int b => decide (a = b)
  | .str a, .str b => decide (a = b)
  | _, _ => false
theorem flat_V {K : PySem.W.Frag} {m : List Addr} {H : Hp} {d : D} {v : V} (r : RD K m H d v) (h : d.flat = true) : flatV v = true := by
  cases r <;> first | rfl | cases h
theorem flats_V {K : PySem.W.Frag} {m : List Addr} {H : Hp} : ∀ {ds : List D} {vs : List V}, RDs K m H ds vs → ds.all D.flat = true → vs.all flatV = true
  | [], _, .nil, _ => rfl
  | d :: ds, _, .cons r rs, h => by
    rw [List.all_cons, Bool.and_eq_true] at h ⊢
    exact ⟨flat_V r h.1, flats_V rs h.2⟩
theorem eqF_V {K : PySem.W.Frag} {m : List Addr} {H : Hp} {d e : D} {v u : V} (r : RD K m H d v) (r' : RD K m H e u) (h : d.flat = true) (h' : e.flat = true) : eqV v u = eqF d e := by
  cases r with
  | non => cases r' <;> first | rfl | cases h'
  | bl b => cases r' <;> first | rfl | cases h'
  | int i =>
    cases r' with
    | int j =>
      show (i == j) = decide (i = j)
      rw [Bool.eq_iff_iff]
      simp
    | _ => first | rfl | cases h'
  | str x =>
    cases r' with
    | str y =>
      show ((⟨x.toArray⟩ : Str) == (⟨y.toArray⟩ : Str)) = decide (x = y)
      rw [Bool.eq_iff_iff]
      simp
    | _ => first | rfl | cases h'
  | _ => cases h
theorem inV_D {K : PySem.W.Frag} {m : List Addr} {H : Hp} {d : D} {v : V} (r : RD K m H d v) (h : d.flat = true) : ∀ {ds : List D} {vs : List V}, RDs K m H ds vs → ds.all D.flat = true → inV v vs = ds.any fun y => eqF y d
  | [], _, .nil, _ => rfl
  | e :: ds, _, .cons r' rs, h' => by
    rw [List.all_cons, Bool.and_eq_true] at h'
    have := inV_D r h rs h'.2
    unfold inV at this ⊢
    rw [List.any_cons, List.any_cons, this, eqF_V r' r h'.1 h]
def rInT (K : PySem.W.Frag) (neg : Bool) : R2 := fun x y H Q => ∃ d ds, Dp K H x d ∧ Dp K H y (.tuple ds) ∧ SeqAt.shaped d = true ∧ SeqAt.shaped (.tuple ds) = true ∧ Q (.bl (if neg then !(ds.any fun z => PyData.eqv z d) else ds.any fun z => PyData.eqv z d)) H
theorem op_inT (hu : X.A.units + 65 < cLine) : OpR X (compareOp .In) (rInT X.K false) := by
  intro pins s σ H x y v u Q I rx ry h
  obtain ⟨d, ds, hd, he, sd, se, q⟩ := h
  obtain ⟨as, r1⟩ := Dp.reads I d x v hd rx
  obtain ⟨bs, r2⟩ := Dp.reads I (.tuple ds) y u he ry
  exact SeqAt.in_tuple_reads r2 r1 (SeqAt.canLay_of_shaped se) (SeqAt.canLay_of_shaped sd) (room_in_shaped sd hu) ⟨.bl _, H, I, rfl, q⟩
theorem op_notInT (hu : X.A.units + 65 < cLine) : OpR X (compareOp .NotIn) (rInT X.K true) := by
  intro pins s σ H x y v u Q I rx ry h
  obtain ⟨d, ds, hd, he, sd, se, q⟩ := h
  obtain ⟨as, r1⟩ := Dp.reads I d x v hd rx
  obtain ⟨bs, r2⟩ := Dp.reads I (.tuple ds) y u he ry
  exact SeqAt.notIn_tuple_reads r2 r1 (SeqAt.canLay_of_shaped se) (SeqAt.canLay_of_shaped sd) (room_in_shaped sd hu) ⟨.bl _, H, I, rfl, q⟩
/-- is it among flat ones, one sign in a text, among data of any depth -/
def dInS (x y : D) (st : Store) : Option Bool := match x, y with
  | .str [c], .str z => some (decide (c ∈ z))
  | x, y => match dSeq st y with
    | some ys => if x.flat && ys.all D.flat then some (ys.any fun y => eqF y x) else if x.plain 59 && ys.all (D.plain 59) then some (decide (x ∈ ys)) else none
    | none => none
def oInS : O2 := fun x y st => match dInS x y st with
  | some b => .ok (.bl b) st
  | none => .bad
def oNotInS : O2 := fun x y st => match dInS x y st with
  | some b => .ok (.bl !b) st
  | none => .bad
theorem any_plain {n : Nat} {x : D} (hx : x.plain n = true) : ∀ {ys : List D}, ys.all (D.plain n) = true → ((ys.map (D.toP n)).any fun z => PyData.eqv z (x.toP n)) = decide (x ∈ ys)
  | [], _ => by simp
  | y :: ys, h => by
    rw [List.all_cons, Bool.and_eq_true] at h
    rw [List.map_cons, List.any_cons, any_plain hx h.2, eqv_plain n y x h.1 hx]
    simp [List.mem_cons, eq_comm]
theorem m_inB {op : CmpOp} {neg : Bool} {r1 r2 r3 r4 : R2} (h1 : OpR X (compareOp op) r1) (h2 : OpR X (compareOp op) r2) (h3 : OpR X (compareOp op) r3) (h4 : OpR X (compareOp op) r4)
    (s1 : ∀ (c : Nat) (z : Str) H Q, Q (.bl (if neg then !decide (c ∈ z.cps.toList) else decide (c ∈ z.cps.toList))) H → r1 (.str ⟨#[c]⟩) (.str z) H Q)
    (s2 : ∀ x y H Q, rIn X.K neg x y H Q → r2 x y H Q)
    (s3 : ∀ x y H Q d ds, Dp X.K H x d → Dp X.K H y (.list ds) → SeqAt.shaped d = true → SeqAt.shaped (.list ds) = true → Q (.bl (if neg then !(ds.any fun z => PyData.eqv z d) else ds.any fun z => PyData.eqv z d)) H → r3 x y H Q)
    (s4 : ∀ x y H Q d ds, Dp X.K H x d → Dp X.K H y (.tuple ds) → SeqAt.shaped d = true → SeqAt.shaped (.tuple ds) = true → Q (.bl (if neg then !(ds.any fun z => PyData.eqv z d) else ds.any fun z => PyData.eqv z d)) H → r4 x y H Q) :
    OpM X W (compareOp op) (fun x y st => match dInS x y st with
    | some b => .ok (.bl (if neg then !b else b)) st
    | none => .bad) := opm_of ((h1.or h2).or (h3.or h4)) fun m st H dx dy x y E Q hS ra rb hP => by
  have fin : ∀ {q : PyData}, q.canLay0 = true → q.depth ≤ 60 → SeqAt.shaped q = true := fun {q} h1 h2 => by
    unfold SeqAt.shaped
    rw [h1, Bool.true_and, decide_eq_true_eq]
    omega
  split at hP
  · rename_i b hb
    unfold dInS at hb
    split at hb
    · cases hb
      cases ra
      cases rb
      exact .inl (.inl (s1 _ _ _ _ (hP.now hS (.bl _))))
    · split at hb
      · rename_i ys hy
        split at hb
        · rename_i hf
          cases hb
          rw [Bool.and_eq_true] at hf
          obtain ⟨p, vs, rfl, q, rs⟩ := dSeq_read hS hy rb
          refine .inl (.inr (s2 _ _ _ _ ⟨p, vs, rfl, q, flat_V ra hf.1, flats_V rs hf.2, ?_⟩))
          rw [inV_D ra hf.1 rs hf.2]
          exact hP.now hS (.bl _)
        · split at hb
          · rename_i hf
            cases hb
            rw [Bool.and_eq_true] at hf
            obtain ⟨p, vs, rfl, q, rs⟩ := dSeq_read hS hy rb
            obtain ⟨a1, a2, a3⟩ := plain_dp 59 dx x hf.1 ra
            obtain ⟨b1, b2, b3⟩ := plain_all (plain_dp 59) ys vs hf.2 rs
            have e := any_plain hf.1 hf.2
            rcases q with q | q
            · refine .inr (.inl (s3 _ _ _ _ _ _ a1 (.lst q b1) (fin a2 (by omega)) (fin (by simpa only [PyData.canLay0] using b2) (by simp only [PyData.depth]; omega)) ?_))
              rw [e]
              exact hP.now hS (.bl _)
            · refine .inr (.inr (s4 _ _ _ _ _ _ a1 (.tup q b1) (fin a2 (by omega)) (fin (by simpa only [PyData.canLay0] using b2) (by simp only [PyData.depth]; omega)) ?_))
              rw [e]
              exact hP.now hS (.bl _)
          · cases hb
      · cases hb
  · exact hP.elim
theorem m_inS (hu : X.A.units + 65 < cLine) : OpM X W (compareOp .In) oInS := m_inB (neg := false) op_in_sign op_in_seq (op_inD hu) (op_inT hu)
  (fun c z H Q h => ⟨c, z, rfl, rfl, h⟩) (fun x y H Q h => h) (fun x y H Q d ds h1 h2 h3 h4 q => ⟨d, ds, h1, h2, h3, h4, q⟩) (fun x y H Q d ds h1 h2 h3 h4 q => ⟨d, ds, h1, h2, h3, h4, q⟩)
theorem m_notinS (hu : X.A.units + 65 < cLine) : OpM X W (compareOp .NotIn) oNotInS := m_inB (neg := true) op_notIn_sign op_notIn_seq (op_notInD hu) (op_notInT hu)
  (fun c z H Q h => ⟨c, z, rfl, rfl, h⟩) (fun x y H Q h => h) (fun x y H Q d ds h1 h2 h3 h4 q => ⟨d, ds, h1, h2, h3, h4, q⟩) (fun x y H Q d ds h1 h2 h3 h4 q => ⟨d, ds, h1, h2, h3, h4, q⟩)
end
end HM

/-! HM, part 11: slices, sums, all and any, join, texts repeated, lcm. -/
namespace HM
open PySem PySem.Spec PyProof.Rows L2
section
variable {prog : Program} {w : World} {A : Around} {E : Value → Shared → Prop} {s : Shared}
theorem get_whole {t sl : Addr} {items : Array Value} {vl vu : Value} {lo hi : Option Int} {Q : Value → Shared → Prop} (ht : IsTup s.heap t items) (hs : s.heap.IsSliceOf sl vl vu .none) (pl : IsPart vl lo) (pu : IsPart vu hi)
    (h1 : HT.sIx items.size 0 lo = 0) (h2 : HT.sIx items.size items.size hi = items.size) (q : Q (.ref t) s) : wpAny (model prog w) A (getItem (.ref t) (.ref sl)) Q E s := by
  obtain ⟨ob, o1, o2, o3⟩ := id hs
  unfold getItem
  try with_reducible refine wpAny_holding ?_
  try refine wpAny_bind (wpAny_pure ?_)
  refine wpAny_bind (wpAny_sequenceKey ht.typeIs (by decide) ?_)
  refine wpAny_bind (wpAny_callSpecial?_slot (name := Str.ofString "__getitem__") ht.typeIs PyProof.Rows.slot_tuple_getitem (wpAny_call_entry PyProof.Rows.slot_tuple_getitem ht.typeIs entry_tuple_getitem ?_ (args_tuple_getitem _ _)))
  show wpAny _ _ (Builtin.Tuple.tupleItemsOf (.ref t) >>= _) _ _ s
  refine wpAny_bind (tupleItemsOf_ ht (wpAny_bind (wpAny_typeOf (T := "slice") ⟨ob, o1, o2⟩ ?_)))
  rw [if_pos (by decide)]
  refine wpAny_bind (HT.sliceApplied_gen hs pl pu ?_)
  have yes : (((HT.sIx items.size 0 lo : Nat) : Int) == 0 && (1 : Int) == 1 && (HT.sIx items.size items.size hi - HT.sIx items.size 0 lo) == items.size) = true := by
    rw [h1, h2]
    simp
  show wpAny _ _ (if (((HT.sIx items.size 0 lo : Nat) : Int) == 0 && (1 : Int) == 1 && (HT.sIx items.size items.size hi - HT.sIx items.size 0 lo) == items.size) = true then _ else _) _ _ s
  rw [if_pos yes]
  unfold Builtin.Tuple.tupleIsExact
  refine wpAny_bind (wpAny_bind (wpAny_typeOf ht.typeIs ?_))
  refine wpAny_pure ?_
  rw [if_pos (by decide)]
  first
    | exact wpAny_pure ⟨_, rfl, wpAny_pure q⟩
    | exact wpAny_bind (wpAny_rule (wpAny_pure ⟨_, rfl, wpAny_pure q⟩))
end
section
variable {X : Cx}
/-- the whole of a tuple is the tuple -/
def rSlW (K : PySem.W.Frag) : V → Option Int → Option Int → Hp → VK → Prop := fun x lo hi H Q => ∃ a xs, x = .ref a ∧ SqT K H a xs ∧ HT.sIx xs.length 0 lo = 0 ∧ HT.sIx xs.length xs.length hi = xs.length ∧ Q (.ref a) H
theorem sl_whole : SlR X (rSlW X.K) := by
  intro pins s σ H x v vl vu lo hi sl Q I rx hs pl pu h
  obtain ⟨a, xs, rfl, hx, h1, h2, q⟩ := h
  cases rx
  obtain ⟨its, r, ht, hz⟩ := I.tuple hx
  have e : its.toArray.size = xs.length := by rw [List.size_toArray, ← r.length]
  exact ⟨"tuple", _, PyProof.Rows.slot_tuple_getitem.lookup, ht.typeIs, get_whole ht hs pl pu (by rw [e]; exact h1) (by rw [e]; exact h2) ⟨.ref a, H, I, rfl, q⟩⟩
end
section
variable {X : Cx} {W : WX} {e o a b c : Expr} {es : List Expr} {pos p p2 : Pos} {f fo fa fb : EM D} {fs : EM (List D)}
/-! ### slices -/
def cutD {α : Type} (xs : List α) (lo hi : Option Int) : List α := (xs.drop (HT.sIx xs.length 0 lo)).take (HT.sIx xs.length xs.length hi - HT.sIx xs.length 0 lo)
theorem RDs.cut {K : PySem.W.Frag} {m : List Addr} {H : Hp} {ds : List D} {vs : List V} (r : RDs K m H ds vs) (lo hi : Option Int) : RDs K m H (cutD ds lo hi) (cutV vs lo hi) := by
  unfold cutD cutV
  rw [r.len]
  exact (r.drop _).take _
/-- a part of a slice -/
structure Eo (X : Cx) (W : WX) (e : Option Expr) (f : EM (Option Int)) : Prop where
  run : ∃ t : TO, PO X e t ∧ ∀ (m : List Addr) (τ : Sl) (st : Store) (σ : L2.St) (H : Hp) (Q : Option Int → Hp → Prop), SL X.K m H τ σ → SS X.kw m st H → Pe X.kw (fun c d H' => W c d σ H') (fun _ _ a b => a = b) m H (f τ st) Q → t σ H Q
def oNone : EM (Option Int) := fun _ st => .ok none st
def oSome (f : EM D) : EM (Option Int) := fun τ st => (f τ st).bind fun d s1 => match d with
  | .int i => .ok (some i) s1
  | _ => .bad
theorem eo_none : Eo X W none oNone := ⟨_, po_none, fun m τ st σ H Q hL hS hP => hP.now hS rfl⟩
theorem eo_some (h : Ex X W e f) : Eo X W (some e) (oSome f) := ⟨_, po_some peW, fun m τ st σ H Q hL hS hP => h.run m τ st σ H _ hL hS (hP.bind fun d s1 m1 H1 v e1 hS1 r1 hP1 => by
  split at hP1
  · cases r1
    exact ⟨_, rfl, hP1.now hS1 rfl⟩
  · exact hP1.elim)⟩
def dCut (d : D) (lo hi : Option Int) (st : Store) : ER D := match d with
  | .str z => if z.length ≤ 16777216 then .ok (.str (cutD z lo hi)) st else .bad
  | .tup xs => .ok (.tup (cutD xs lo hi)) st
  | .rol xs => .ok (.ref st.length) (st ++ [.lst (cutD xs lo hi)])
  | .ref n => match lstAt st n with
    | some xs => .ok (.ref st.length) (st ++ [.lst (cutD xs lo hi)])
    | none => .bad
  | _ => .bad
def eSl (f : EM D) (fl fh : EM (Option Int)) : EM D := fun τ st => (f τ st).bind fun d s1 => (fl τ s1).bind fun l s2 => (fh τ s2).bind fun h s3 => dCut d l h s3
theorem sl_all : SlR X (fun x lo hi H Q => rSlL X.K x lo hi H Q ∨ (rSlT X.K x lo hi H Q ∨ rSlW X.K x lo hi H Q) ∨ rSlS x lo hi H Q) := sl_list.or ((sl_tup.or sl_whole).or sl_str)
theorem cutS_D (z : List Nat) (lo hi : Option Int) : cutS ⟨z.toArray⟩ lo hi = ⟨(cutD z lo hi).toArray⟩ := by
  unfold cutS cutD
  simp [PySem.Str.length]
theorem ex_sl {lo hi : Option Expr} {fl fh : EM (Option Int)} (he : Ex X W e f) (hl : Eo X W lo fl) (hh : Eo X W hi fh) : Ex X W (.Subscript e (.Slice lo hi none p2) pos) (eSl f fl fh) := by
  obtain ⟨tl, pl, hl⟩ := hl
  obtain ⟨th, ph, hh⟩ := hh
  refine ⟨fun m τ st σ H Q hL hS hP pins s I => (pe_slice sl_all peW pl ph).run pins s σ H Q I ?_⟩
  refine he.run m τ st σ H _ hL hS (hP.bind fun d s1 m1 H1 v e1 hS1 r1 hP1 => ?_)
  refine hl m1 τ s1 σ H1 _ (hL.mono e1) hS1 (hP1.bind fun l s2 m2 H2 l' e2 hS2 r2 hP2 => ?_)
  subst r2
  refine hh m2 τ s2 σ H2 _ ((hL.mono e1).mono e2) hS2 (hP2.bind fun h s3 m3 H3 h' e3 hS3 r3 hP3 => ?_)
  subst r3
  have r1 := (r1.mono e2).mono e3
  unfold dCut at hP3
  split at hP3
  · split at hP3
    · rename_i hz
      cases r1
      refine .inr (.inr ⟨_, rfl, line_of (by simpa [PySem.Str.length] using hz), ?_⟩)
      rw [cutS_D]
      exact hP3.now hS3 (.str _)
    · exact hP3.elim
  · rename_i ds _
    cases r1 with
    | @tup a vs _ q rs =>
      by_cases hw : HT.sIx vs.length 0 l = 0 ∧ HT.sIx vs.length vs.length h = vs.length
      · refine .inr (.inl (.inr ⟨_, _, rfl, q, hw.1, hw.2, hP3.now hS3 ?_⟩))
        have e : cutD ds l h = ds := by
          unfold cutD
          rw [rs.len, hw.1, hw.2, List.drop_zero, Nat.sub_zero, ← rs.len]
          exact List.take_length
        rw [e]
        exact .tup q rs
      · exact .inr (.inl (.inl ⟨_, _, rfl, q, hw, hP3.tup hS3 (rs.cut _ _)⟩))
  · cases r1 with
    | rol q rs => exact .inl ⟨_, _, rfl, q.sq, hP3.lst hS3 (rs.cut _ _)⟩
  · split at hP3
    · rename_i xs hx
      cases r1 with
      | ref q =>
        obtain ⟨vs, h1, h2⟩ := hS3.list hx q
        exact .inl ⟨_, vs, rfl, SqL.of h1, hP3.lst hS3 (h2.cut _ _)⟩
    · exact hP3.elim
  · exact hP3.elim
/-! ### sums -/
def intsD : List D → Option (List Int)
  | [] => some []
  | .int i :: ds => (intsD ds).map (i :: ·)
  | _ => none
theorem intsD_V {K : PySem.W.Frag} {m : List Addr} {H : Hp} : ∀ {ds : List D} {vs : List V} {ns : List Int}, RDs K m H ds vs → intsD ds = some ns → vs = ns.map V.int
  | [], _, _, .nil, h => by
    cases h
    rfl
  | d :: ds, _, ns, .cons r rs, h => by
    unfold intsD at h
    split at h
    · rename_i e
      cases e
    · rename_i i ds' e
      cases e
      cases r
      cases hz : intsD ds with
      | none =>
        rw [hz] at h
        cases h
      | some ks =>
        rw [hz] at h
        cases h
        rw [intsD_V rs hz]
        rfl
    · cases h
theorem intsD_map : ∀ ns : List Int, intsD (ns.map D.int) = some ns
  | [] => rfl
  | n :: ns => by
    rw [List.map_cons, intsD, intsD_map ns]
    rfl
def rSumT (K : PySem.W.Frag) : List V → Hp → VK → Prop := fun vs H Q => ∃ (a : Addr) (ns : List Int), vs = [V.ref a] ∧ SqT K H a (ns.map V.int) ∧ Q (.int ns.sum) H
theorem cr_sumT (hc : X.calm = true) : CallR X (.builtin "sum") (rSumT X.K) := by
  intro pins s σ H vs us Q I r h
  obtain ⟨a, ns, rfl, hs, q⟩ := h
  obtain ⟨its, rv, hl, _⟩ := I.tuple hs
  rw [Vals.ref1 r]
  have hi := rv.ints
  obtain ⟨xs, e⟩ := hi.allInts.items
  have hn : numsOf (intItems xs).toList = ns := by rw [← e]; exact hi.numsOf
  rw [nums_intItems] at hn
  obtain ⟨ob, ho, hcl, n, hd⟩ := hl
  have ht : s.heap.IsTuple a (intItems xs) := by
    rw [← e]
    exact ⟨ob, ho, hcl, n, hd⟩
  refine PySem.W.ktm_sumG (I.ok.hd hc) ht fun h' tk t' hk => ⟨.int _, H, I.kept hk, ⟨_, rfl⟩, ?_⟩
  rw [preSum_eq, List.take_of_length_le (by simp), hn]
  exact q
def gSum : SM1 := fun xs st => match intsD xs with
  | some ns => .ok (.int ns.sum) st
  | none => .bad
theorem s_sum (hc : X.calm = true) : CallS X (.builtin "sum") gSum := ⟨_, (cr_sum hc).or (cr_sumT hc), fun m st H ds v E Q hS r hP => by
  obtain ⟨a, vs, rfl, q, rs⟩ := r
  unfold gSum at hP
  split at hP
  · rename_i ns hn
    have e := intsD_V rs hn
    subst e
    rcases q with q | q
    · exact .inl ⟨a, ns, rfl, q, hP.now hS (.int _)⟩
    · exact .inr ⟨a, ns, rfl, q, hP.now hS (.int _)⟩
  · exact hP.elim⟩
/-! ### of lists alone -/
def SqVL (K : PySem.W.Frag) (m : List Addr) (H : Hp) (ds : List D) (v : V) : Prop := ∃ a vs, v = .ref a ∧ SqL K H a vs ∧ RDs K m H ds vs
structure Esl (X : Cx) (W : WX) (e : Expr) (f : EM (List D)) : Prop where
  run : ∀ (m : List Addr) (τ : Sl) (st : Store) (σ : L2.St) (H : Hp) (Q : VK), SL X.K m H τ σ → SS X.kw m st H → Pe X.kw (fun c d H' => W c d σ H') (SqVL X.K) m H (f τ st) Q → wE X e σ H Q
theorem esl_el {fl : EM (List D)} (h : El X W e fl) : Esl X W e fl := by
  refine ⟨fun m τ st σ H Q hL hS hP => h.run m τ st σ H Q hL hS ?_⟩
  cases hq : fl τ st with
  | ok ds s1 =>
    rw [hq] at hP
    intro m1 H1 v e1 hS1 ⟨a, vs, e, ha, na, hn, rs⟩
    exact hP m1 H1 v e1 hS1 ⟨a, vs, e, SqL.of ha, rs⟩
  | exc x st' =>
    rw [hq] at hP
    exact hP
  | bad =>
    rw [hq] at hP
    exact hP.elim
def dSeqL (st : Store) : D → Option (List D)
  | .rol xs => some xs
  | .ref n => lstAt st n
  | _ => none
def sExL (f : EM D) : EM (List D) := fun τ st => (f τ st).bind fun d s1 => match dSeqL s1 d with
  | some xs => .ok xs s1
  | none => .bad
theorem esl_ex (h : Ex X W e f) : Esl X W e (sExL f) := by
  refine ⟨fun m τ st σ H Q hL hS hP => h.run m τ st σ H Q hL hS (hP.bind fun d s1 m1 H1 v e1 hS1 r1 hP1 => ?_)⟩
  split at hP1
  · rename_i xs hx
    cases r1 with
    | rol q rs =>
      cases hx
      exact hP1.now hS1 ⟨_, _, rfl, q.sq, rs⟩
    | ref q =>
      obtain ⟨vs, h1, h2⟩ := hS1.list hx q
      exact hP1.now hS1 ⟨_, vs, rfl, SqL.of h1, h2⟩
    | _ => cases hx
  · exact hP1.elim
def CallL (X : Cx) (fv : Value) (g : SM1) : Prop :=
  ∃ r, CallR X fv r ∧ ∀ (m : List Addr) (st : Store) (H : Hp) (ds : List D) (v : V) (E : XK) (Q : VK), SS X.kw m st H → SqVL X.K m H ds v → Pe X.kw E (RD X.K) m H (g ds st) Q → r [v] H Q
theorem ex_callBl {x : Str} {id : String} {g : SM1} {fl : EM (List D)} (hc : CallL X (.builtin id) g) (hg : Gl X x) (hm : X.mg x = none) (hv : bootBuiltins x = some (.builtin id)) (ha : Esl X W e fl) (hn : x ≠ "__name__" := by decide) (hdb : (x == ("__debug__" : Str)) = false := by decide)
    (he : starEach [e] X.env = (false, eval e X.env) :: starEach [] X.env := by rfl) (hpl : (backTo pos (starEach [] X.env)).any (·.1) = false := by rfl) : Ex X W (.Call (.Name x p) [e] [] pos) (eCS g fl) := by
  obtain ⟨r, hr, h⟩ := hc
  refine ⟨fun m τ st σ H Q hL hS hP pins s I => (pe_callB hr hg hm hv (pa_cons peW pa_nil he) hn hdb he hpl).run pins s σ H Q I ?_⟩
  exact ha.run m τ st σ H _ hL hS (hP.bind fun ds s1 m1 H1 v e1 hS1 r1 hP1 => h m1 s1 H1 ds v _ Q hS1 r1 hP1)
def blsD : List D → Option (List Bool)
  | [] => some []
  | .bl i :: ds => (blsD ds).map (i :: ·)
  | _ => none
theorem blsD_V {K : PySem.W.Frag} {m : List Addr} {H : Hp} : ∀ {ds : List D} {vs : List V} {ns : List Bool}, RDs K m H ds vs → blsD ds = some ns → vs = ns.map V.bl
  | [], _, _, .nil, h => by
    cases h
    rfl
  | d :: ds, _, ns, .cons r rs, h => by
    unfold blsD at h
    split at h
    · rename_i e
      cases e
    · rename_i i ds' e
      cases e
      cases r
      cases hz : blsD ds with
      | none =>
        rw [hz] at h
        cases h
      | some ks =>
        rw [hz] at h
        cases h
        rw [blsD_V rs hz]
        rfl
    · cases h
theorem blsD_map : ∀ ns : List Bool, blsD (ns.map D.bl) = some ns
  | [] => rfl
  | n :: ns => by
    rw [List.map_cons, blsD, blsD_map ns]
    rfl
def gAllB : SM1 := fun xs st => match blsD xs with
  | some bs => .ok (.bl (bs.all id)) st
  | none => .bad
def gAnyB : SM1 := fun xs st => match blsD xs with
  | some bs => .ok (.bl (bs.any id)) st
  | none => .bad
theorem s_all (hc : X.calm = true) : CallL X (.builtin "all") gAllB := ⟨_, cr_all hc, fun m st H ds v E Q hS r hP => by
  obtain ⟨a, vs, rfl, q, rs⟩ := r
  unfold gAllB at hP
  split at hP
  · rename_i ns hn
    have e := blsD_V rs hn
    subst e
    exact ⟨a, ns, rfl, q, hP.now hS (.bl _)⟩
  · exact hP.elim⟩
theorem s_any (hc : X.calm = true) : CallL X (.builtin "any") gAnyB := ⟨_, cr_any hc, fun m st H ds v E Q hS r hP => by
  obtain ⟨a, vs, rfl, q, rs⟩ := r
  unfold gAnyB at hP
  split at hP
  · rename_i ns hn
    have e := blsD_V rs hn
    subst e
    exact ⟨a, ns, rfl, q, hP.now hS (.bl _)⟩
  · exact hP.elim⟩
def maxI : List Int → Option Int
  | [] => none
  | n :: ns => some (ns.foldl max n)
def minI : List Int → Option Int
  | [] => none
  | n :: ns => some (ns.foldl min n)
theorem foldl_max_ge : ∀ (ns : List Int) (n : Int), n ≤ ns.foldl max n ∧ (∀ y ∈ ns, y ≤ ns.foldl max n) ∧ (ns.foldl max n = n ∨ ns.foldl max n ∈ ns)
  | [], n => ⟨Int.le_refl _, by simp, .inl rfl⟩
  | k :: ns, n => by
    obtain ⟨h1, h2, h3⟩ := foldl_max_ge ns (max n k)
    rw [List.foldl_cons]
    refine ⟨Int.le_trans (Int.le_max_left n k) h1, fun y hy => ?_, ?_⟩
    · rcases List.mem_cons.mp hy with rfl | hy
      · exact Int.le_trans (Int.le_max_right n y) h1
      · exact h2 y hy
    · rcases h3 with h3 | h3
      · rw [h3]
        rcases Int.le_total n k with h | h
        · rw [Int.max_eq_right h]
          exact .inr (List.mem_cons_self ..)
        · rw [Int.max_eq_left h]
          exact .inl rfl
      · exact .inr (List.mem_cons_of_mem _ h3)
theorem foldl_min_le : ∀ (ns : List Int) (n : Int), ns.foldl min n ≤ n ∧ (∀ y ∈ ns, ns.foldl min n ≤ y) ∧ (ns.foldl min n = n ∨ ns.foldl min n ∈ ns)
  | [], n => ⟨Int.le_refl _, by simp, .inl rfl⟩
  | k :: ns, n => by
    obtain ⟨h1, h2, h3⟩ := foldl_min_le ns (min n k)
    rw [List.foldl_cons]
    refine ⟨Int.le_trans h1 (Int.min_le_left n k), fun y hy => ?_, ?_⟩
    · rcases List.mem_cons.mp hy with rfl | hy
      · exact Int.le_trans h1 (Int.min_le_right n y)
      · exact h2 y hy
    · rcases h3 with h3 | h3
      · rw [h3]
        rcases Int.le_total n k with h | h
        · rw [Int.min_eq_left h]
          exact .inl rfl
        · rw [Int.min_eq_right h]
          exact .inr (List.mem_cons_self ..)
      · exact .inr (List.mem_cons_of_mem _ h3)
def gMax : SM1 := fun xs st => match (intsD xs).bind maxI with
  | some n => .ok (.int n) st
  | none => .bad
def gMin : SM1 := fun xs st => match (intsD xs).bind minI with
  | some n => .ok (.int n) st
  | none => .bad
theorem s_max (hc : X.calm = true) : CallL X (.builtin "max") gMax := ⟨_, cr_max hc, fun m st H ds v E Q hS r hP => by
  obtain ⟨a, vs, rfl, q, rs⟩ := r
  unfold gMax at hP
  split at hP
  · rename_i k hk
    cases hn : intsD ds with
    | none =>
      rw [hn] at hk
      cases hk
    | some ns =>
      rw [hn] at hk
      have e := intsD_V rs hn
      subst e
      cases ns with
      | nil => cases hk
      | cons n ns =>
        have hk : some (ns.foldl max n) = some k := hk
        cases hk
        obtain ⟨h1, h2, h3⟩ := foldl_max_ge ns n
        refine ⟨a, n :: ns, rfl, q, by simp, fun mm hm hy => ?_⟩
        have e : mm = ns.foldl max n := by
          refine Int.le_antisymm ?_ ?_
          · rcases List.mem_cons.mp hm with rfl | hm
            · exact h1
            · exact h2 mm hm
          · rcases h3 with h3 | h3
            · rw [h3]
              exact hy n (List.mem_cons_self ..)
            · exact hy _ (List.mem_cons_of_mem _ h3)
        subst e
        exact hP.now hS (.int _)
  · exact hP.elim⟩
theorem s_min (hc : X.calm = true) : CallL X (.builtin "min") gMin := ⟨_, cr_min hc, fun m st H ds v E Q hS r hP => by
  obtain ⟨a, vs, rfl, q, rs⟩ := r
  unfold gMin at hP
  split at hP
  · rename_i k hk
    cases hn : intsD ds with
    | none =>
      rw [hn] at hk
      cases hk
    | some ns =>
      rw [hn] at hk
      have e := intsD_V rs hn
      subst e
      cases ns with
      | nil => cases hk
      | cons n ns =>
        have hk : some (ns.foldl min n) = some k := hk
        cases hk
        obtain ⟨h1, h2, h3⟩ := foldl_min_le ns n
        refine ⟨a, n :: ns, rfl, q, by simp, fun mm hm hy => ?_⟩
        have e : mm = ns.foldl min n := by
          refine Int.le_antisymm ?_ ?_
          · rcases h3 with h3 | h3
            · rw [h3]
              exact hy n (List.mem_cons_self ..)
            · exact hy _ (List.mem_cons_of_mem _ h3)
          · rcases List.mem_cons.mp hm with rfl | hm
            · exact h1
            · exact h2 mm hm
        subst e
        exact hP.now hS (.int _)
  · exact hP.elim⟩
/-! ### lcm -/
def rLcm : List V → Hp → VK → Prop := fun vs H Q => ∃ a b : Int, vs = [.int a, .int b] ∧ a.natAbs < 2 ^ 9000 ∧ b.natAbs < 2 ^ 9000 ∧ Q (.int ((Nat.lcm a.natAbs b.natAbs : Nat) : Int)) H
theorem log_of {n k : Nat} (h : n < 2 ^ k) (hk : 0 < k) : n.log2 < k := by
  by_cases z : n = 0
  · subst z
    rw [Nat.log2_zero]
    exact hk
  · exact (Nat.log2_lt z).mpr h
theorem cr_lcm : CallR X (.builtin "math.lcm") rLcm := by
  intro pins s σ H vs us Q I r h
  obtain ⟨a, b, rfl, h1, h2, q⟩ := h
  obtain ⟨t, u, rfl⟩ := Vals.int2 r
  have h0 : (1 : Nat) < 2 ^ 9000 := Nat.one_lt_two_pow (by decide)
  have l1 : (max 1 a.natAbs).log2 < 9000 := log_of (Nat.max_lt.mpr ⟨h0, h1⟩) (by decide)
  have l2 : (max a.natAbs b.natAbs).log2 < 9000 := log_of (Nat.max_lt.mpr ⟨h1, h2⟩) (by decide)
  have l3 : ((((Nat.lcm 1 a.natAbs).lcm b.natAbs : Nat) : Int)).natAbs.log2 < bitsLine := by
    rw [Int.natAbs_natCast, PySem.W.mc_lcm_one]
    have := PySem.W.mc_lcm_le a.natAbs b.natAbs
    have h3 : a.natAbs * b.natAbs < 2 ^ 18000 := by
      rw [show (18000 : Nat) = 9000 + 9000 from rfl, Nat.pow_add]
      exact Nat.mul_lt_mul'' h1 h2
    exact Nat.lt_trans (log_of (Nat.lt_of_le_of_lt this h3) (by decide)) (by decide)
  have g := (PySem.W.mg_run_lcm a t b u (by omega) (by omega) l3).meets
  refine PySem.call_function_meets PySem.W.MGF.kind_lcm PySem.W.MGF.plain_lcm PySem.W.MGF.entry_lcm (PySem.W.MGF.args_lcm _ _) g ?_
  rw [PySem.W.mc_lcm_one]
  exact ⟨.int _, H, I.tok _, ⟨_, rfl⟩, q⟩
def fLcm : FM := fun ds st => match ds with
  | [.int i, .int j] => if decide (i.natAbs < 2 ^ 9000) && decide (j.natAbs < 2 ^ 9000) then .ok (.int (Nat.lcm i.natAbs j.natAbs : Nat)) st else .bad
  | _ => .bad
theorem c_lcm : CallM X (.builtin "math.lcm") fLcm := ⟨_, cr_lcm, fun m st H ds vs E Q hS r hP => by
  unfold fLcm at hP
  split at hP
  · split at hP
    · rename_i hc
      rw [Bool.and_eq_true, decide_eq_true_eq, decide_eq_true_eq] at hc
      obtain ⟨v, u, rfl, r1, r2⟩ := r.two
      cases r1
      cases r2
      exact ⟨_, _, rfl, hc.1, hc.2, hP.now hS (.int _)⟩
    · exact hP.elim
  · exact hP.elim⟩
/-! ### texts: join, repeated -/
def strsD : List D → Option (List (List Nat))
  | [] => some []
  | .str x :: ds => (strsD ds).map (x :: ·)
  | _ => none
theorem strsD_V {K : PySem.W.Frag} {m : List Addr} {H : Hp} : ∀ {ds : List D} {vs : List V} {ns : List (List Nat)}, RDs K m H ds vs → strsD ds = some ns → vs = (ns.map fun x => (⟨x.toArray⟩ : Str)).map V.str
  | [], _, _, .nil, h => by
    cases h
    rfl
  | d :: ds, _, ns, .cons r rs, h => by
    unfold strsD at h
    split at h
    · rename_i e
      cases e
    · rename_i i ds' e
      cases e
      cases r
      cases hz : strsD ds with
      | none =>
        rw [hz] at h
        cases h
      | some ks =>
        rw [hz] at h
        cases h
        rw [strsD_V rs hz]
        rfl
    · cases h
theorem strsD_map : ∀ ns : List (List Nat), strsD (ns.map D.str) = some ns
  | [] => rfl
  | n :: ns => by
    rw [List.map_cons, strsD, strsD_map ns]
    rfl
end
end HM

/-! HM, part 12: texts joined, things repeated. -/
namespace HM
open PySem PySem.Spec PyProof.Rows L2 SX
section
variable {X : Cx} {W : WX} {e o a b c : Expr} {es : List Expr} {pos p p2 : Pos} {f fo fa fb : EM D} {fs : EM (List D)}
def joinD (a : List Nat) : List (List Nat) → List Nat
  | [] => []
  | [p] => p
  | p :: q :: r => p ++ (a ++ joinD a (q :: r))
theorem joinD_eq (a : List Nat) : ∀ ys : List (List Nat), TL.joinL a ys = joinD a ys
  | [] => rfl
  | [_] => rfl
  | p :: q :: r => by
    show p ++ (a ++ TL.joinL a (q :: r)) = p ++ (a ++ joinD a (q :: r))
    rw [joinD_eq a (q :: r)]
def mJoin : MM := fun d ds st => match d, ds with
  | .str a, [y] => match (dSeq st y).bind strsD with
    | some ys => if (ys.map List.length).sum + ys.length * a.length ≤ 16777216 then .ok (.str (joinD a ys)) st else .bad
    | none => .bad
  | _, _ => .bad
theorem me_join : MethM X "str.join" mJoin := ⟨_, mt_join, fun m st H d v ds vs E Q hS r rs hP => by
  unfold mJoin at hP
  split at hP
  · rename_i a y
    split at hP
    · rename_i ys hy
      split at hP
      · rename_i hl
        cases hq : dSeq st y with
        | none =>
          rw [hq] at hy
          cases hy
        | some zs =>
          rw [hq] at hy
          obtain ⟨u, rfl, ru⟩ := rs.one
          cases r
          obtain ⟨p, us, rfl, q, rs'⟩ := dSeq_read hS hq ru
          have e := strsD_V rs' hy
          subst e
          refine ⟨⟨a.toArray⟩, p, ys.map S, rfl, rfl, q, ?_, ?_⟩
          · rw [List.map_map, List.length_map]
            have e : (ys.map ((fun x : Str => x.length) ∘ S)) = ys.map List.length := List.map_congr_left fun x _ => S_len x
            rw [e]
            have e2 : (⟨a.toArray⟩ : Str).length = a.length := S_len a
            rw [e2]
            exact hl
          · have e := join_S a ys
            rw [joinD_eq] at e
            rw [e]
            exact hP.now hS (.str _)
      · exact hP.elim
    · exact hP.elim
  · exact hP.elim⟩
/-! ### * -/
def repD {α : Type} (k : Nat) (xs : List α) : List α := (List.replicate k xs).flatten
theorem foldl_app (x : Array Nat) : ∀ (k : Nat) (acc : Array Nat), (List.replicate k x).foldl (· ++ ·) acc = acc ++ ((List.replicate k x.toList).flatten).toArray
  | 0, acc => by simp
  | k + 1, acc => by
    rw [List.replicate_succ, List.foldl_cons, foldl_app x k, List.replicate_succ, List.flatten_cons]
    apply Array.ext'
    simp
theorem repD_len {α : Type} (k : Nat) (xs : List α) : (repD k xs).length = xs.length * k := by
  unfold repD
  induction k with
  | zero => simp
  | succ k ih =>
    rw [List.replicate_succ, List.flatten_cons, List.length_append, ih, Nat.mul_succ, Nat.add_comm]
theorem op_repS : OpR X (binaryOp .Mult) (fun x y H Q => ∃ (z : List Nat) (k : Int), x = .str (S z) ∧ y = .int k ∧ 2 ≤ k ∧ k ≤ 16777216 ∧ z.length * k.toNat ≤ 16777216 ∧ Q (.str (S (repD k.toNat z))) H) := by
  intro pins s σ H x y v u Q I rx ry h
  obtain ⟨z, k, rfl, rfl, h2, hz, hl, q⟩ := h
  obtain ⟨t, rfl⟩ := rx
  obtain ⟨t', rfl⟩ := ry
  have e1 : (S z).length = z.length := S_len z
  refine PySem.P.mul_str ?_ (fun _ h0 => ?_) (fun _ _ => ?_) ?_
  · have a1 : ¬ k < -(2 ^ 63 : Int) := by omega
    have a2 : ¬ k ≥ 2 ^ 63 := by
      have : (16777216 : Int) < 2 ^ 63 := by decide
      omega
    rw [decide_eq_false a1, decide_eq_false a2]
    rfl
  · rw [e1]
    have h3 : z.length ≤ 16777216 := by
      have : z.length * 1 ≤ z.length * k.toNat := Nat.mul_le_mul_left _ (by omega)
      omega
    have h4 : (16777216 : Int) ≤ (2 ^ 63 - 1) / k := by
      refine (Int.le_ediv_iff_mul_le (by omega)).mpr ?_
      have : (16777216 : Int) * k ≤ 16777216 * 16777216 := Int.mul_le_mul_of_nonneg_left (by omega) (by decide)
      have : (16777216 : Int) * 16777216 ≤ 2 ^ 63 - 1 := by decide
      omega
    omega
  · rw [e1]
    show decide (z.length * k.toNat > 2 ^ 24) = false
    exact decide_eq_false (by
      have : (2 : Nat) ^ 24 = 16777216 := rfl
      omega)
  · have n1 : ¬ k < 1 := by omega
    rw [if_neg n1]
    have a1 : (k == 1) = false := beq_false_of_ne (by omega)
    rw [a1, e1, Bool.false_or]
    by_cases h0 : z = []
    · subst h0
      have e : (S (repD k.toNat ([] : List Nat))) = S [] := by
        have := repD_len k.toNat ([] : List Nat)
        rw [List.length_nil, Nat.zero_mul] at this
        rw [List.length_eq_zero_iff.mp this]
      rw [e] at q
      rw [if_pos (show (([] : List Nat).length == 0) = true from rfl)]
      exact ⟨.str _, H, I, ⟨_, rfl⟩, q⟩
    · have zl : 0 < z.length := List.length_pos_iff.mpr h0
      have a2 : (z.length == 0) = false := beq_false_of_ne (by omega)
      rw [a2, if_neg Bool.false_ne_true]
      have e : (⟨(List.replicate k.toNat (S z).cps).foldl (· ++ ·) #[]⟩ : Str) = S (repD k.toNat z) := by
        rw [foldl_app]
        simp [repD]
      rw [e]
      refine ⟨?_, .str _, H, I.tok _, ⟨_, rfl⟩, q⟩
      rw [S_len, repD_len, PySem.sizeLine_eq]
      exact hl
def oMul : O2 := fun x y st => match x, y with
  | .int i, .int j => if okMul i j then .ok (.int (i * j)) st else .bad
  | .str z, .int k => if decide (2 ≤ k) && decide (k ≤ 16777216) && decide (z.length * k.toNat ≤ 16777216) then .ok (.str (repD k.toNat z)) st else .bad
  | .ref n, .int k => match lstAt st n with
    | some xs => if okIx k && decide (xs.length * k.toNat ≤ 16777216) then .ok (.ref st.length) (st ++ [.lst (repD k.toNat xs)]) else .bad
    | none => .bad
  | .tup xs, .int k => if decide (2 ≤ k) && decide (k ≤ 1000) && !xs.isEmpty && decide (xs.length ≤ 1000) then .ok (.tup (repD k.toNat xs)) st else .bad
  | _, _ => .bad
theorem RDs.rep {K : PySem.W.Frag} {m : List Addr} {H : Hp} {ds : List D} {vs : List V} (r : RDs K m H ds vs) : ∀ k : Nat, RDs K m H (repD k ds) (repD k vs)
  | 0 => .nil
  | k + 1 => by
    have := RDs.rep r k
    unfold repD at this ⊢
    rw [List.replicate_succ, List.replicate_succ, List.flatten_cons, List.flatten_cons]
    exact r.append this
theorem op_mulAll : OpR X (binaryOp .Mult) (fun x y H Q => ((rI IntMulOk fun i j => .int (i * j)) x y H Q ∨ (∃ (z : List Nat) (k : Int), x = .str (S z) ∧ y = .int k ∧ 2 ≤ k ∧ k ≤ 16777216 ∧ z.length * k.toNat ≤ 16777216 ∧ Q (.str (S (repD k.toNat z))) H)) ∨ (rRep x y H Q ∨ rRepT X.K x y H Q)) :=
  (op_mulAny.or op_repS).or (op_rep.or op_repT)
theorem m_mul : OpM X W (binaryOp .Mult) oMul := opm_of op_mulAll fun m st H dx dy x y E Q hS r1 r2 hP => by
  unfold oMul at hP
  split at hP
  · rename_i i j
    split at hP
    · rename_i hc
      cases r1
      cases r2
      have q : (i.natAbs < 18446744073709551616 ∨ j.natAbs < 18446744073709551616) ∨ i.natAbs.log2 + j.natAbs.log2 < 1000000 := of_decide_eq_true hc
      refine .inl (.inl ⟨_, _, rfl, rfl, ?_, hP.now hS (.int _)⟩)
      rcases q with (q | q) | q
      · exact CMul.ok (.inl (by omega))
      · exact CMul.ok (.inr (by omega))
      · exact CMulW.ok q
    · exact hP.elim
  · split at hP
    · rename_i hc
      simp only [Bool.and_eq_true, decide_eq_true_eq] at hc
      cases r1
      cases r2
      exact .inl (.inr ⟨_, _, rfl, rfl, hc.1.1, hc.1.2, hc.2, hP.now hS (.str _)⟩)
    · exact hP.elim
  · split at hP
    · rename_i xs hx
      split at hP
      · rename_i hc
        rw [Bool.and_eq_true, decide_eq_true_eq] at hc
        cases r1 with
        | ref q =>
          cases r2
          obtain ⟨vs, h1, h2⟩ := hS.list hx q
          exact .inr (.inl ⟨_, _, vs, rfl, rfl, h1, (okIx_ok hc.1).1, (okIx_ok hc.1).2, line_of (by rw [← h2.len]; exact hc.2), hP.lst hS (h2.rep _)⟩)
      · exact hP.elim
    · exact hP.elim
  · split at hP
    · rename_i hc
      simp only [Bool.and_eq_true, decide_eq_true_eq, Bool.not_eq_true', List.isEmpty_eq_false_iff] at hc
      cases r1 with
      | tup q rs =>
        cases r2
        refine .inr (.inr ⟨_, _, _, rfl, rfl, q, fun e => hc.1.2 ?_, hc.1.1.1, hc.1.1.2, by rw [← rs.len]; exact hc.2, hP.tup hS (rs.rep _)⟩)
        subst e
        cases rs
        rfl
    · exact hP.elim
  · exact hP.elim
end
end HM

/-! HM: calls of defs with keywords. -/
namespace HM
open PySem PySem.Spec PyProof.Rows L2
section
variable {X : Cx} {W : WX} {e a b c : Expr} {es rest : List Expr} {pos p : Pos} {f fa fb fc : EM D} {fs fk : EM (List D)} {kws : List Keyword}
def wK (X : Cx) (kws : List Keyword) : TA := fun σ H Q => ∀ (pos : Pos) (pins : List (Addr × Obj)) (s : Shared), Inv X pins σ H s → wpAny (model X.prog X.w) X.A (evalAll ((backToKw pos (keywordEach kws X.env)).map (·.2))) (AP X pins σ Q) X.xe s
theorem pkW {X : Cx} {kws : List Keyword} : PK X kws (wK X kws) := ⟨fun pos pins s σ H Q I h => h pos pins s I⟩
/-- the values of keywords -/
structure Ek (X : Cx) (W : WX) (kws : List Keyword) (f : EM (List D)) : Prop where
  run : ∀ (m : List Addr) (τ : Sl) (st : Store) (σ : L2.St) (H : Hp) (Q : List V → Hp → Prop), SL X.K m H τ σ → SS X.kw m st H → Pe X.kw (fun c d H' => W c d σ H') (RDs X.K) m H (f τ st) Q → wK X kws σ H Q
theorem ek_nil : Ek X W [] aNil := ⟨fun m τ st σ H Q hL hS hP pos pins s I => pk_nil.run pos pins s σ H Q I (hP.now hS .nil)⟩
theorem ek_cons {nm : Option Str} {kpos : Pos} (ha : Ex X W e f) (hr : Ek X W kws fs) : Ek X W (⟨nm, e, kpos⟩ :: kws) (aCons f fs) := by
  refine ⟨fun m τ st σ H Q hL hS hP pos pins s I => (pk_cons peW pkW).run pos pins s σ H Q I ?_⟩
  refine ha.run m τ st σ H _ hL hS (hP.bind fun dx s1 m1 H1 x e1 hS1 r1 hP1 => ?_)
  exact hr.run m1 τ s1 σ H1 _ (hL.mono e1) hS1 (hP1.bind fun ds s2 m2 H2 xs e2 hS2 r2 hP2 => hP2.now hS2 (.cons (r1.mono e2) r2))
/-- those at the places -/
def arr {α : Type} (is : List Nat) (l : List α) : List α := is.filterMap (fun i => l[i]?)
theorem Vals.arr {xs : List V} {us : List Value} (r : Vals xs us) : ∀ is : List Nat, Vals (arr is xs) (arr is us)
  | [] => .nil
  | i :: is => by
    have ih := Vals.arr r is
    unfold HM.arr at ih ⊢
    rw [List.filterMap_cons, List.filterMap_cons]
    cases h : xs[i]? with
    | none => rw [r.none_of h]; exact ih
    | some x =>
      obtain ⟨u, h1, h2⟩ := r.get h
      rw [h1]
      exact .cons h2 ih
theorem RDs.arr {K : PySem.W.Frag} {m : List Addr} {H : Hp} {ds : List D} {vs : List V} (r : RDs K m H ds vs) : ∀ is : List Nat, RDs K m H (arr is ds) (arr is vs)
  | [] => .nil
  | i :: is => by
    have ih := RDs.arr r is
    unfold HM.arr at ih ⊢
    rw [List.filterMap_cons, List.filterMap_cons]
    cases h : ds[i]? with
    | none =>
      have : vs[i]? = none := by
        rw [List.getElem?_eq_none_iff] at h ⊢
        rw [← r.len]; exact h
      rw [this]; exact ih
    | some x =>
      obtain ⟨u, h1, h2⟩ := r.get h
      rw [h1]
      exact .cons h2 ih
def eCallK (n k np : Nat) (is : List Nat) (mf : FM) (fs fk : EM (List D)) : EM D := fun τ st => (fs τ st).bind fun ds s1 => (fk τ s1).bind fun es s2 => if ds.length = n ∧ es.length = k ∧ (arr is (ds ++ es)).length = np then mf (arr is (ds ++ es)) s2 else .bad
theorem ex_ck {P : Program} {w : World} {K : PySem.W.Frag} {mg : Str → Option Value} {base : Heap} {A : Around} {j k n : Nat} {ps ks : List Str} {is : List Nat} {mf : FM} {x : Str} {st : Stmt} {fa : Addr} {fd : FuncData} (c : Cal P w K mg base x j ps mf) (F : FnP K x st fa fd) (gx : mg x = some (.ref fa))
    (bn : ∀ (kV doc pm : Value) (an : Option Addr) (cdv ct : Value) (us ws : List Value), us.length = n → ws.length = ks.length → bindArgs (PySem.W.fnOf x x (defArgs st) (defBody st) (defScope st) .none kV doc pm an cdv ct) ⟨us, ks.zip ws⟩ = pure (ps.zip (arr is (us ++ ws))))
    (tk : Takes X W) (hr : Room k A) (hj : j ≤ k) (ha : Ea X W (e :: es) fs) (hkw : Ek X W kws fk)
    (hall : (backToKw pos (keywordEach kws X.env)).all (·.1.isSome) = true := by rfl) (hks : (backToKw pos (keywordEach kws X.env)).filterMap (·.1) = ks := by rfl)
    (hpl : ((backTo pos (starEach (e :: es) X.env)).any (·.1) || (backToKw pos (keywordEach kws X.env)).any (·.1.isNone)) = false := by rfl)
    (h1 : X.prog = P := by rfl) (h2 : X.w = w := by rfl) (h3 : X.K = K := by rfl) (h4 : X.mg = mg := by rfl) (h5 : X.base = base := by rfl) (h6 : X.A = A := by rfl) (hg : Gl X x := by rfl) (hdb : (x == ("__debug__" : Str)) = false := by decide) (he : starEach (e :: es) X.env = (false, eval e X.env) :: starEach es X.env := by rfl) :
    Ex X W (.Call (.Name x p) (e :: es) kws pos) (eCallK n ks.length ps.length is mf fs fk) := by
  subst h1 h2 h3 h4 h5 h6
  obtain ⟨f, fd', G, hm, hk, hb, oc, od, osl, lk⟩ := c.ex
  have e1 : f = fa := by
    rw [hm] at gx
    exact Value.ref.inj (Option.some.inj gx)
  subst e1
  obtain ⟨oc2, od2, dV, kV, doc, pm, an, cdv, ct, osl2, e2, lk2, hcd, hD, hK⟩ := F.ex
  rw [lk] at lk2
  have e3 : fd' = fd := by
    have := Option.some.inj lk2
    injection this with _ _ q _
    injection q
  subst e3
  have hdV : dV = .none := by
    rcases hD with ⟨_, q⟩ | ⟨q, _⟩
    · exact q
    · exact absurd rfl q
  have kb : KBn X.K fd' ps n ks (fun us ws => HM.arr is (us ++ ws)) (fun vs zs => HM.arr is (vs ++ zs)) :=
    ⟨fun s us ws _ l1 l2 => .of_eq (by rw [e2, hdV]; exact bn kV doc pm an cdv ct us ws l1 l2), fun r1 r2 => HM.Vals.arr (r1.append r2) is⟩
  refine ⟨fun m τ st σ H Q hL hS hP pins s I => ?_⟩
  refine wpAny_Call_Name_kw (ld_glob I hg hm ?_ hdb)
  have q : wA X (e :: es) σ H fun vs H1 => wK X kws σ H1 fun zs H2 => vs.length = n ∧ zs.length = ks.length ∧ spM X.kw ps.length mf (HM.arr is (vs ++ zs)) H2 Q (WE W σ) :=
    ha.run m τ st σ H _ hL hS (hP.bind fun ds s1 m1 H1 vs e1 hS1 r1 hP1 => hkw.run m1 τ s1 σ H1 _ (hL.mono e1) hS1 (hP1.bind fun es s2 m2 H2 xs e2 hS2 r2 hP2 => by
      split at hP2
      · rename_i hl
        exact ⟨by rw [← r1.len]; exact hl.1, by rw [← r2.len]; exact hl.2.1, m2, s2, _, hl.2.2, hS2, RDs.arr ((r1.mono e2).append r2) is, hP2⟩
      · exact hP2.elim))
  refine PySem.W.callWith_KW (h₀ := X.base) I.ok.mod.kin hk hall (thn (q pos pins s I) fun us s1 ⟨vs, H1, I1, r, q1⟩ => ?_) hpl he
  refine thn (q1 pos pins s1 I1) fun ws s2 ⟨zs, H2, I2, rz, l1, l2, q2⟩ => ⟨I2.kIn, ?_⟩
  rw [hks]
  have r2 := kb.rel r rz
  refine wpAny_call (codeAny_mono (G.run X.A X.stack s2 H2 ⟨us, ks.zip ws⟩ _ _ Q (WE W σ) (hr.mono hj) I2.env0 (kb.to s2 us ws I2.kIn (r.length.symm.trans l1) (rz.length.symm.trans l2)) r2 q2) fun r s' hq => ?_)
  cases r with
  | error e => exact passAt tk σ pins H2 s2 e s' I2 hq
  | ok fl =>
    cases fl with
    | ret u => exact I2.after hq
    | next => exact False.elim hq
    | brk => exact False.elim hq
    | cont => exact False.elim hq
theorem ex_ck0 {P : Program} {w : World} {K : PySem.W.Frag} {mg : Str → Option Value} {base : Heap} {A : Around} {j k : Nat} {ps ks : List Str} {is : List Nat} {mf : FM} {x : Str} {st : Stmt} {fa : Addr} {fd : FuncData} (c : Cal P w K mg base x j ps mf) (F : FnP K x st fa fd) (gx : mg x = some (.ref fa))
    (bn : ∀ (kV doc pm : Value) (an : Option Addr) (cdv ct : Value) (us ws : List Value), us.length = 0 → ws.length = ks.length → bindArgs (PySem.W.fnOf x x (defArgs st) (defBody st) (defScope st) .none kV doc pm an cdv ct) ⟨us, ks.zip ws⟩ = pure (ps.zip (arr is (us ++ ws))))
    (tk : Takes X W) (hr : Room k A) (hj : j ≤ k) (hkw : Ek X W kws fk)
    (hall : (backToKw pos (keywordEach kws X.env)).all (·.1.isSome) = true := by rfl) (hks : (backToKw pos (keywordEach kws X.env)).filterMap (·.1) = ks := by rfl)
    (hpl : ((backTo pos (starEach [] X.env)).any (·.1) || (backToKw pos (keywordEach kws X.env)).any (·.1.isNone)) = false := by rfl)
    (h1 : X.prog = P := by rfl) (h2 : X.w = w := by rfl) (h3 : X.K = K := by rfl) (h4 : X.mg = mg := by rfl) (h5 : X.base = base := by rfl) (h6 : X.A = A := by rfl) (hg : Gl X x := by rfl) (hdb : (x == ("__debug__" : Str)) = false := by decide) :
    Ex X W (.Call (.Name x p) [] kws pos) (eCallK 0 ks.length ps.length is mf aNil fk) := by
  subst h1 h2 h3 h4 h5 h6
  obtain ⟨f, fd', G, hm, hk, hb, oc, od, osl, lk⟩ := c.ex
  have e1 : f = fa := by
    rw [hm] at gx
    exact Value.ref.inj (Option.some.inj gx)
  subst e1
  obtain ⟨oc2, od2, dV, kV, doc, pm, an, cdv, ct, osl2, e2, lk2, hcd, hD, hK⟩ := F.ex
  rw [lk] at lk2
  have e3 : fd' = fd := by
    have := Option.some.inj lk2
    injection this with _ _ q _
    injection q
  subst e3
  have hdV : dV = .none := by
    rcases hD with ⟨_, q⟩ | ⟨q, _⟩
    · exact q
    · exact absurd rfl q
  have kb : KBn X.K fd' ps 0 ks (fun us ws => HM.arr is (us ++ ws)) (fun vs zs => HM.arr is (vs ++ zs)) :=
    ⟨fun s us ws _ l1 l2 => .of_eq (by rw [e2, hdV]; exact bn kV doc pm an cdv ct us ws l1 l2), fun r1 r2 => HM.Vals.arr (r1.append r2) is⟩
  refine ⟨fun m τ st σ H Q hL hS hP pins s I => ?_⟩
  refine wpAny_Call_Name_kw (ld_glob I hg hm ?_ hdb)
  have q : wK X kws σ H fun zs H2 => zs.length = ks.length ∧ spM X.kw ps.length mf (HM.arr is zs) H2 Q (WE W σ) := by
    have hP : Pe X.kw (fun c d H' => W c d σ H') (RD X.K) m H ((fk τ st).bind fun es s2 => if ([] : List D).length = 0 ∧ es.length = ks.length ∧ (HM.arr is ([] ++ es)).length = ps.length then mf (HM.arr is ([] ++ es)) s2 else .bad) Q := hP
    exact hkw.run m τ st σ H _ hL hS (hP.bind fun es s2 m2 H2 xs e2 hS2 r2 hP2 => by
      split at hP2
      · rename_i hl
        exact ⟨by rw [← r2.len]; exact hl.2.1, m2, s2, _, hl.2.2, hS2, RDs.arr r2 is, hP2⟩
      · exact hP2.elim)
  refine PySem.W.callWith_KW0 (h₀ := X.base) I.ok.mod.kin hk hall (thn (q pos pins s I) fun ws s2 ⟨zs, H2, I2, rz, l2, q2⟩ => ⟨I2.kIn, ?_⟩) hpl
  rw [hks]
  have r2 : Vals (HM.arr is zs) (HM.arr is ([] ++ ws)) := HM.Vals.arr rz is
  refine wpAny_call (codeAny_mono (G.run X.A X.stack s2 H2 ⟨[], ks.zip ws⟩ _ _ Q (WE W σ) (hr.mono hj) I2.env0 (kb.to s2 [] ws I2.kIn rfl (rz.length.symm.trans l2)) r2 q2) fun r s' hq => ?_)
  cases r with
  | error e => exact passAt tk σ pins H2 s2 e s' I2 hq
  | ok fl =>
    cases fl with
    | ret u => exact I2.after hq
    | next => exact False.elim hq
    | brk => exact False.elim hq
    | cont => exact False.elim hq
end
end HM

/-! HM, part Z: zip of a list and a tuple, either way round. -/
namespace HM
open PySem PySem.Spec PyProof.Rows L2
/-- true: a list, false: a tuple -/
def kCls : Bool → String
  | true => "list_iterator"
  | false => "tuple_iterator"
def kIter (k : Bool) (h : Heap) (it l : Addr) (i : Nat) : Prop := ∃ o, h.get? it = some o ∧ o.cls = .type (kCls k) ∧ o.data = .fields #[.ref l, .int i 0]
def kSeq : Bool → Heap → Addr → Array Value → Prop
  | true => fun h l xs => h.IsList l xs
  | false => fun h l xs => h.IsTuple l xs
def kSq : Bool → PySem.W.Frag → Hp → Addr → List V → Prop
  | true => SqL
  | false => SqT
section
variable {prog : Program} {w : World} {A : Around} {E : Value → Shared → Prop} {s : Shared}
theorem draws_k {k : Bool} (hh : A.handled = none) {it l : Addr} (ne : l ≠ it) (items : Array Value) :
    Draws prog w A it [it, l] items.size (fun i v => items[i]? = some v) (fun i h => kIter k h it l i ∧ kSeq k h l items) := by
  cases k with
  | true => exact Draws.list hh it l ne items
  | false => exact Draws.tuple hh it l ne items
abbrev zk1 (c1 : String) (h : Heap) (l1 : Addr) : Heap := h.push { cls := .type c1, data := .fields #[.ref l1, .int 0 0] }
abbrev zk2 (c1 c2 : String) (h : Heap) (l1 l2 : Addr) : Heap := (zk1 c1 h l1).push { cls := .type c2, data := .fields #[.ref l2, .int 0 0] }
abbrev zk3 (c1 c2 : String) (h : Heap) (l1 l2 : Addr) : Heap := (zk2 c1 c2 h l1 l2).push { cls := .type "tuple", data := .seq #[.ref h.objs.size, .ref (zk1 c1 h l1).objs.size] }
abbrev zk4 (c1 c2 : String) (h : Heap) (l1 l2 : Addr) : Heap := (zk3 c1 c2 h l1 l2).push { cls := .type "tuple", data := .seq #[.none, .none] }
abbrev zk5 (c1 c2 : String) (h : Heap) (l1 l2 : Addr) : Heap := (zk4 c1 c2 h l1 l2).push { cls := .type "zip", data := .fields #[.none, .bool false, .bool false, .ref (zk2 c1 c2 h l1 l2).objs.size, .ref (zk3 c1 c2 h l1 l2).objs.size] }
/-- what zip.__new__ makes -/
def NewK (c1 c2 : String) (G : Heap → Prop) (l1 l2 : Addr) : Prop :=
  Meets (Builtin.«zip.__new__» ⟨[.type "zip", .ref l1, .ref l2], []⟩) fun _ R s => G s.heap ∧ R (.ok (.ret (.ref (zk4 c1 c2 s.heap l1 l2).objs.size))) { s with heap := zk5 c1 c2 s.heap l1 l2 }
theorem new_lt (l1 l2 : Addr) (xs ys : Array Value) : NewK "list_iterator" "tuple_iterator" (fun h => h.IsList l1 xs ∧ h.IsTuple l2 ys) l1 l2 :=
  .of_wp fun prog w A R s h => by
    obtain ⟨hp, g, d, tk, os⟩ := s
    obtain ⟨⟨q1, q2⟩, h⟩ := h
    have hsub := sub_zip
    have a1 : Heap.IsList (Shared.heap ⟨hp, g, d, tk, os⟩) l1 xs := q1
    have a2 : Heap.IsTuple (Shared.heap ⟨zk1 "list_iterator" hp l1, g, d, tk, os⟩) l2 ys := Heap.IsTuple.push q2 _
    wp_walk using wpAny_pyIter_list a1, wpAny_pyIter_tuple a2
    exact ⟨_, rfl, h⟩
theorem new_tl (l1 l2 : Addr) (xs ys : Array Value) : NewK "tuple_iterator" "list_iterator" (fun h => h.IsTuple l1 xs ∧ h.IsList l2 ys) l1 l2 :=
  .of_wp fun prog w A R s h => by
    obtain ⟨hp, g, d, tk, os⟩ := s
    obtain ⟨⟨q1, q2⟩, h⟩ := h
    have hsub := sub_zip
    have a1 : Heap.IsTuple (Shared.heap ⟨hp, g, d, tk, os⟩) l1 xs := q1
    have a2 : Heap.IsList (Shared.heap ⟨zk1 "tuple_iterator" hp l1, g, d, tk, os⟩) l2 ys := Heap.IsList.push q2 _
    wp_walk using wpAny_pyIter_tuple a1, wpAny_pyIter_list a2
    exact ⟨_, rfl, h⟩
end
section
variable {prog : Program} {w : World} {A : Around} {E : Value → Shared → Prop} {s : Shared}
/-- what stands behind a call of zip -/
structure ZipMade (k1 k2 : Bool) (h h' : Heap) (l1 l2 : Addr) : Prop where
  z : IsZip h' (h.objs.size + 4) (h.objs.size + 2) (h.objs.size + 3) .none
  i : IsTupOf2 h' (h.objs.size + 2) (.ref h.objs.size) (.ref (h.objs.size + 1))
  o : IsTupOf2 h' (h.objs.size + 3) .none .none
  i1 : kIter k1 h' h.objs.size l1 0
  i2 : kIter k2 h' (h.objs.size + 1) l2 0
  keep : ∀ c o, h.get? c = some o → h'.get? c = some o
theorem call_zk {k1 k2 : Bool} {G : Heap → Prop} {l1 l2 : Addr} {Q : Value → Shared → Prop} (M : NewK (kCls k1) (kCls k2) G l1 l2) (g : G s.heap)
    (h : ∀ h', ZipMade k1 k2 s.heap h' l1 l2 → Q (.ref (s.heap.objs.size + 4)) { s with heap := h' }) : wpAny (model prog w) A (call (.type "zip") [.ref l1, .ref l2]) Q E s := by
  have no : (some "zip.__new__" != some "object.__new__") = true := by decide
  have oi := fun obj => F.args_object_init_3 obj (.ref l1) (.ref l2)
  refine callType_new F.called_zip no (F.typeCall_zip_2 _ _) (F.newCall_zip_2 _ _) oi F.entry_zip_new M ⟨g, ?_⟩
  obtain ⟨n, en⟩ : ∃ n, n = s.heap.objs.size := ⟨_, rfl⟩
  have s1 : (zk1 (kCls k1) s.heap l1).objs.size = n + 1 := by rw [Heap.size_push, en]
  have s2 : (zk2 (kCls k1) (kCls k2) s.heap l1 l2).objs.size = n + 2 := by rw [Heap.size_push, s1]
  have s3 : (zk3 (kCls k1) (kCls k2) s.heap l1 l2).objs.size = n + 3 := by rw [Heap.size_push, s2]
  have s4 : (zk4 (kCls k1) (kCls k2) s.heap l1 l2).objs.size = n + 4 := by rw [Heap.size_push, s3]
  have up : ∀ {h0 : Heap} {o0 : Obj} {c : Addr} {o : Obj}, h0.get? c = some o → (h0.push o0).get? c = some o := fun e => Heap.get?_push_of_some _ e
  have b5 : (zk5 (kCls k1) (kCls k2) s.heap l1 l2).get? (zk4 (kCls k1) (kCls k2) s.heap l1 l2).objs.size = some _ := Heap.get?_push_size _ rfl
  have b4 : (zk5 (kCls k1) (kCls k2) s.heap l1 l2).get? (zk3 (kCls k1) (kCls k2) s.heap l1 l2).objs.size = some _ := up (Heap.get?_push_size _ rfl)
  have b3 : (zk5 (kCls k1) (kCls k2) s.heap l1 l2).get? (zk2 (kCls k1) (kCls k2) s.heap l1 l2).objs.size = some _ := up (up (Heap.get?_push_size _ rfl))
  have b2 : (zk5 (kCls k1) (kCls k2) s.heap l1 l2).get? (zk1 (kCls k1) s.heap l1).objs.size = some _ := up (up (up (Heap.get?_push_size _ rfl)))
  have b1 : (zk5 (kCls k1) (kCls k2) s.heap l1 l2).get? s.heap.objs.size = some _ := up (up (up (up (Heap.get?_push_size _ rfl))))
  show _ ∧ _
  rw [s2, s3, s4] at b5
  rw [s1, s2] at b3
  rw [s3] at b4
  rw [s1] at b2
  rw [s4]
  refine ⟨⟨_, b5, rfl⟩, ?_⟩
  rw [en] at b2 b3 b4 b5 ⊢
  exact h _ ⟨b5, b3, b4, ⟨_, b1, rfl, rfl⟩, ⟨_, b2, rfl, rfl⟩, fun c o e => up (up (up (up (up e))))⟩
end
/-- pairs of the items at a and at b -/
def ItK (k1 k2 : Bool) (K : PySem.W.Frag) (a b : Addr) : It where
  go := fun i H => ∃ (xs ys : List V) (x y : V), (kSq k1 K H a xs ∧ kSq k2 K H b ys) ∧ xs[i]? = some x ∧ ys[i]? = some y
  yld := fun i H v H' => ∃ (T : Addr) (x y : V), (v = .ref T ∧ H T = none ∧ H' = upd H T (.tup [x, y])) ∧ (∀ xs, kSq k1 K H a xs → xs[i]? = some x) ∧ (∀ ys, kSq k2 K H b ys → ys[i]? = some y)
  stop := fun i H => ∃ xs ys : List V, (kSq k1 K H a xs ∧ kSq k2 K H b ys) ∧ (i = xs.length ∧ i ≤ ys.length ∨ i = ys.length ∧ i ≤ xs.length)
section
variable {P : Program} {w : World} {K : PySem.W.Frag}
theorem inv_k {X : Cx} {pins : List (Addr × Obj)} {σ : L2.St} {H : Hp} {s : Shared} {k : Bool} {a : Addr} {xs : List V} (I : Inv X pins σ H s) (h : kSq k X.K H a xs) : ∃ its : List Value, Vals xs its ∧ kSeq k s.heap a its.toArray ∧ a < s.heap.objs.size := by
  cases k with
  | true =>
    obtain ⟨its, r, p, _⟩ := I.list h
    exact ⟨its, r, p.isList, p.lt⟩
  | false =>
    obtain ⟨its, r, p, _⟩ := I.tuple h
    obtain ⟨o, e, _⟩ := id p
    exact ⟨its, r, p, Heap.lt_size e⟩
theorem inj_k {X : Cx} {pins : List (Addr × Obj)} {σ : L2.St} {H : Hp} {s : Shared} {k : Bool} {a : Addr} {xs ys : List V} (I : Inv X pins σ H s) (h : kSq k X.K H a xs) (h2 : kSq k X.K H a ys) : xs = ys := by
  cases k with
  | true => exact I.list_inj h h2
  | false => exact I.tuple_inj h h2
theorem sep_k {z TI TO i1 i2 a b : Addr} (D : ZipApart z TI TO i1 i2 a b) : ZipSep2 z TI TO i1 i2 [i1, a] [i2, b] where
  TIz := D.TIz
  TOz := D.TOz
  TITO := D.TITO
  TIi1 := D.TIi1
  mem1 := by simp
  zf1 := by simp [D.i1z.symm, D.l1z.symm]
  Tf1 := by simp [D.TOi1, D.l1TO.symm]
  TIi2 := D.TIi2
  mem2 := by simp
  zf2 := by simp [D.i2z.symm, D.l2z.symm]
  Tf2 := by simp [D.TOi2, D.l2TO.symm]
  sep1_2 := by simp [D.i12, D.l2i1.symm]
  sep2_1 := by simp [D.i12.symm, D.l1i2.symm]
theorem turn_k {k1 k2 : Bool} {elts : List Expr} {kk : Nat} {tpos : Pos} {a b z TI TO i1 i2 : Addr} (D : ZipApart z TI TO i1 i2 a b) :
    Turn P w K (.Tuple elts kk tpos) (ItK k1 k2 K a b) [z, TI, TO, i1, i2] z fun i h => (IsZip h z TI TO .none ∧ IsTupOf2 h TI (.ref i1) (.ref i2) ∧ ∃ x y, IsTupOf2 h TO x y) ∧ kIter k1 h i1 a i ∧ kIter k2 h i2 b i := by
  have keepI : ∀ {k : Bool} {h h' : Heap} {it l : Addr} {i : Nat}, kIter k h it l i → (∀ o, h.get? it = some o → h'.get? it = some o) → kIter k h' it l i := fun st q => by
    obtain ⟨o, e, c⟩ := st
    exact ⟨o, q o e, c⟩
  refine ⟨by simp, ?_, ?_, ?_, ?_, fun A i s Q E st h => wpAny_pyIter_zip st.1.1 h⟩
  · rintro i h ⟨⟨hz, ht, x, y, ho⟩, ⟨o1, g1, _, d1⟩, o2, g2, _, d2⟩ c hc
    simp only [List.mem_cons, List.not_mem_nil, or_false] at hc
    rcases hc with rfl | rfl | rfl | rfl | rfl
    · exact ⟨_, hz, fun v q => nomatch q⟩
    · exact ⟨_, ht, fun v q => nomatch q⟩
    · exact ⟨_, ho, fun v q => nomatch q⟩
    · exact ⟨o1, g1, fun v q => by rw [d1] at q; exact nomatch q⟩
    · exact ⟨o2, g2, fun v q => by rw [d2] at q; exact nomatch q⟩
  · rintro i h h' ⟨⟨hz, ht, x, y, ho⟩, j1, j2⟩ q
    exact ⟨⟨q z (by simp) _ hz, q TI (by simp) _ ht, x, y, q TO (by simp) _ ho⟩, keepI j1 (q i1 (by simp)), keepI j2 (q i2 (by simp))⟩
  · intro X hP hw hK hc i pins s σ H E I hf st hg
    subst hP hw hK
    obtain ⟨⟨hz, ht, x0, y0, ho⟩, j1, j2⟩ := st
    obtain ⟨xs, ys, x, y, ⟨hx, hy⟩, ex, ey⟩ := hg
    obtain ⟨its, rv, p1, _⟩ := inv_k I hx
    obtain ⟨its2, rv2, p2, _⟩ := inv_k I hy
    obtain ⟨u, hu, ru⟩ := rv.get ex
    obtain ⟨u2, hu2, ru2⟩ := rv2.get ey
    have hh : X.A.in1.handled = none := I.ok.hd hc
    have d1 := draws_k (prog := X.prog) (w := X.w) (k := k1) hh D.l1i1 its.toArray
    have d2 := draws_k (prog := X.prog) (w := X.w) (k := k2) hh D.l2i2 its2.toArray
    have n1 : i < its.toArray.size := by have := (List.getElem?_eq_some_iff.mp hu).1; simpa using this
    have n2 : i < its2.toArray.size := by have := (List.getElem?_eq_some_iff.mp hu2).1; simpa using this
    have zl : z < s.heap.objs.size := Heap.lt_size hz
    refine wpAny_pyNext_zipD2_item (sep_k D) d1 d2 hz ht ho ⟨j1, p1⟩ ⟨j2, p2⟩ n1 n2 ?_
    intro v1 v2 h' tk e1 e2 z' o' q1 q2 hT hsz hk
    have e1 : u = v1 := by simpa [hu] using e1
    have e2 : u2 = v2 := by simpa [hu2] using e2
    subst e1 e2
    refine ⟨_, rfl, wpAny_letOwnedTupleGo_zip (s := { s with heap := h', toks := tk }) z' ?_⟩
    intro h'' z'' sb
    have T2 := (sb.2 _ (Nat.ne_of_gt zl)).trans hT
    have nw : ObjOk X.prog X.w (upd H s.heap.objs.size (.tup [x, y])) h'' s.heap.objs.size (.tup [x, y]) := by
      refine ⟨?_, [u, u2], .cons ru (.cons ru2 .nil), _, T2, rfl, _, rfl⟩
      show 2 ≤ sizeLine
      decide
    have other : ∀ (c : Addr) (o : Obj), c ∉ [z, TI, TO, i1, i2] → s.heap.get? c = some o → h''.get? c = some o := fun c o hb q => by
      simp only [List.mem_cons, List.not_mem_nil, or_false, not_or] at hb
      exact (sb.2 c hb.1).trans (hk c o hb.1 hb.2.2.1 hb.2.2.2.1 hb.2.2.2.2 q)
    have I1 : Inv X pins σ (upd H s.heap.objs.size (.tup [x, y])) { s with heap := h'', toks := tk } := I.turnedNew (t' := tk) (ch := [z, TI, TO, i1, i2]) other hf (Nat.le_refl _) nw
    refine ⟨.ref s.heap.objs.size, _, I1, rfl, ⟨_, x, y, ⟨rfl, I.hok.fresh (Nat.le_refl _), rfl⟩, fun l hl => by rw [inj_k I hl hx]; exact ex, fun l hl => by rw [inj_k I hl hy]; exact ey⟩, ⟨⟨z'', ?_, u, u2, ?_⟩, ?_, ?_⟩, ?_⟩
    · exact (sb.2 _ D.TIz).trans (hk _ _ D.TIz D.TITO D.TIi1 D.TIi2 ht)
    · exact (sb.2 _ D.TOz).trans o'
    · exact keepI q1.1 fun o e => (sb.2 _ D.i1z).trans e
    · exact keepI q2.1 fun o e => (sb.2 _ D.i2z).trans e
    · intro c hm
      have lt : c < s.heap.objs.size := by
        obtain ⟨o1, g1, _⟩ := j1
        obtain ⟨o2, g2, _⟩ := j2
        have hm := hm
        simp only [List.mem_cons, List.not_mem_nil, or_false] at hm
        rcases hm with rfl | rfl | rfl | rfl | rfl
        · exact zl
        · exact Heap.lt_size ht
        · exact Heap.lt_size ho
        · exact Heap.lt_size g1
        · exact Heap.lt_size g2
      rw [upd_ne (Nat.ne_of_lt lt)]
      exact (hf c hm).1
  · intro X hP hw hK hc i pins s σ H E I hf st hg
    subst hP hw hK
    obtain ⟨⟨hz, ht, x0, y0, ho⟩, j1, j2⟩ := st
    obtain ⟨xs, ys, ⟨hx, hy⟩, he⟩ := hg
    obtain ⟨its, rv, p1, _⟩ := inv_k I hx
    obtain ⟨its2, rv2, p2, _⟩ := inv_k I hy
    have m1 := rv.length
    have m2 := rv2.length
    have hh : X.A.in1.handled = none := I.ok.hd hc
    have d1 := draws_k (prog := X.prog) (w := X.w) (k := k1) hh D.l1i1 its.toArray
    have d2 := draws_k (prog := X.prog) (w := X.w) (k := k2) hh D.l2i2 its2.toArray
    refine wpAny_pyNext_zipD2_end (sep_k D) d1 d2 hz ht ho ⟨j1, p1⟩ ⟨j2, p2⟩ (by simp; omega) (by simp; omega) (by simp; omega) ?_
    intro h' tk hk
    refine ⟨rfl, I.turnedL (t' := tk) (ch := [z, TI, TO, i1, i2]) ?_ hf⟩
    intro c o hb q
    simp only [List.mem_cons, List.not_mem_nil, or_false, not_or] at hb
    exact hk c o hb.1 hb.2.2.1 hb.2.2.2.1 hb.2.2.2.2 q
end
section
variable {prog : Program} {w : World} {A : Around} {E : Value → Shared → Prop} {s : Shared}
theorem new_ll (l1 l2 : Addr) (xs ys : Array Value) : NewK "list_iterator" "list_iterator" (fun h => h.IsList l1 xs ∧ h.IsList l2 ys) l1 l2 :=
  .of_wp fun prog w A R s h => by
    obtain ⟨hp, g, d, tk, os⟩ := s
    obtain ⟨⟨q1, q2⟩, h⟩ := h
    have hsub := sub_zip
    have a1 : Heap.IsList (Shared.heap ⟨hp, g, d, tk, os⟩) l1 xs := q1
    have a2 : Heap.IsList (Shared.heap ⟨zk1 "list_iterator" hp l1, g, d, tk, os⟩) l2 ys := Heap.IsList.push q2 _
    wp_walk using wpAny_pyIter_list a1, wpAny_pyIter_list a2
    exact ⟨_, rfl, h⟩
theorem new_tt (l1 l2 : Addr) (xs ys : Array Value) : NewK "tuple_iterator" "tuple_iterator" (fun h => h.IsTuple l1 xs ∧ h.IsTuple l2 ys) l1 l2 :=
  .of_wp fun prog w A R s h => by
    obtain ⟨hp, g, d, tk, os⟩ := s
    obtain ⟨⟨q1, q2⟩, h⟩ := h
    have hsub := sub_zip
    have a1 : Heap.IsTuple (Shared.heap ⟨hp, g, d, tk, os⟩) l1 xs := q1
    have a2 : Heap.IsTuple (Shared.heap ⟨zk1 "tuple_iterator" hp l1, g, d, tk, os⟩) l2 ys := Heap.IsTuple.push q2 _
    wp_walk using wpAny_pyIter_tuple a1, wpAny_pyIter_tuple a2
    exact ⟨_, rfl, h⟩
theorem new_k (k1 k2 : Bool) (l1 l2 : Addr) (xs ys : Array Value) : NewK (kCls k1) (kCls k2) (fun h => kSeq k1 h l1 xs ∧ kSeq k2 h l2 ys) l1 l2 := by
  cases k1 <;> cases k2
  · exact new_tt l1 l2 xs ys
  · exact new_tl l1 l2 xs ys
  · exact new_lt l1 l2 xs ys
  · exact new_ll l1 l2 xs ys
end
def iZk (K : PySem.W.Frag) (ta : TA) : TI := fun σ H R => ta σ H fun vs H1 => ∃ (a b : Addr) (k1 k2 : Bool) (xs ys : List V), vs = [.ref a, .ref b] ∧ (kSq k1 K H1 a xs ∧ kSq k2 K H1 b ys) ∧ R (ItK k1 k2 K a b) H1
theorem pi_zk {X : Cx} {e e2 : Expr} {ta : TA} {p pos tpos : Pos} {elts : List Expr} {kk : Nat} (hg : Gl X "zip") (hm : X.mg "zip" = none) (ha : PA X [e, e2] ta)
    (hs : starEach [e, e2] X.env = (false, eval e X.env) :: starEach [e2] X.env := by rfl)
    (hpl : (backTo pos (starEach [e2] X.env)).any (·.1) = false := by rfl) : PI X (.Tuple elts kk tpos) (.Call (.Name "zip" p) [e, e2] [] pos) (iZk X.K ta) := by
  refine ⟨?_⟩
  intro pins s σ H R I h
  refine Call_ (ld_blt I hg hm PyProof.Rows.boot_zip ?_)
  refine PyProof.Rows.callWith_type1 (thn (ha.run pos pins s σ H _ I h) ?_) hs hpl
  rintro us s1 ⟨vs, H1, I1, r1, a, b, k1, k2, xs, ys, rfl, ⟨hx, hy⟩, q⟩
  cases r1 with
  | cons r rr =>
  cases rr with
  | cons r' rr =>
  cases rr
  cases r
  cases r'
  obtain ⟨its, rv, p1, la⟩ := inv_k I1 hx
  obtain ⟨its2, rv2, p2, lb⟩ := inv_k I1 hy
  refine call_zk (new_k k1 k2 a b its.toArray its2.toArray) ⟨p1, p2⟩ ?_
  intro h' Z
  refine wpAny_pyIter_zip Z.z ?_
  have I2 : Inv X pins σ H1 { s1 with heap := h' } := I1.kept (t' := s1.toks) Z.keep
  obtain ⟨n, en⟩ : ∃ n, n = s1.heap.objs.size := ⟨_, rfl⟩
  have T := turn_k (P := X.prog) (w := X.w) (K := X.K) (k1 := k1) (k2 := k2) (elts := elts) (kk := kk) (tpos := tpos) (PySem.W.ktu_apart s1.heap.objs.size a b la lb)
  refine ⟨s1.heap.objs.size + 4, _, _, _, H1, rfl, I2, T, ⟨⟨Z.z, Z.i, _, _, Z.o⟩, Z.i1, Z.i2⟩, ?_, q⟩
  intro c hm
  simp only [List.mem_cons, List.not_mem_nil, or_false] at hm
  have le : s1.heap.objs.size ≤ c := by
    rcases hm with rfl | rfl | rfl | rfl | rfl
    · exact Nat.le_add_right _ _
    · exact Nat.le_add_right _ _
    · exact Nat.le_add_right _ _
    · exact Nat.le_refl _
    · exact Nat.le_add_right _ _
  exact I1.fpOk le (I1.hok.fresh le)
theorem zipD_at {xs ys : List D} {i : Nat} {d : D} (h : (zipD xs ys)[i]? = some d) : ∃ x y, xs[i]? = some x ∧ ys[i]? = some y ∧ d = .tup [x, y] := by
  unfold zipD at h
  rw [List.getElem?_map] at h
  cases hz : (List.zip xs ys)[i]? with
  | none =>
    rw [hz] at h
    cases h
  | some q =>
    rw [hz] at h
    cases h
    obtain ⟨h1, h2⟩ := List.getElem?_zip_eq_some.mp hz
    exact ⟨_, _, h1, h2, rfl⟩
theorem zipD_len (xs ys : List D) : (zipD xs ys).length = min xs.length ys.length := by
  unfold zipD
  rw [List.length_map, List.length_zip]
theorem j_zk {K : KW} {m0 : List Addr} {H0 : Hp} {k1 k2 : Bool} {a b : Addr} {q : Sq} {xs ys : List D} (hi : q.items = zipD xs ys)
    (h : ∀ (m : List Addr) (H : Hp) (st : Store), Ext K m0 H0 m H → SS K m st H → q.chk st = true → ∃ vs us, (kSq k1 K H a vs ∧ kSq k2 K H b us) ∧ RDs K m H xs vs ∧ RDs K m H ys us) : JOk K m0 H0 q (ItK k1 k2 K a b) := by
  intro m H st e s hc
  obtain ⟨vs, us, ⟨q1, q2⟩, r1, r2⟩ := h m H st e s hc
  refine ⟨?_, vs, us, ⟨q1, q2⟩, ?_⟩
  · intro i d hd
    rw [hi] at hd
    obtain ⟨x, y, hx, hy, rfl⟩ := zipD_at hd
    obtain ⟨v, hv, rv⟩ := r1.get hx
    obtain ⟨u, hu, ru⟩ := r2.get hy
    refine ⟨⟨vs, us, v, u, ⟨q1, q2⟩, hv, hu⟩, ?_⟩
    rintro z H' ⟨T, v', u', ⟨rfl, hT, rfl⟩, g1, g2⟩
    have z1 := g1 vs q1
    have z2 := g2 us q2
    rw [hv] at z1
    rw [hu] at z2
    cases z1
    cases z2
    have f := Ext.fresh (K := K) (m := m) (H := H) (o := .tup [v, u]) hT
    exact ⟨f, s.fresh hT, .tup (SqT.of upd_same) (.cons (rv.mono f) (.cons (ru.mono f) .nil))⟩
  · rw [hi, zipD_len, r1.len, r2.len]
    omega
end HM

/-! HM, part 13: max and min of tuples, index. -/
namespace HM
open PySem PySem.Spec PyProof.Rows L2
section
variable {prog : Program} {w : World} {A : Around} {E : Value → Shared → Prop} {s : Shared}
/-- the greatest of a tuple's ints -/
theorem tup_max {t : Addr} {xs : Array (Int × Tok)} {Q : Value → Shared → Prop} (hh : A.handled = none) (ht : s.heap.IsTuple t (intItems xs)) (hne : 0 < xs.size)
    (h : ∀ v h' tk, (intItems xs)[argBest (fun i j => decide (numAt xs i > numAt xs j)) (xs.size - 1)]? = some v → (∀ b o, s.heap.get? b = some o → h'.get? b = some o) → Q v { s with heap := h', toks := tk }) :
    wpAny (model prog w) A (call (.builtin "max") [.ref t]) Q E s := by
  obtain ⟨ob, o1, _, _, _⟩ := id ht
  have sz : (intItems xs).size = xs.size := by simp [intItems]
  refine call_max_walk (wpAny_pyIter_tuple ht ?_)
  refine ⟨_, [_, t], [_], _, _, _, _, rfl, Walks.tuple (A := A.in1) hh s.heap.objs.size t (Nat.ne_of_lt (Heap.lt_size o1)) (intItems xs), ⟨⟨_, Heap.get?_push_size _ rfl, rfl, rfl⟩, ht.push _⟩, fun b hb => ?_, by omega, CmpOf.ints_gt (numAt xs) (fun _ _ => intItems_at), fun v h' tk hP hk => ?_⟩
  · rcases List.mem_cons.mp hb with rfl | hb
    · exact Heap.lt_size (Heap.get?_push_size _ rfl)
    · rw [List.mem_singleton.mp hb]
      exact Heap.lt_size (Heap.get?_push_of_some _ o1)
  · rw [sz] at hP
    exact h v h' tk hP fun b o e => hk b o (fun hm => absurd (Heap.lt_size e) (by rw [List.mem_singleton.mp hm]; exact Nat.lt_irrefl _)) (Heap.get?_push_of_some _ e)
theorem tup_min {t : Addr} {xs : Array (Int × Tok)} {Q : Value → Shared → Prop} (hh : A.handled = none) (ht : s.heap.IsTuple t (intItems xs)) (hne : 0 < xs.size)
    (h : ∀ v h' tk, (intItems xs)[argBest (fun i j => decide (numAt xs i < numAt xs j)) (xs.size - 1)]? = some v → (∀ b o, s.heap.get? b = some o → h'.get? b = some o) → Q v { s with heap := h', toks := tk }) :
    wpAny (model prog w) A (call (.builtin "min") [.ref t]) Q E s := by
  obtain ⟨ob, o1, _, _, _⟩ := id ht
  have sz : (intItems xs).size = xs.size := by simp [intItems]
  refine call_min_walk (wpAny_pyIter_tuple ht ?_)
  refine ⟨_, [_, t], [_], _, _, _, _, rfl, Walks.tuple (A := A.in1) hh s.heap.objs.size t (Nat.ne_of_lt (Heap.lt_size o1)) (intItems xs), ⟨⟨_, Heap.get?_push_size _ rfl, rfl, rfl⟩, ht.push _⟩, fun b hb => ?_, by omega, CmpOf.ints_lt (numAt xs) (fun _ _ => intItems_at), fun v h' tk hP hk => ?_⟩
  · rcases List.mem_cons.mp hb with rfl | hb
    · exact Heap.lt_size (Heap.get?_push_size _ rfl)
    · rw [List.mem_singleton.mp hb]
      exact Heap.lt_size (Heap.get?_push_of_some _ o1)
  · rw [sz] at hP
    exact h v h' tk hP fun b o e => hk b o (fun hm => absurd (Heap.lt_size e) (by rw [List.mem_singleton.mp hm]; exact Nat.lt_irrefl _)) (Heap.get?_push_of_some _ e)
end
section
variable {X : Cx} {W : WX} {e : Expr} {pos p : Pos}
def rMaxT (K : PySem.W.Frag) : List V → Hp → VK → Prop := fun vs H Q => ∃ (a : Addr) (ns : List Int), vs = [V.ref a] ∧ SqT K H a (ns.map V.int) ∧ 0 < ns.length ∧ ∀ m, m ∈ ns → (∀ y, y ∈ ns → y ≤ m) → Q (.int m) H
def rMinT (K : PySem.W.Frag) : List V → Hp → VK → Prop := fun vs H Q => ∃ (a : Addr) (ns : List Int), vs = [V.ref a] ∧ SqT K H a (ns.map V.int) ∧ 0 < ns.length ∧ ∀ m, m ∈ ns → (∀ y, y ∈ ns → m ≤ y) → Q (.int m) H
theorem cr_maxT (hc : X.calm = true) : CallR X (.builtin "max") (rMaxT X.K) := by
  intro pins s σ H vs us Q I r h
  obtain ⟨a, ns, rfl, hs, hne, q⟩ := h
  obtain ⟨its, rv, hl, _⟩ := I.tuple hs
  rw [Vals.ref1 r]
  have hi := rv.ints
  obtain ⟨xs, e⟩ := hi.allInts.items
  have hn : numsOf (intItems xs).toList = ns := by rw [← e]; exact hi.numsOf
  rw [nums_intItems] at hn
  subst hn
  obtain ⟨ob, ho, hcl, n, hd⟩ := hl
  have ht : s.heap.IsTuple a (intItems xs) := by
    rw [← e]
    exact ⟨ob, ho, hcl, n, hd⟩
  have hsz : 0 < xs.size := by simpa using hne
  refine tup_max (I.ok.hd hc) ht hsz fun v h' tk hv hk => ?_
  obtain ⟨t, rfl⟩ := intItems_at hv
  obtain ⟨h1, h2⟩ := argBest_gt (numAt xs) (xs.size - 1)
  refine ⟨.int _, H, I.kept hk, ⟨_, rfl⟩, q _ ?_ fun y hy => ?_⟩
  · rw [numAt_eq]
    exact PySem.getD_mem (by rw [List.length_map, Array.length_toList]; omega)
  · obtain ⟨j, hj, rfl⟩ := mem_getD hy
    rw [List.length_map, Array.length_toList] at hj
    rw [← numAt_eq]
    exact h2 j (by omega)
theorem cr_minT (hc : X.calm = true) : CallR X (.builtin "min") (rMinT X.K) := by
  intro pins s σ H vs us Q I r h
  obtain ⟨a, ns, rfl, hs, hne, q⟩ := h
  obtain ⟨its, rv, hl, _⟩ := I.tuple hs
  rw [Vals.ref1 r]
  have hi := rv.ints
  obtain ⟨xs, e⟩ := hi.allInts.items
  have hn : numsOf (intItems xs).toList = ns := by rw [← e]; exact hi.numsOf
  rw [nums_intItems] at hn
  subst hn
  obtain ⟨ob, ho, hcl, n, hd⟩ := hl
  have ht : s.heap.IsTuple a (intItems xs) := by
    rw [← e]
    exact ⟨ob, ho, hcl, n, hd⟩
  have hsz : 0 < xs.size := by simpa using hne
  refine tup_min (I.ok.hd hc) ht hsz fun v h' tk hv hk => ?_
  obtain ⟨t, rfl⟩ := intItems_at hv
  obtain ⟨h1, h2⟩ := argBest_lt (numAt xs) (xs.size - 1)
  refine ⟨.int _, H, I.kept hk, ⟨_, rfl⟩, q _ ?_ fun y hy => ?_⟩
  · rw [numAt_eq]
    exact PySem.getD_mem (by rw [List.length_map, Array.length_toList]; omega)
  · obtain ⟨j, hj, rfl⟩ := mem_getD hy
    rw [List.length_map, Array.length_toList] at hj
    rw [← numAt_eq]
    exact h2 j (by omega)
theorem max_uniq {ns : List Int} {k m : Int} (hk : maxI ns = some k) (hm : m ∈ ns) (hy : ∀ y ∈ ns, y ≤ m) : m = k := by
  cases ns with
  | nil => cases hk
  | cons n ns =>
    have hk : some (ns.foldl max n) = some k := hk
    cases hk
    obtain ⟨h1, h2, h3⟩ := foldl_max_ge ns n
    refine Int.le_antisymm ?_ ?_
    · rcases List.mem_cons.mp hm with rfl | hm
      · exact h1
      · exact h2 m hm
    · rcases h3 with h3 | h3
      · rw [h3]
        exact hy n (List.mem_cons_self ..)
      · exact hy _ (List.mem_cons_of_mem _ h3)
theorem min_uniq {ns : List Int} {k m : Int} (hk : minI ns = some k) (hm : m ∈ ns) (hy : ∀ y ∈ ns, m ≤ y) : m = k := by
  cases ns with
  | nil => cases hk
  | cons n ns =>
    have hk : some (ns.foldl min n) = some k := hk
    cases hk
    obtain ⟨h1, h2, h3⟩ := foldl_min_le ns n
    refine Int.le_antisymm ?_ ?_
    · rcases h3 with h3 | h3
      · rw [h3]
        exact hy n (List.mem_cons_self ..)
      · exact hy _ (List.mem_cons_of_mem _ h3)
    · rcases List.mem_cons.mp hm with rfl | hm
      · exact h1
      · exact h2 m hm
theorem maxI_pos {ns : List Int} {k : Int} (hk : maxI ns = some k) : 0 < ns.length := by
  cases ns with
  | nil => cases hk
  | cons n ns => simp
theorem minI_pos {ns : List Int} {k : Int} (hk : minI ns = some k) : 0 < ns.length := by
  cases ns with
  | nil => cases hk
  | cons n ns => simp
theorem sv_max (hc : X.calm = true) : CallS X (.builtin "max") gMax := ⟨_, (cr_max hc).or (cr_maxT hc), fun m st H ds v E Q hS r hP => by
  obtain ⟨a, vs, rfl, q, rs⟩ := r
  unfold gMax at hP
  split at hP
  · rename_i k hk
    cases hn : intsD ds with
    | none =>
      rw [hn] at hk
      cases hk
    | some ns =>
      rw [hn] at hk
      have hk : maxI ns = some k := hk
      have e := intsD_V rs hn
      subst e
      have fin : ∀ mm, mm ∈ ns → (∀ y, y ∈ ns → y ≤ mm) → Q (.int mm) H := fun mm hm hy => by
        rw [max_uniq hk hm hy]
        exact hP.now hS (.int _)
      rcases q with q | q
      · exact .inl ⟨a, ns, rfl, q, maxI_pos hk, fin⟩
      · exact .inr ⟨a, ns, rfl, q, maxI_pos hk, fin⟩
  · exact hP.elim⟩
theorem sv_min (hc : X.calm = true) : CallS X (.builtin "min") gMin := ⟨_, (cr_min hc).or (cr_minT hc), fun m st H ds v E Q hS r hP => by
  obtain ⟨a, vs, rfl, q, rs⟩ := r
  unfold gMin at hP
  split at hP
  · rename_i k hk
    cases hn : intsD ds with
    | none =>
      rw [hn] at hk
      cases hk
    | some ns =>
      rw [hn] at hk
      have hk : minI ns = some k := hk
      have e := intsD_V rs hn
      subst e
      have fin : ∀ mm, mm ∈ ns → (∀ y, y ∈ ns → mm ≤ y) → Q (.int mm) H := fun mm hm hy => by
        rw [min_uniq hk hm hy]
        exact hP.now hS (.int _)
      rcases q with q | q
      · exact .inl ⟨a, ns, rfl, q, minI_pos hk, fin⟩
      · exact .inr ⟨a, ns, rfl, q, minI_pos hk, fin⟩
  · exact hP.elim⟩
end
/-! ### tuple(range(..)), list(range(..)) -/
section
variable {X : Cx} {W : WX} {e a b : Expr} {pos p p2 : Pos} {fa fb : EM D}
def okLen (j : Int) : Bool := decide (j.toNat ≤ 16777216) && decide (0 ≤ j)
theorem rng_rds {K : PySem.W.Frag} {m : List Addr} {H : Hp} {i j : Int} : RDs K m H (rng i j) (rgV i j) := by
  have e1 : rng i j = ((List.range (j - i).toNat).map fun k : Nat => i + (k : Int)).map D.int := by
    unfold rng
    rw [List.map_map]
    rfl
  have e2 : rgV i j = ((List.range (j - i).toNat).map fun k : Nat => i + (k : Int)).map V.int := by
    unfold rgV
    rw [List.map_map]
    rfl
  rw [e1, e2]
  exact RDs.ints _
theorem rg_ok {i j : Int} (hi : okLen i = true) (hj : okLen j = true) : RgOk i j := by
  unfold okLen at hi hj
  rw [Bool.and_eq_true, decide_eq_true_eq, decide_eq_true_eq] at hi hj
  exact RgOk.of_le hi.2 (by omega) (by omega) hj.2
def kTup (i j : Int) (st : Store) : ER D := if okLen i && okLen j then .ok (.tup (rng i j)) st else .bad
def kLst (i j : Int) (st : Store) : ER D := if okLen i && okLen j then .ok (.ref st.length) (st ++ [.lst (rng i j)]) else .bad
def eRg1 (k : Int → Int → Store → ER D) (fa : EM D) : EM D := fun τ st => (fa τ st).bind fun d s1 => match d with
  | .int j => k 0 j s1
  | _ => .bad
def eRg2 (k : Int → Int → Store → ER D) (fa fb : EM D) : EM D := fun τ st => (fa τ st).bind fun d s1 => (fb τ s1).bind fun e s2 => match d, e with
  | .int i, .int j => k i j s2
  | _, _ => .bad
theorem kTup_ok {K : KW} {E : XK} {m : List Addr} {st : Store} {H : Hp} {Q : VK} {i j : Int} (hS : SS K m st H) (hP : Pe K E (RD K) m H (kTup i j st) Q) : RgOk i j ∧ ∀ q, H q = none → Q (.ref q) (upd H q (.tup (rgV i j))) := by
  unfold kTup at hP
  split at hP
  · rename_i hc
    rw [Bool.and_eq_true] at hc
    exact ⟨rg_ok hc.1 hc.2, hP.tup hS rng_rds⟩
  · exact hP.elim
theorem kLst_ok {K : KW} {E : XK} {m : List Addr} {st : Store} {H : Hp} {Q : VK} {i j : Int} (hS : SS K m st H) (hP : Pe K E (RD K) m H (kLst i j st) Q) : RgOk i j ∧ ∀ q, H q = none → Q (.ref q) (upd H q (.lst (rgV i j))) := by
  unfold kLst at hP
  split at hP
  · rename_i hc
    rw [Bool.and_eq_true] at hc
    exact ⟨rg_ok hc.1 hc.2, hP.lst hS rng_rds⟩
  · exact hP.elim
theorem ex_tupRg1 (hc : X.calm = true) (hg : Gl X "tuple") (hm : X.mg "tuple" = none) (hg2 : Gl X "range") (hm2 : X.mg "range" = none) (ha : Ex X W a fa) (na : starEach [.Call (.Name "range" p2) [a] [] pos] X.env = (false, eval (.Call (.Name "range" p2) [a] [] pos) X.env) :: starEach [] X.env := by rfl) (nb : starEach [a] X.env = (false, eval a X.env) :: starEach [] X.env := by rfl) {pos2 : Pos} :
    Ex X W (.Call (.Name "tuple" p) [.Call (.Name "range" p2) [a] [] pos] [] pos2) (eRg1 kTup fa) := by
  refine ⟨fun m τ st σ H Q hL hS hP pins s I => (pe_tupRg hc hg hm (prg_1 hg2 hm2 peW nb) na).run pins s σ H Q I ?_⟩
  refine ha.run m τ st σ H _ hL hS (hP.bind fun d s1 m1 H1 v e1 hS1 r1 hP1 => ?_)
  split at hP1
  · cases r1
    exact ⟨_, rfl, kTup_ok hS1 hP1⟩
  · exact hP1.elim
theorem ex_lstRg1 (hc : X.calm = true) (hg : Gl X "list") (hm : X.mg "list" = none) (hg2 : Gl X "range") (hm2 : X.mg "range" = none) (ha : Ex X W a fa) (na : starEach [.Call (.Name "range" p2) [a] [] pos] X.env = (false, eval (.Call (.Name "range" p2) [a] [] pos) X.env) :: starEach [] X.env := by rfl) (nb : starEach [a] X.env = (false, eval a X.env) :: starEach [] X.env := by rfl) {pos2 : Pos} :
    Ex X W (.Call (.Name "list" p) [.Call (.Name "range" p2) [a] [] pos] [] pos2) (eRg1 kLst fa) := by
  refine ⟨fun m τ st σ H Q hL hS hP pins s I => (pe_listRg hc hg hm (prg_1 hg2 hm2 peW nb) na).run pins s σ H Q I ?_⟩
  refine ha.run m τ st σ H _ hL hS (hP.bind fun d s1 m1 H1 v e1 hS1 r1 hP1 => ?_)
  split at hP1
  · cases r1
    exact ⟨_, rfl, kLst_ok hS1 hP1⟩
  · exact hP1.elim
end
/-! ### zip of two -/
section
variable {X : Cx} {W : WX} {a b : Expr} {pos p tpos : Pos} {fa fb : EM D}
def zip2 (d e : D) (st : Store) : ER Sq := match d, e with
  | .tup xs, .tup ys => .ok (.fix (zipD xs ys)) st
  | .ref n, .ref k => match lstAt st n, lstAt st k with
    | some xs, some ys => .ok (.two n k xs ys) st
    | _, _ => .bad
  | .ref n, .tup ys => match lstAt st n with
    | some xs => .ok (.mix true n xs ys) st
    | none => .bad
  | .tup xs, .ref n => match lstAt st n with
    | some ys => .ok (.mix false n xs ys) st
    | none => .bad
  | _, _ => .bad
def iZip (fa fb : EM D) : EM Sq := fun τ st => (fa τ st).bind fun d s1 => (fb τ s1).bind fun e s2 => zip2 d e s2
theorem ei_zip {elts : List Expr} {kk : Nat} (hg : Gl X "zip") (hm : X.mg "zip" = none) (ha : Ex X W a fa) (hb : Ex X W b fb)
    (hs : starEach [a, b] X.env = (false, eval a X.env) :: starEach [b] X.env := by rfl) (hs2 : starEach [b] X.env = (false, eval b X.env) :: starEach [] X.env := by rfl) (hpl : (backTo pos (starEach [b] X.env)).any (·.1) = false := by rfl) :
    Ei X W (.Tuple elts kk tpos) (.Call (.Name "zip" p) [a, b] [] pos) (iZip fa fb) := by
  refine ⟨fun m τ st σ H R hL hS hP pins s I => (pi_zk (elts := elts) (kk := kk) (tpos := tpos) hg hm (pa_cons peW (pa_cons peW pa_nil hs2) hs) hs hpl).run pins s σ H R I ?_⟩
  refine two ha hb hL hS hP fun m2 st2 H2 dx dy x y e2 hS2 r1 r2 hP2 => ?_
  unfold zip2 at hP2
  split at hP2
  · cases r1 with
    | tup q rs =>
      cases r2 with
      | tup q2 rs2 => exact ⟨_, _, false, false, _, _, rfl, ⟨q, q2⟩, hP2.now hS2 (j_zk rfl fun m H st e s _ => ⟨_, _, ⟨e.tup _ _ q, e.tup _ _ q2⟩, rs.mono e, rs2.mono e⟩)⟩
  · split at hP2
    · rename_i xs ys hx hy
      cases r1 with
      | ref q =>
        cases r2 with
        | ref q2 =>
          obtain ⟨vs, h1, _⟩ := hS2.list hx q
          obtain ⟨us, h2, _⟩ := hS2.list hy q2
          refine ⟨_, _, true, true, vs, us, rfl, ⟨SqL.of h1, SqL.of h2⟩, hP2.now hS2 (j_zk rfl fun m H st e s hc => ?_)⟩
          have hc : (decide (lstAt st _ = some xs) && decide (lstAt st _ = some ys)) = true := hc
          rw [Bool.and_eq_true, decide_eq_true_eq, decide_eq_true_eq] at hc
          obtain ⟨vs, h1, r1⟩ := s.list hc.1 (e.pre _ _ q)
          obtain ⟨us, h2, r2⟩ := s.list hc.2 (e.pre _ _ q2)
          exact ⟨vs, us, ⟨SqL.of h1, SqL.of h2⟩, r1, r2⟩
    · exact hP2.elim
  · split at hP2
    · rename_i xs hx
      cases r1 with
      | ref q =>
        cases r2 with
        | tup q2 rs2 =>
          obtain ⟨vs, h1, _⟩ := hS2.list hx q
          refine ⟨_, _, true, false, vs, _, rfl, ⟨SqL.of h1, q2⟩, hP2.now hS2 (j_zk rfl fun m H st e s hc => ?_)⟩
          have hc : decide (lstAt st _ = some xs) = true := hc
          rw [decide_eq_true_eq] at hc
          obtain ⟨vs, h1, r1⟩ := s.list hc (e.pre _ _ q)
          exact ⟨vs, _, ⟨SqL.of h1, e.tup _ _ q2⟩, r1, rs2.mono e⟩
    · exact hP2.elim
  · split at hP2
    · rename_i ys hy
      cases r1 with
      | tup q rs =>
        cases r2 with
        | ref q2 =>
          obtain ⟨us, h2, _⟩ := hS2.list hy q2
          refine ⟨_, _, false, true, _, us, rfl, ⟨q, SqL.of h2⟩, hP2.now hS2 (j_zk rfl fun m H st e s hc => ?_)⟩
          have hc : decide (lstAt st _ = some ys) = true := hc
          rw [decide_eq_true_eq] at hc
          obtain ⟨us, h2, r2⟩ := s.list hc (e.pre _ _ q2)
          exact ⟨_, us, ⟨e.tup _ _ q, SqL.of h2⟩, rs.mono e, r2⟩
    · exact hP2.elim
  · exact hP2.elim
end
end HM

/-! HM, part D: dicts. -/
namespace HM
open PySem PySem.Spec PyProof.Rows L2

/-! ### keys -/
mutual
inductive NV (K : PySem.W.Frag) (H : Hp) : NestedKey → V → Prop
  | non : NV K H .none .non
  | int (i : Int) : NV K H (.num i) (.int i)
  | str (x : PySem.Str) : NV K H (.text x) (.str x)
  | tup {a : Addr} {vs : List V} {ks : List NestedKey} : SqT K H a vs → NVs K H ks vs → NV K H (.tup ks) (.ref a)
inductive NVs (K : PySem.W.Frag) (H : Hp) : List NestedKey → List V → Prop
  | nil : NVs K H [] []
  | cons {k : NestedKey} {v : V} {ks : List NestedKey} {vs : List V} : NV K H k v → NVs K H ks vs → NVs K H (k :: ks) (v :: vs)
end
section
variable {X : Cx} {pins : List (Addr × Obj)} {σ : L2.St} {H : Hp} {s : Shared}
mutual
theorem nv_is (I : Inv X pins σ H s) : ∀ {k : NestedKey} {v : V} {u : Value}, NV X.K H k v → RelV v u → NestedIs s.heap k u
  | _, _, _, .non, r => by
    cases (show _ = Value.none from r)
    exact .none
  | _, _, _, .int i, r => by
    obtain ⟨t, rfl⟩ := r
    exact .int i t
  | _, _, _, .str x, r => by
    obtain ⟨t, rfl⟩ := r
    exact .text x t
  | _, _, _, .tup q n, r => by
    cases (show _ = Value.ref _ from r)
    obtain ⟨its, rs, ⟨o, e, c, k, d⟩, _⟩ := I.tuple q
    exact .tup e c d (by simpa using nvs_is I n rs)
theorem nvs_is (I : Inv X pins σ H s) : ∀ {ks : List NestedKey} {vs : List V} {us : List Value}, NVs X.K H ks vs → Vals vs us → NestedAll s.heap ks us
  | _, _, _, .nil, r => by
    cases r
    exact .nil
  | _, _, _, .cons h t, r => by
    cases r with
    | cons r1 r2 => exact .cons (nv_is I h r1) (nvs_is I t r2)
end
end
section
variable {K : PySem.W.Frag} {m : List Addr} {H : Hp}
theorem nvs_of {n : Nat} (ih : ∀ (d : D) (v : V), d.plain n = true → RD K m H d v → NV K H d.nk v ∧ d.nk.depth ≤ n) : ∀ (ds : List D) (vs : List V), ds.all (D.plain n) = true → RDs K m H ds vs → NVs K H (D.nks ds) vs ∧ NestedKey.depthAll (D.nks ds) ≤ n
  | [], _, _, r => by
    cases r
    exact ⟨.nil, Nat.zero_le _⟩
  | d :: ds, _, h, r => by
    cases r with
    | cons r1 r2 =>
      rw [List.all_cons, Bool.and_eq_true] at h
      obtain ⟨a1, a2⟩ := ih d _ h.1 r1
      obtain ⟨b1, b2⟩ := nvs_of ih ds _ h.2 r2
      refine ⟨.cons a1 b1, ?_⟩
      simp only [D.nks, NestedKey.depthAll]
      omega
theorem nv_of : ∀ (n : Nat) (d : D) (v : V), d.plain n = true → RD K m H d v → NV K H d.nk v ∧ d.nk.depth ≤ n := by
  intro n
  induction n with
  | zero =>
    intro d v h r
    cases r <;> simp [D.plain] at h
    · exact ⟨.non, Nat.zero_le _⟩
    · exact ⟨.int _, Nat.zero_le _⟩
    · exact ⟨.str _, Nat.zero_le _⟩
  | succ n ih =>
    intro d v h r
    cases r with
    | non => exact ⟨.non, Nat.zero_le _⟩
    | int i => exact ⟨.int _, Nat.zero_le _⟩
    | str x => exact ⟨.str _, Nat.zero_le _⟩
    | tup s rs =>
      rename_i a vs ds
      obtain ⟨b1, b2⟩ := nvs_of ih ds vs h rs
      refine ⟨.tup s b1, ?_⟩
      simp only [D.nk, NestedKey.depth]
      omega
    | _ => simp [D.plain] at h
end
theorem nks_inj {n : Nat} (ih : ∀ x y : D, x.plain n = true → y.plain n = true → x.nk = y.nk → x = y) : ∀ xs ys : List D, xs.all (D.plain n) = true → ys.all (D.plain n) = true → D.nks xs = D.nks ys → xs = ys
  | [], [], _, _, _ => rfl
  | [], _ :: _, _, _, h => by simp [D.nks] at h
  | _ :: _, [], _, _, h => by simp [D.nks] at h
  | x :: xs, y :: ys, h1, h2, h => by
    rw [List.all_cons, Bool.and_eq_true] at h1 h2
    simp only [D.nks, List.cons.injEq] at h
    rw [ih x y h1.1 h2.1 h.1, nks_inj ih xs ys h1.2 h2.2 h.2]
theorem nk_inj : ∀ (n : Nat) (x y : D), x.plain n = true → y.plain n = true → x.nk = y.nk → x = y := by
  intro n
  induction n with
  | zero => intro x y h1 h2 h; cases x <;> simp [D.plain] at h1 <;> cases y <;> simp [D.plain] at h2 <;> simp [D.nk] at h <;> first | rfl | rw [h]
  | succ n ih =>
    intro x y h1 h2 h
    cases x <;> simp only [D.plain, Bool.false_eq_true] at h1 <;> cases y <;> simp only [D.plain, Bool.false_eq_true] at h2 <;> simp [D.nk] at h <;> first
      | rfl
      | rw [h]
      | rw [nks_inj ih _ _ h1 h2 h]
/-! ### a dict's cell -/
def dctAt (st : Store) (n : Nat) : Option (List (D × D)) := match st[n]? with
  | some (.dct kvs) => some kvs
  | _ => none
theorem dct_lst {st : Store} {n : Nat} {xs : List D} (h : lstAt st n = some xs) : dctAt st n = none := by
  unfold lstAt at h
  unfold dctAt
  split at h
  · rename_i e
    rw [e]
  · cases h
theorem lst_dct {st : Store} {n : Nat} {kvs : List (D × D)} (h : dctAt st n = some kvs) : lstAt st n = none := by
  unfold dctAt at h
  unfold lstAt
  split at h
  · rename_i e
    rw [e]
  · cases h
theorem SS.dict {K : KW} {m : List Addr} {st : Store} {H : Hp} {n : Nat} {kvs : List (D × D)} {a : Addr} (s : SS K m st H) (h : dctAt st n = some kvs) (e : m[n]? = some a) : RC K m H a (.dct kvs) := by
  unfold dctAt at h
  split at h
  · rename_i q
    cases h
    exact s.cel n _ a q e
  · cases h
def D.flatK (d : D) : Bool := match d with
  | .int _ => true
  | .str _ => true
  | _ => false
def keyFit (kvs : List (D × D)) (k : D) : Bool := (k.flatK && kvs.all fun p => p.1.flatK) || (k.tupQ && kvs.all fun p => p.1.tupQ)
def dGet (kvs : List (D × D)) (k : D) : Option D := (kvs.find? fun p => decide (p.1 = k)).map (·.2)
def dPut (kvs : List (D × D)) (k v : D) : List (D × D) := if (dGet kvs k).isSome then kvs.map (fun p => if p.1 = k then (p.1, v) else p) else kvs ++ [(k, v)]
/-- what the dict at a holds at y -/
def DG (K : KW) (H : Hp) (a : Addr) (y : V) (o : Option V) : Prop :=
  (∃ us k, H a = some (.dK us) ∧ y = kV k ∧ o = valV us k) ∨
  (∃ k b, H a = some (.dK []) ∧ y = .ref b ∧ NV K H k (.ref b) ∧ k.depth ≤ 8 ∧ o = none) ∨
  (∃ xs k b, H a = some (.ext (DObj K.w a xs)) ∧ y = .ref b ∧ NV K H k (.ref b) ∧ k.depth ≤ 8 ∧ (∀ x ∈ xs, NV K H x.1 (.ref x.2.1) ∧ x.1.depth ≤ 8) ∧ o = (xs.find? fun x => decide (x.1 = k)).map (·.2.2))
theorem keyD_inj {a b : Key} (h : keyD a = keyD b) : a = b := by
  cases a <;> cases b <;> simp [keyD] at h
  · rw [h]
  · rename_i x y
    have : x = y := by
      cases x; cases y
      simp only [PySem.Str.mk.injEq]
      exact h
    rw [this]
theorem flatK_of {K : PySem.W.Frag} {m : List Addr} {H : Hp} {k : D} {v : V} (h : k.flatK = true) (r : RD K m H k v) : ∃ q : Key, k = keyD q ∧ v = kV q := by
  cases r with
  | int i => exact ⟨.inl i, rfl, rfl⟩
  | str x => exact ⟨.inr ⟨x.toArray⟩, by simp [keyD], rfl⟩
  | _ => cases h
theorem tupQ_of {K : PySem.W.Frag} {m : List Addr} {H : Hp} {k : D} {v : V} (h : k.tupQ = true) (r : RD K m H k v) : ∃ b, v = .ref b ∧ NV K H k.nk (.ref b) ∧ k.nk.depth ≤ 8 := by
  cases r with
  | tup s rs =>
    obtain ⟨z1, z2⟩ := nv_of 8 _ _ h (.tup s rs)
    exact ⟨_, rfl, z1, z2⟩
  | _ => cases h
/-- a found value and its value -/
def OptR (K : PySem.W.Frag) (m : List Addr) (H : Hp) (o : Option D) (u : Option V) : Prop := match o, u with
  | none, none => True
  | some d, some v => RD K m H d v
  | _, _ => False
section
variable {K : PySem.W.Frag} {m : List Addr} {H : Hp}
theorem get1 {kvs : List (D × D)} {us : List (Key × V)} (r : DRel1 K m H kvs us) (k : Key) : OptR K m H (dGet kvs (keyD k)) (valV us k) := by
  unfold dGet valV
  induction r with
  | nil => exact True.intro
  | @cons p q ps qs h t ih =>
    obtain ⟨h1, h2⟩ := h
    by_cases e : q.1 = k
    · rw [List.find?_cons_of_pos (by simp [h1, e]), List.find?_cons_of_pos (by simp [e])]
      exact h2
    · rw [List.find?_cons_of_neg (by simp only [h1, decide_eq_true_eq]; exact fun z => e (keyD_inj z)), List.find?_cons_of_neg (by simpa using e)]
      exact ih
theorem tupQ_plain {d : D} (h : d.tupQ = true) : d.plain 8 = true := by
  cases d <;> first | exact h | cases h
theorem get2 {kvs : List (D × D)} {xs : List (NestedKey × Addr × V)} (r : DRel2 K m H kvs xs) {k : D} (hk : k.tupQ = true) : OptR K m H (dGet kvs k) ((xs.find? fun x => decide (x.1 = k.nk)).map (·.2.2)) := by
  unfold dGet
  induction r with
  | nil => exact True.intro
  | @cons p q ps qs h t ih =>
    obtain ⟨h1, h2, h3, h4⟩ := h
    by_cases e : p.1 = k
    · rw [List.find?_cons_of_pos (by simp [e]), List.find?_cons_of_pos (by simp [h2, e])]
      exact h4
    · rw [List.find?_cons_of_neg (by simpa using e), List.find?_cons_of_neg (by simp only [h2, decide_eq_true_eq]; exact fun z => e (nk_inj 8 _ _ (tupQ_plain h1) (tupQ_plain hk) z))]
      exact ih
theorem keys2 {kvs : List (D × D)} {xs : List (NestedKey × Addr × V)} (r : DRel2 K m H kvs xs) : ∀ x ∈ xs, NV K H x.1 (.ref x.2.1) ∧ x.1.depth ≤ 8 := by
  induction r with
  | nil => exact fun _ h => nomatch h
  | @cons p q ps qs h t ih =>
    intro x hx
    obtain ⟨h1, h2, h3, h4⟩ := h
    rcases List.mem_cons.mp hx with rfl | hx
    · obtain ⟨b, e, z1, z2⟩ := tupQ_of h1 h3
      cases e
      rw [h2]
      exact ⟨z1, z2⟩
    · exact ih x hx
theorem not_both {d : D} (h1 : d.flatK = true) (h2 : d.tupQ = true) : False := by cases d <;> simp [D.flatK, D.tupQ] at h1 h2
end
theorem dg_of {K : KW} {m : List Addr} {H : Hp} {a : Addr} {kvs : List (D × D)} {k : D} {v : V} (c : RC K m H a (.dct kvs)) (r : RD K m H k v) (f : keyFit kvs k = true) : ∃ o, DG K H a v o ∧ OptR K m H (dGet kvs k) o := by
  unfold keyFit at f
  rw [Bool.or_eq_true, Bool.and_eq_true, Bool.and_eq_true] at f
  rcases c with ⟨us, e, q⟩ | ⟨xs, e, ne, q⟩
  · rcases f with ⟨f1, _⟩ | ⟨f1, f2⟩
    · obtain ⟨y, rfl, rfl⟩ := flatK_of f1 r
      exact ⟨_, .inl ⟨us, y, e, rfl, rfl⟩, get1 q y⟩
    · cases q with
      | nil =>
        obtain ⟨b, rfl, z1, z2⟩ := tupQ_of f1 r
        exact ⟨none, .inr (.inl ⟨_, b, e, rfl, z1, z2, rfl⟩), True.intro⟩
      | @cons p u ps us h t =>
        rw [List.all_cons, Bool.and_eq_true] at f2
        obtain ⟨h1, _⟩ := h
        rw [h1] at f2
        cases hu : u.1 <;> rw [hu] at f2 <;> exact absurd f2.1 (by simp [keyD, D.tupQ])
  · rcases f with ⟨f1, f2⟩ | ⟨f1, _⟩
    · cases q with
      | nil => exact absurd rfl ne
      | @cons p u ps us h t =>
        rw [List.all_cons, Bool.and_eq_true] at f2
        exact (not_both f2.1 h.1).elim
    · obtain ⟨b, rfl, z1, z2⟩ := tupQ_of f1 r
      exact ⟨_, .inr (.inr ⟨xs, _, b, e, rfl, z1, z2, keys2 q, rfl⟩), get2 q f1⟩

/-! ### the operations -/
theorem paired_find {k : NestedKey} : ∀ {xs : List (NestedKey × Addr × V)} {zs : List (NestedKey × Addr × Value)}, Paired (fun p q => p.1 = q.1 ∧ p.2.1 = q.2.1 ∧ RelV p.2.2 q.2.2) xs zs → RelO ((xs.find? fun x => decide (x.1 = k)).map (·.2.2)) ((atKey zs k).map (·.2))
  | _, _, .nil => True.intro
  | _, _, .cons (a := p) (b := q) h t => by
    have ih := paired_find (k := k) t
    unfold atKey at ih ⊢
    by_cases e : p.1 = k
    · rw [List.find?_cons_of_pos (by simp [e]), List.find?_cons_of_pos (by simp [← h.1, e])]
      exact h.2.2
    · rw [List.find?_cons_of_neg (by simpa using e), List.find?_cons_of_neg (by simpa [← h.1] using e)]
      exact ih
theorem paired_is {P : Program} {w : World} {h : Heap} : ∀ {xs : List (NestedKey × Addr × V)} {zs : List (NestedKey × Addr × Value)}, Paired (fun p q => p.1 = q.1 ∧ p.2.1 = q.2.1 ∧ RelV p.2.2 q.2.2) xs zs → (∀ x ∈ xs, (nestedKind P w).is h x.1 x.2.1) → ∀ z ∈ zs, (nestedKind P w).is h z.1 z.2.1
  | _, _, .nil, _ => fun _ h => nomatch h
  | _, _, .cons (a := p) (b := q) r t, hs => fun z hz => by
    rcases List.mem_cons.mp hz with rfl | hz
    · rw [← r.1, ← r.2.1]
      exact hs p (List.mem_cons_self ..)
    · exact paired_is t (fun x hx => hs x (List.mem_cons_of_mem _ hx)) z hz
section
variable {X : Cx} {pins : List (Addr × Obj)} {σ : L2.St} {H : Hp} {s : Shared} {a : Addr} {y v : V} {u r : Value} {o : Option V} {A : Around} {E : Value → Shared → Prop}
/-- a dict of tuple keys, as the library tells it -/
theorem dobj_at {xs : List (NestedKey × Addr × V)} (I : Inv X pins σ H s) (e : H a = some (.ext (DObj X.kw.w a xs))) (hx : ∀ x ∈ xs, NV X.K H x.1 (.ref x.2.1) ∧ x.1.depth ≤ 8) :
    (a == sysModules) = false ∧ xs.length ≤ sizeLine ∧ ∃ zs, Paired (fun p q => p.1 = q.1 ∧ p.2.1 = q.2.1 ∧ RelV p.2.2 q.2.2) xs zs ∧ s.heap.DictOfH (nestedKind X.prog X.w) a zs := by
  obtain ⟨⟨hd, hz, zs, rel, ob, es, ep, h1, h2, h3, h4, h5⟩, _, _⟩ := (show ObjOk X.prog X.w H s.heap a (.ext (DObj X.w a xs)) from I.hok a _ e)
  exact ⟨hd, hz, zs, rel, ob, es, ep, h1, h2, h3, h4, paired_is rel fun x hm => ⟨nv_is I (hx x hm).1 rfl, (hx x hm).2⟩, h5⟩
theorem dk_empty_at (I : Inv X pins σ H s) (e : H a = some (.dK [])) : (a == sysModules) = false ∧ s.heap.DictOfH (nestedKind X.prog X.w) a [] := by
  obtain ⟨_, hd, vs, rel, dd⟩ := dk_of I.hok e
  cases rel
  obtain ⟨ob, es, ep, h1, h2, h3, _, h5, _⟩ := dd
  have z : es.toList = [] := by
    generalize es.toList = l at h5
    cases h5
    rfl
  exact ⟨hd, ob, es, ep, h1, h2, h3, by rw [z]; rfl, (fun _ h => nomatch h), by simp⟩
theorem nroom (hu : A.units + 10 < cLine) : (nestedKind X.prog X.w).room A.in1 := by
  show A.units + 1 + 8 < cLine
  omega
/-- d[y], there -/
theorem dg_getItem {Q : Value → Shared → Prop} (hu : A.units + 10 < cLine) (I : Inv X pins σ H s) (g : DG X.kw H a y (some v)) (ry : RelV y u) (h : ∀ w' s', Inv X pins σ H s' → RelV v w' → Q w' s') :
    wpAny (model X.prog X.w) A (getItem (.ref a) u) Q E s := by
  rcases g with ⟨us, k, e, ey, l⟩ | ⟨k, b, e, ey, n, dp, l⟩ | ⟨xs, k, b, e, ey, n, dp, hx, l⟩
  · exact d_getItem (by omega) I (.inl ⟨us, k, .inl e, ey, l⟩) ry h
  · cases l
  · subst ey
    cases (show u = Value.ref b from ry)
    obtain ⟨hd, hz, zs, rel, dd⟩ := dobj_at I e hx
    obtain ⟨w', hw, rw'⟩ := RelO.some_of (v := v) (o := (atKey zs k).map (·.2)) (by rw [l]; exact paired_find rel)
    obtain ⟨p, hp, hp2⟩ := Option.map_eq_some_iff.mp hw
    refine wpAny_getItem_heap (nroom hu) ⟨nv_is I n rfl, dp⟩ dd hp ?_
    rw [hp2]
    exact h w' _ (I.tok _) rw'
theorem dg_in {Q : Value → Shared → Prop} (hu : A.units + 10 < cLine) (I : Inv X pins σ H s) (g : DG X.kw H a y o) (ry : RelV y u) (h : ∀ s', Inv X pins σ H s' → Q (.bool o.isSome) s') :
    wpAny (model X.prog X.w) A (compareOp .In u (.ref a)) Q E s := by
  rcases g with ⟨us, k, e, ey, l⟩ | ⟨k, b, e, ey, n, dp, l⟩ | ⟨xs, k, b, e, ey, n, dp, hx, l⟩
  · exact d_in (by omega) I (.inl ⟨us, k, .inl e, ey, l⟩) ry h
  · subst ey l
    cases (show u = Value.ref b from ry)
    obtain ⟨hd, dd⟩ := dk_empty_at I e
    exact wpAny_in_heap (nroom hu) ⟨nv_is I n rfl, dp⟩ hd dd (h _ (I.tok _))
  · subst ey
    cases (show u = Value.ref b from ry)
    obtain ⟨hd, hz, zs, rel, dd⟩ := dobj_at I e hx
    refine wpAny_in_heap (nroom hu) ⟨nv_is I n rfl, dp⟩ hd dd ?_
    have q := (paired_find (k := k) rel).isSome_eq
    rw [Option.isSome_map (x := atKey zs k)] at q
    rw [← q, ← l]
    exact h _ (I.tok _)
theorem dg_notIn {Q : Value → Shared → Prop} (hu : A.units + 10 < cLine) (I : Inv X pins σ H s) (g : DG X.kw H a y o) (ry : RelV y u) (h : ∀ s', Inv X pins σ H s' → Q (.bool (!o.isSome)) s') :
    wpAny (model X.prog X.w) A (compareOp .NotIn u (.ref a)) Q E s := by
  rcases g with ⟨us, k, e, ey, l⟩ | ⟨k, b, e, ey, n, dp, l⟩ | ⟨xs, k, b, e, ey, n, dp, hx, l⟩
  · exact d_notIn (by omega) I (.inl ⟨us, k, .inl e, ey, l⟩) ry h
  · subst ey l
    cases (show u = Value.ref b from ry)
    obtain ⟨hd, dd⟩ := dk_empty_at I e
    exact wpAny_notIn_heap (nroom hu) ⟨nv_is I n rfl, dp⟩ hd dd (h _ (I.tok _))
  · subst ey
    cases (show u = Value.ref b from ry)
    obtain ⟨hd, hz, zs, rel, dd⟩ := dobj_at I e hx
    refine wpAny_notIn_heap (nroom hu) ⟨nv_is I n rfl, dp⟩ hd dd ?_
    have q := (paired_find (k := k) rel).isSome_eq
    rw [Option.isSome_map (x := atKey zs k)] at q
    rw [← q, ← l]
    exact h _ (I.tok _)
/-- d.get(y), d.get(y, x) -/
theorem dg_get1 {Q : Value → Shared → Prop} (hu : A.units + 10 < cLine) (I : Inv X pins σ H s) (g : DG X.kw H a y o) (ry : RelV y u) (h : ∀ w' s', Inv X pins σ H s' → RelV (o.getD .non) w' → Q w' s') :
    wpAny (model X.prog X.w) A (call (.builtin "dict.get") [.ref a, u]) Q E s := by
  rcases g with ⟨us, k, e, ey, l⟩ | ⟨k, b, e, ey, n, dp, l⟩ | ⟨xs, k, b, e, ey, n, dp, hx, l⟩
  · exact d_get1 (by omega) I (.inl ⟨us, k, .inl e, ey, l⟩) ry h
  · subst ey l
    cases (show u = Value.ref b from ry)
    obtain ⟨hd, dd⟩ := dk_empty_at I e
    exact call_meetsIn PySem.F.slot_dict_get dd.typeIs PySem.F.entry_dict_get (PySem.F.args_dict_get_2 _ _) (meetsH_dict_get (nestedKind X.prog X.w) a b hd) ⟨nroom hu, k, [], ⟨nv_is I n rfl, dp⟩, dd, h _ _ (I.tok _) rfl⟩
  · subst ey
    cases (show u = Value.ref b from ry)
    obtain ⟨hd, hz, zs, rel, dd⟩ := dobj_at I e hx
    refine call_meetsIn PySem.F.slot_dict_get dd.typeIs PySem.F.entry_dict_get (PySem.F.args_dict_get_2 _ _) (meetsH_dict_get (nestedKind X.prog X.w) a b hd) ⟨nroom hu, k, zs, ⟨nv_is I n rfl, dp⟩, dd, h _ _ (I.tok _) ?_⟩
    rw [l]
    exact (paired_find (k := k) rel).getD rfl
theorem dg_get2 {d : V} {Q : Value → Shared → Prop} (hu : A.units + 10 < cLine) (I : Inv X pins σ H s) (g : DG X.kw H a y o) (ry : RelV y u) (rd : RelV d r) (h : ∀ w' s', Inv X pins σ H s' → RelV (o.getD d) w' → Q w' s') :
    wpAny (model X.prog X.w) A (call (.builtin "dict.get") [.ref a, u, r]) Q E s := by
  rcases g with ⟨us, k, e, ey, l⟩ | ⟨k, b, e, ey, n, dp, l⟩ | ⟨xs, k, b, e, ey, n, dp, hx, l⟩
  · exact d_get2 (by omega) I (.inl ⟨us, k, .inl e, ey, l⟩) ry rd h
  · subst ey l
    cases (show u = Value.ref b from ry)
    obtain ⟨hd, dd⟩ := dk_empty_at I e
    exact call_meetsIn PySem.F.slot_dict_get dd.typeIs PySem.F.entry_dict_get (PySem.F.args_dict_get_3 _ _ _) (meetsH_dict_get_default (nestedKind X.prog X.w) a b hd r) ⟨nroom hu, k, [], ⟨nv_is I n rfl, dp⟩, dd, h _ _ (I.tok _) rd⟩
  · subst ey
    cases (show u = Value.ref b from ry)
    obtain ⟨hd, hz, zs, rel, dd⟩ := dobj_at I e hx
    refine call_meetsIn PySem.F.slot_dict_get dd.typeIs PySem.F.entry_dict_get (PySem.F.args_dict_get_3 _ _ _) (meetsH_dict_get_default (nestedKind X.prog X.w) a b hd r) ⟨nroom hu, k, zs, ⟨nv_is I n rfl, dp⟩, dd, h _ _ (I.tok _) ?_⟩
    rw [l]
    exact (paired_find (k := k) rel).getD rd
end
/-! ### d[y] = v -/
def putX (xs : List (NestedKey × Addr × V)) (k : NestedKey) (b : Addr) (v : V) : List (NestedKey × Addr × V) := if (xs.any fun x => decide (x.1 = k)) then xs.map (fun x => if x.1 = k then (x.1, x.2.1, v) else x) else xs ++ [(k, b, v)]
theorem paired_any {k : NestedKey} : ∀ {xs : List (NestedKey × Addr × V)} {zs : List (NestedKey × Addr × Value)}, Paired (fun p q => p.1 = q.1 ∧ p.2.1 = q.2.1 ∧ RelV p.2.2 q.2.2) xs zs → (xs.any fun x => decide (x.1 = k)) = (atKey zs k).isSome
  | _, _, .nil => rfl
  | _, _, .cons (a := p) (b := q) h t => by
    have ih := paired_any (k := k) t
    unfold atKey at ih ⊢
    rw [List.any_cons, ih]
    by_cases e : p.1 = k
    · rw [List.find?_cons_of_pos (by simp [← h.1, e])]
      simp [e]
    · rw [List.find?_cons_of_neg (by simpa [← h.1] using e)]
      simp [e]
theorem paired_map {k : NestedKey} {v : V} {r : Value} (rv : RelV v r) : ∀ {xs : List (NestedKey × Addr × V)} {zs : List (NestedKey × Addr × Value)}, Paired (fun p q => p.1 = q.1 ∧ p.2.1 = q.2.1 ∧ RelV p.2.2 q.2.2) xs zs → Paired (fun p q => p.1 = q.1 ∧ p.2.1 = q.2.1 ∧ RelV p.2.2 q.2.2) (xs.map (fun x => if x.1 = k then (x.1, x.2.1, v) else x)) (zs.map (putAt k r))
  | _, _, .nil => .nil
  | _, _, .cons (a := p) (b := q) h t => by
    refine .cons ?_ (paired_map rv t)
    unfold putAt
    simp only []
    by_cases e : p.1 = k
    · rw [if_pos e, if_pos (by rw [← h.1]; exact e)]
      exact ⟨h.1, h.2.1, rv⟩
    · rw [if_neg e, if_neg (by rw [← h.1]; exact e)]
      exact h
theorem paired_put {k : NestedKey} {b : Addr} {v : V} {r : Value} (rv : RelV v r) {xs : List (NestedKey × Addr × V)} {zs : List (NestedKey × Addr × Value)} (rel : Paired (fun p q => p.1 = q.1 ∧ p.2.1 = q.2.1 ∧ RelV p.2.2 q.2.2) xs zs) :
    Paired (fun p q => p.1 = q.1 ∧ p.2.1 = q.2.1 ∧ RelV p.2.2 q.2.2) (putX xs k b v) (storedH zs k b r) := by
  unfold putX storedH
  rw [paired_any rel]
  by_cases e : (atKey zs k).isSome = true
  · rw [if_pos e, if_pos e]
    exact paired_map rv rel
  · rw [if_neg e, if_neg e]
    exact Paired.snoc rel ⟨rfl, rfl, rv⟩
theorem putX_len {xs : List (NestedKey × Addr × V)} {k : NestedKey} {b : Addr} {v : V} : (putX xs k b v).length ≤ xs.length + 1 := by
  unfold putX
  split <;> simp
/-- the heap behind a[y] = v -/
def DP (K : KW) (H : Hp) (a : Addr) (y v : V) (H' : Hp) : Prop :=
  (∃ us k, H a = some (.dK us) ∧ y = kV k ∧ us.length < sizeLine ∧ H' = upd H a (.dK (putK us k v))) ∨
  (∃ k b, H a = some (.dK []) ∧ y = .ref b ∧ NV K H k (.ref b) ∧ k.depth ≤ 8 ∧ H' = upd H a (.ext (DObj K.w a [(k, b, v)]))) ∨
  (∃ xs k b, H a = some (.ext (DObj K.w a xs)) ∧ y = .ref b ∧ NV K H k (.ref b) ∧ k.depth ≤ 8 ∧ (∀ x ∈ xs, NV K H x.1 (.ref x.2.1) ∧ x.1.depth ≤ 8) ∧ xs.length < sizeLine ∧ H' = upd H a (.ext (DObj K.w a (putX xs k b v))))
theorem dobj_ok {P : Program} {w : World} {a : Addr} {xs : List (NestedKey × Addr × V)} {H' : Hp} {h' : Heap} {zs : List (NestedKey × Addr × Value)} (hd : (a == sysModules) = false) (hz : xs.length ≤ sizeLine) (rel : Paired (fun p q => p.1 = q.1 ∧ p.2.1 = q.2.1 ∧ RelV p.2.2 q.2.2) xs zs)
    (dd : h'.DictOfH (nestedKind P w) a zs) : ObjOk P w H' h' a (.ext (DObj w a xs)) := by
  obtain ⟨ob, es, ep, h1, h2, h3, h4, _, h5⟩ := dd
  refine ⟨⟨hd, hz, zs, rel, ob, es, ep, h1, h2, h3, h4, h5⟩, ⟨ob, h1⟩, fun g1 g2 ⟨_, _, zs', rel', ob', es', ep', h1', r'⟩ st => ⟨hd, hz, zs', rel', ob', es', ep', st _ h1', r'⟩⟩
section
variable {X : Cx} {pins : List (Addr × Obj)} {σ : L2.St} {H H' : Hp} {s : Shared} {a : Addr} {y v : V} {u r : Value} {A : Around} {E : Value → Shared → Prop}
theorem dg_set {Q : Unit → Shared → Prop} (hu : A.units + 10 < cLine) (I : Inv X pins σ H s) (g : DP X.kw H a y v H') (ry : RelV y u) (rv : RelV v r) (h : ∀ s', Inv X pins σ H' s' → Q () s') :
    wpAny (model X.prog X.w) A (setItem (.ref a) u r) Q E s := by
  rcases g with ⟨us, k, e, ey, l, eH⟩ | ⟨k, b, e, ey, n, dp, eH⟩ | ⟨xs, k, b, e, ey, n, dp, hx, l, eH⟩
  · exact d_setItem (by omega) I (.inl ⟨us, k, e, ey, l, eH⟩) ry rv h
  · subst ey eH
    cases (show u = Value.ref b from ry)
    obtain ⟨hd, dd⟩ := dk_empty_at I e
    refine wpAny_setItem_heap (hsz := Nat.zero_le _) (nroom hu) ⟨nv_is I n rfl, dp⟩ dd fun h' dd' hs => h _ ?_
    have he : ∃ q, h'.get? a = some q := let ⟨q, _, _, hq, _⟩ := dd'; ⟨q, hq⟩
    refine d_write I (by rw [e]; exact True.intro) hs he (dobj_ok hd (by rw [PySem.sizeLine_eq]; show 1 ≤ _; omega) ?_ dd')
    exact .cons ⟨rfl, rfl, rv⟩ .nil
  · subst ey eH
    cases (show u = Value.ref b from ry)
    obtain ⟨hd, hz, zs, rel, dd⟩ := dobj_at I e hx
    refine wpAny_setItem_heap (hsz := by rw [← Paired.length rel]; exact hz) (nroom hu) ⟨nv_is I n rfl, dp⟩ dd fun h' dd' hs => h _ ?_
    have he : ∃ q, h'.get? a = some q := let ⟨q, _, _, hq, _⟩ := dd'; ⟨q, hq⟩
    exact d_write I (by rw [e]; exact True.intro) hs he (dobj_ok hd (by have := putX_len (xs := xs) (k := k) (b := b) (v := v); omega) (paired_put rv rel) dd')
end

/-! ### the store's side -/
theorem dp_of {K : KW} {m : List Addr} {st : Store} {H : Hp} {n : Nat} {kvs : List (D × D)} {k d : D} {y v : V} {a : Addr} (hS : SS K m st H) (hk : dctAt st n = some kvs) (hn : m[n]? = some a) (rk : RD K m H k y) (rv : RD K m H d v) (f : keyFit kvs k = true) (hl : kvs.length < 16777216) :
    ∃ H', DP K H a y v H' ∧ Ext K m H m H' ∧ SS K m (st.set n (.dct (dPut kvs k d))) H' := by
  have c := hS.dict hk hn
  have f' := f
  unfold keyFit at f'
  rw [Bool.or_eq_true, Bool.and_eq_true, Bool.and_eq_true] at f'
  rcases c with ⟨us, e, q⟩ | ⟨xs, e, ne, q⟩
  · have mu : Mut (H a) := by rw [e]; exact True.intro
    rcases f' with ⟨f1, _⟩ | ⟨f1, f2⟩
    · obtain ⟨w, rfl, rfl⟩ := flatK_of f1 rk
      refine ⟨_, .inl ⟨us, w, e, rfl, below_line (by rw [← Paired.length q]; exact hl), rfl⟩, Ext.writeM mu hn, hS.writeM mu hn (.inl ⟨_, upd_same, ?_⟩)⟩
      have kp : ∀ o : HO, Kp K m H m (upd H a o) := fun _ => Kp.writeM mu
      unfold dPut putK
      have ea : (dGet kvs (keyD w)).isSome = (us.any fun kv => decide (kv.1 = w)) := by
        have z := get1 q w
        rw [valV_any]
        cases h1 : dGet kvs (keyD w) <;> cases h2 : valV us w <;> rw [h1, h2] at z <;> first | rfl | exact z.elim
      rw [ea]
      split
      · have go : ∀ {kvs us}, DRel1 K m H kvs us → Paired (fun (p : D × D) (q : Key × V) => p.1 = keyD q.1 ∧ RD K m H p.2 q.2) (kvs.map fun p => if p.1 = keyD w then (p.1, d) else p) (us.map fun kv => if kv.1 = w then (kv.1, v) else kv) := fun {kvs us} r => by
          induction r with
          | nil => exact .nil
          | @cons p u ps us h t ih =>
            refine .cons ?_ ih
            simp only []
            by_cases e : u.1 = w
            · rw [if_pos e, if_pos (by rw [h.1, e])]
              exact ⟨h.1, rv⟩
            · rw [if_neg e, if_neg (by rw [h.1]; exact fun z => e (keyD_inj z))]
              exact h
        exact DRel1.kp (go q) (kp _)
      · exact DRel1.kp (Paired.snoc q ⟨rfl, rv⟩) (kp _)
    · have hnil : kvs = [] ∧ us = [] := by
        cases q with
        | nil => exact ⟨rfl, rfl⟩
        | @cons p u ps us h t =>
          rw [List.all_cons, Bool.and_eq_true] at f2
          obtain ⟨h1, _⟩ := h
          rw [h1] at f2
          cases hu : u.1 <;> rw [hu] at f2 <;> exact absurd f2.1 (by simp [keyD, D.tupQ])
      obtain ⟨rfl, rfl⟩ := hnil
      obtain ⟨b, rfl, z1, z2⟩ := tupQ_of f1 rk
      refine ⟨_, .inr (.inl ⟨k.nk, b, e, rfl, z1, z2, rfl⟩), Ext.writeM mu hn, hS.writeM mu hn (.inr ⟨_, upd_same, by simp, ?_⟩)⟩
      have kp : ∀ o : HO, Kp K m H m (upd H a o) := fun _ => Kp.writeM mu
      have e0 : dPut [] k d = [(k, d)] := rfl
      rw [e0]
      exact .cons ⟨f1, rfl, rk.kp (kp _), rv.kp (kp _)⟩ .nil
  · have mu : Mut (H a) := by rw [e]; exact True.intro
    rcases f' with ⟨f1, f2⟩ | ⟨f1, _⟩
    · cases q with
      | nil => exact absurd rfl ne
      | @cons p u ps us h t =>
        rw [List.all_cons, Bool.and_eq_true] at f2
        exact (not_both f2.1 h.1).elim
    · obtain ⟨b, rfl, z1, z2⟩ := tupQ_of f1 rk
      refine ⟨_, .inr (.inr ⟨xs, k.nk, b, e, rfl, z1, z2, keys2 q, below_line (by rw [← Paired.length q]; exact hl), rfl⟩), Ext.writeM mu hn, hS.writeM mu hn (.inr ⟨_, upd_same, ?_, ?_⟩)⟩
      · unfold putX
        split
        · intro z
          exact ne (List.map_eq_nil_iff.mp z)
        · simp
      · have kp : ∀ o : HO, Kp K m H m (upd H a o) := fun _ => Kp.writeM mu
        unfold dPut putX
        have ea : (dGet kvs k).isSome = (xs.any fun x => decide (x.1 = k.nk)) := by
          have z := get2 q f1
          have z2 : (xs.any fun x => decide (x.1 = k.nk)) = ((xs.find? fun x => decide (x.1 = k.nk)).map (·.2.2)).isSome := by
            rw [Option.isSome_map, Bool.eq_iff_iff, List.find?_isSome]
            simp
          rw [z2]
          cases h1 : dGet kvs k <;> cases h2 : (xs.find? fun x => decide (x.1 = k.nk)).map (·.2.2) <;> rw [h1, h2] at z <;> first | rfl | exact z.elim
        rw [ea]
        split
        · have go : ∀ {kvs xs}, DRel2 K m H kvs xs → DRel2 K m H (kvs.map fun p => if p.1 = k then (p.1, d) else p) (xs.map fun x => if x.1 = k.nk then (x.1, x.2.1, v) else x) := fun {kvs xs} r => by
            induction r with
            | nil => exact .nil
            | @cons p u ps us h t ih =>
              refine .cons ?_ ih
              simp only []
              by_cases e : p.1 = k
              · rw [if_pos e, if_pos (by rw [h.2.1, e])]
                exact ⟨h.1, h.2.1, h.2.2.1, rv⟩
              · rw [if_neg e, if_neg (by rw [h.2.1]; exact fun z => e (nk_inj 8 _ _ (tupQ_plain h.1) (tupQ_plain f1) z))]
                exact h
          exact DRel2.kp (go q) (kp _)
        · exact DRel2.kp (Paired.snoc q ⟨f1, rfl, rk, rv⟩) (kp _)
/-! ### {}, d[k], k in d, d[k] = v, len(d) -/
section
variable {X : Cx} {W : WX} {e o a b c : Expr} {es : List Expr} {pos p : Pos} {f fo fa fb fe fi : EM D} {fs : EM (List D)}
def eDct : EM D := fun _ st => .ok (.ref st.length) (st ++ [.dct []])
theorem ex_dct : Ex X W (.Dict [] [] pos) eDct := ⟨fun m τ st σ H Q hL hS hP pins s I => pe_dnewK.run pins s σ H Q I fun p hp => by
  refine hP (m ++ [p]) _ _ (Ext.app hp) (hS.app hp (.inl ⟨[], upd_same, .nil⟩)) (.ref ?_)
  rw [← hS.len]
  simp⟩
def rDG (K : KW) : R2 := fun x y H Q => ∃ a v, x = .ref a ∧ DG K H a y (some v) ∧ Q v H
theorem dg_typeIs {pins : List (Addr × Obj)} {σ : L2.St} {H : Hp} {s : Shared} {a : Addr} {y : V} {o : Option V} (I : Inv X pins σ H s) (g : DG X.kw H a y o) : s.TypeIs (.ref a) "dict" := by
  rcases g with ⟨us, k, e, ey, l⟩ | ⟨k, b, e, ey, n, dp, l⟩ | ⟨xs, k, b, e, ey, n, dp, hx, l⟩
  · obtain ⟨_, _, vs, _, dd⟩ := dk_of I.hok e
    exact dd.typeIs
  · exact (dk_empty_at I e).2.typeIs
  · obtain ⟨_, _, zs, _, dd⟩ := dobj_at I e hx
    exact dd.typeIs
theorem ix_dg (hu : X.A.units + 10 < cLine) : IxR X (rDG X.kw) := by
  intro value slice pins s σ H x y v u Q I rx ry h hs
  obtain ⟨a, z, rfl, g, q⟩ := h
  cases (show v = Value.ref a from rx)
  exact tail_any (dg_typeIs I g) PySem.F.slot_dict_getitem.lookup (dg_getItem hu I g ry fun w' s' I' rw' => ⟨z, H, I', rw', q⟩) hs
theorem get_dg (hu : X.A.units + 10 < cLine) : PGet X (rDG X.kw) := by
  intro pins s σ H x y v u Q I rx ry h
  obtain ⟨a, z, rfl, g, q⟩ := h
  cases (show v = Value.ref a from rx)
  exact dg_getItem hu I g ry fun w' s' I' rw' => ⟨z, H, I', rw', q⟩
def oIx : O2 := fun x y st => match x with
  | .ref n => match dctAt st n with
    | some kvs => if keyFit kvs y then match dGet kvs y with
        | some d => .ok d st
        | none => .bad
      else .bad
    | none => oIxS x y st
  | _ => oIxS x y st
theorem dg_some {m : List Addr} {st : Store} {H : Hp} {n : Nat} {kvs : List (D × D)} {dy d : D} {vx vy : V} {E : XK} {Q : VK} (hS : SS X.kw m st H) (hk : dctAt st n = some kvs) (rx : RD X.K m H (.ref n) vx) (ry : RD X.K m H dy vy) (f : keyFit kvs dy = true) (hd : dGet kvs dy = some d)
    (hP : Pe X.kw E (RD X.K) m H (.ok d st) Q) : rDG X.kw vx vy H Q := by
  cases rx with
  | ref q =>
    obtain ⟨o, g, r⟩ := dg_of (hS.dict hk q) ry f
    rw [hd] at r
    cases o with
    | none => exact r.elim
    | some v => exact ⟨_, v, rfl, g, hP.now hS r⟩
theorem m_ix (hu : X.A.units + 65 < cLine) : IxM X W oIx := by
  obtain ⟨r, hr, h⟩ := m_ixS (X := X) (W := W)
  refine ⟨_, hr.or (ix_dg (by omega)), fun m st H dx dy x y E Q hS r1 r2 hP => ?_⟩
  unfold oIx at hP
  split at hP
  · split at hP
    · rename_i kvs hk
      split at hP
      · rename_i f
        split at hP
        · rename_i d hd
          exact .inr (dg_some hS hk r1 r2 f hd hP)
        · exact hP.elim
      · exact hP.elim
    · exact .inl (h m st H _ dy x y E Q hS r1 r2 hP)
  · exact .inl (h m st H dx dy x y E Q hS r1 r2 hP)
/-! in -/
def dIn (x y : D) (st : Store) : Option Bool := match y with
  | .ref n => match dctAt st n with
    | some kvs => if keyFit kvs x then some (dGet kvs x).isSome else none
    | none => dInS x y st
  | _ => dInS x y st
def oIn : O2 := fun x y st => match dIn x y st with
  | some b => .ok (.bl b) st
  | none => .bad
def oNotIn : O2 := fun x y st => match dIn x y st with
  | some b => .ok (.bl !b) st
  | none => .bad
theorem optR_some {K : PySem.W.Frag} {m : List Addr} {H : Hp} {o : Option D} {u : Option V} (r : OptR K m H o u) : o.isSome = u.isSome := by
  cases o <;> cases u <;> first | rfl | exact r.elim
theorem m_in (hu : X.A.units + 65 < cLine) : OpM X W (compareOp .In) oIn := fun m st σ H dx dy x y Q hS r1 r2 hP pins s v u I rx ry => by
  have old := fun hP => m_inS (W := W) hu m st σ H dx dy x y Q hS r1 r2 hP pins s v u I rx ry
  unfold oIn dIn at hP
  unfold oInS at old
  cases dy with
  | ref n =>
    simp only at hP
    cases hk : dctAt st n with
    | some kvs =>
      rw [hk] at hP
      simp only at hP
      by_cases f : keyFit kvs dx = true
      · rw [if_pos f] at hP
        cases r2 with
        | ref q =>
          obtain ⟨o, g, r⟩ := dg_of (hS.dict hk q) r1 f
          cases (show u = Value.ref _ from ry)
          refine dg_in (by omega) I g rx fun s' I' => ⟨.bl o.isSome, H, I', rfl, ?_⟩
          rw [← optR_some r]
          exact hP.now hS (.bl _)
      · rw [if_neg f] at hP
        exact hP.elim
    | none =>
      rw [hk] at hP
      exact old hP
  | _ => exact old hP
theorem m_notin (hu : X.A.units + 65 < cLine) : OpM X W (compareOp .NotIn) oNotIn := fun m st σ H dx dy x y Q hS r1 r2 hP pins s v u I rx ry => by
  have old := fun hP => m_notinS (W := W) hu m st σ H dx dy x y Q hS r1 r2 hP pins s v u I rx ry
  unfold oNotIn dIn at hP
  unfold oNotInS at old
  cases dy with
  | ref n =>
    simp only at hP
    cases hk : dctAt st n with
    | some kvs =>
      rw [hk] at hP
      simp only at hP
      by_cases f : keyFit kvs dx = true
      · rw [if_pos f] at hP
        cases r2 with
        | ref q =>
          obtain ⟨o, g, r⟩ := dg_of (hS.dict hk q) r1 f
          cases (show u = Value.ref _ from ry)
          refine dg_notIn (by omega) I g rx fun s' I' => ⟨.bl (!o.isSome), H, I', rfl, ?_⟩
          rw [← optR_some r]
          exact hP.now hS (.bl _)
      · rw [if_neg f] at hP
        exact hP.elim
    | none =>
      rw [hk] at hP
      exact old hP
  | _ => exact old hP
/-! o[i] = v -/
def rSet (K : KW) : V → V → V → Hp → (Hp → Prop) → Prop := fun o i v H Q => rSetL o i v H Q ∨ ∃ a H', o = .ref a ∧ DP K H a i v H' ∧ Q H'
theorem set_any (hu : X.A.units + 10 < cLine) : PSet X (rSet X.kw) := by
  intro pins s σ H o i v ov iv u Q I ro ri rv h
  rcases h with h | ⟨a, H', rfl, g, q⟩
  · exact set_list pins s σ H o i v ov iv u Q I ro ri rv h
  · cases (show ov = Value.ref a from ro)
    exact dg_set hu I g ri rv fun s' I' => ⟨H', I', q⟩
def oSet : D → D → D → Store → Option Store := fun o i v st => match o with
  | .ref n => match dctAt st n with
    | some kvs => if keyFit kvs i && decide (kvs.length < 16777216) then some (st.set n (.dct (dPut kvs i v))) else none
    | none => oSetS o i v st
  | _ => oSetS o i v st
theorem set_read {K : KW} {m : List Addr} {st st' : Store} {H : Hp} {o i v : D} {vo vi vv : V} (hS : SS K m st H) (ro : RD K m H o vo) (ri : RD K m H i vi) (rv : RD K m H v vv) (h : oSet o i v st = some st') :
    ∃ H', Ext K m H m H' ∧ SS K m st' H' ∧ ∀ Q : Hp → Prop, Q H' → rSet K vo vi vv H Q := by
  have old : oSetS o i v st = some st' → ∃ H', Ext K m H m H' ∧ SS K m st' H' ∧ ∀ Q : Hp → Prop, Q H' → rSet K vo vi vv H Q := fun h => by
    obtain ⟨p, xs, k, j, q1, q2, q3, q4, q5, q6⟩ := set_readS hS ro ri rv h
    exact ⟨_, q5, q6, fun Q q => .inl ⟨p, xs, k, j, q1, q2, q3, q4, q⟩⟩
  unfold oSet at h
  cases o with
  | ref n =>
    simp only at h
    cases hk : dctAt st n with
    | some kvs =>
      rw [hk] at h
      simp only at h
      by_cases f : (keyFit kvs i && decide (kvs.length < 16777216)) = true
      · rw [if_pos f] at h
        cases h
        rw [Bool.and_eq_true, decide_eq_true_eq] at f
        cases ro with
        | ref q =>
          obtain ⟨H', g, e, s⟩ := dp_of hS hk q ri rv f.1 f.2
          exact ⟨H', e, s, fun Q z => .inr ⟨_, H', rfl, g, z⟩⟩
      · rw [if_neg f] at h
        cases h
    | none =>
      rw [hk] at h
      exact old h
  | _ => exact old h
def sSub (fo fi fe : EM D) : SM := fun τ st => bindE (fe τ st) τ fun v s1 => bindE (fo τ s1) τ fun o s2 => bindE (fi τ s2) τ fun i s3 => match oSet o i v s3 with
  | some s4 => .nx τ s4
  | none => .bad
theorem sx_sub {o i : Expr} {p' : Pos} {fo fi : EM D} (hu : X.A.units + 65 < cLine) (he : Ex X W e fe) (ho : Ex X W o fo) (hi : Ex X W i fi)
    (ha : ∀ v, assign (.Subscript o i p') X.env v = (do
      let ov ← holding [v] (eval o X.env)
      let iv ← holding [v, ov] (eval i X.env)
      standAt p'
      holding [v, ov, iv] (setItem ov iv v)
      release [v, ov, iv] []) := by intro _; rfl)
    (hs : swapsWithSole [.Subscript o i p'] e pos.line X.env = pure false := by rfl) (hw : swappedStores [.Subscript o i p'] e X.env = pure none := by rfl) (h1 : (assignEach [.Subscript o i p'] X.env).map (·.2) = [assign (.Subscript o i p') X.env] := by rfl) : Sx X W (.Assign [.Subscript o i p'] e pos) (sSub fo fi fe) := by
  refine ⟨fun m τ s σ H D hL hS hP pins sh I => (ps_asg peW (pg_sub peW peW (set_any (by omega)) ha) hs hw h1).run pins sh σ H D I ?_⟩
  refine he.run m τ s σ H _ hL hS (hP.bind hL fun v s1 m1 H1 vv e1 hS1 r1 hP1 => ?_)
  refine ho.run m1 τ s1 σ H1 _ (hL.mono e1) hS1 (hP1.bind (hL.mono e1) fun o s2 m2 H2 vo e2 hS2 r2 hP2 => ?_)
  refine hi.run m2 τ s2 σ H2 _ ((hL.mono e1).mono e2) hS2 (hP2.bind ((hL.mono e1).mono e2) fun i s3 m3 H3 vi e3 hS3 r3 hP3 => ?_)
  split at hP3
  · rename_i s4 h4
    obtain ⟨H4, q5, q6, q7⟩ := set_read hS3 (r2.mono e3) r3 ((r1.mono e2).mono e3) h4
    exact q7 _ (hP3 m3 _ σ q5 q6 ((((hL.mono e1).mono e2).mono e3).mono q5))
  · exact hP3.elim
/-! o[i] op= e -/
def oGetL : O2 := fun x i st => match x with
  | .ref n => match dctAt st n with
    | some kvs => if keyFit kvs i then match dGet kvs i with
        | some d => .ok d st
        | none => .bad
      else .bad
    | none => oGetLS x i st
  | _ => oGetLS x i st
def sAugS (o : O2) (fo fi fe : EM D) : SM := fun τ st => bindE (fo τ st) τ fun x s1 => bindE (fi τ s1) τ fun i s2 => bindE (oGetL x i s2) τ fun y s3 => bindE (fe τ s3) τ fun z s4 => bindE (o y z s4) τ fun v s5 => match oSet x i v s5 with
  | some s6 => .nx τ s6
  | none => .bad
def rGet (K : KW) : R2 := fun x y H Q => rIxL K x y H Q ∨ rDG K x y H Q
theorem get_any (hu : X.A.units + 10 < cLine) : PGet X (rGet X.kw) := by
  intro pins s σ H x y v u Q I rx ry h
  rcases h with h | h
  · exact get_list pins s σ H x y v u Q I rx ry h
  · exact get_dg hu pins s σ H x y v u Q I rx ry h
theorem getL_read {m : List Addr} {st : Store} {H : Hp} {x i : D} {vx vi : V} {E : XK} {Q : VK} (hS : SS X.kw m st H) (rx : RD X.K m H x vx) (ri : RD X.K m H i vi) (h : Pe X.kw E (RD X.K) m H (oGetL x i st) Q) : rGet X.kw vx vi H Q := by
  unfold oGetL at h
  split at h
  · split at h
    · rename_i kvs hk
      split at h
      · rename_i f
        split at h
        · rename_i d hd
          exact .inr (dg_some hS hk rx ri f hd h)
        · exact h.elim
      · exact h.elim
    · exact .inl (getL_readS hS rx ri h)
  · exact .inl (getL_readS hS rx ri h)
end
section
variable {X : Cx} {W : WX} {e o a b c : Expr} {es : List Expr} {pos p : Pos} {f fo fa fb fe fi : EM D} {fs : EM (List D)}
theorem sx_augS {o i : Expr} {p' : Pos} {fo fi : EM D} {op : Operator} {op2 : O2} (hu : X.A.units + 65 < cLine) (ho : Ex X W o fo) (hi : Ex X W i fi) (he : Ex X W e fe) (hop : OpM X W (inplaceOp op) op2)
    (ha : ∀ ov iv new, augStore i ov iv new = (do holding [new, ov, iv] (setItem ov iv new); release [new, ov, iv] []; pure .next) := by intros; rfl) : Sx X W (.AugAssign (.Subscript o i p') op e pos) (sAugS op2 fo fi fe) := by
  refine ⟨fun m τ s σ H D hL hS hP pins sh I => ?_⟩
  have read : wE X o σ H fun vo H1 => wE X i σ H1 fun vi H2 => rGet X.kw vo vi H2 fun vy H3 => wE X e σ H3 fun vz H4 => wR2 X (inplaceOp op) σ vy vz H4 fun vv H5 => rSet X.kw vo vi vv H5 fun H6 => D.nx σ H6 := by
    refine ho.run m τ s σ H _ hL hS (hP.bind hL fun dx s1 m1 H1 vx e1 hS1 r1 hP1 => ?_)
    have hL1 := hL.mono e1
    refine hi.run m1 τ s1 σ H1 _ hL1 hS1 (hP1.bind hL1 fun di s2 m2 H2 vi e2 hS2 r2 hP2 => ?_)
    have hL2 := hL1.mono e2
    refine getL_read hS2 (r1.mono e2) r2 (hP2.bind hL2 fun dy s3 m3 H3 vy e3 hS3 r3 hP3 => ?_)
    have hL3 := hL2.mono e3
    refine he.run m3 τ s3 σ H3 _ hL3 hS3 (hP3.bind hL3 fun dz s4 m4 H4 vz e4 hS4 r4 hP4 => ?_)
    have hL4 := hL3.mono e4
    intro pins s v u I rv ru
    refine hop m4 s4 σ H4 dy dz vy vz _ hS4 (r3.mono e4) r4 (hP4.bind hL4 fun dv s5 m5 H5 vv e5 hS5 r5 hP5 => ?_) pins s v u I rv ru
    have hL5 := hL4.mono e5
    split at hP5
    · rename_i s6 h6
      have e25 := ((e3.trans e4).trans e5)
      obtain ⟨H6, q5, q6, q7⟩ := set_read hS5 ((r1.mono e2).mono e25) (r2.mono e25) r5 h6
      exact q7 _ (hP5 m5 _ σ q5 q6 (hL5.mono q5))
    · exact hP5.elim
  refine wpAny_AugAssign_SubscriptAny (thn (read pins sh I) fun ov s1 ⟨x1, H1, I1, r1, q1⟩ => ?_) ha
  refine thn (q1 pins s1 I1) fun iv s2 ⟨x2, H2, I2, r2, q2⟩ => ?_
  refine thn (get_any (by omega) pins s2 σ H2 x1 x2 ov iv _ I2 r1 r2 q2) fun old s3 ⟨x3, H3, I3, r3, q3⟩ => ?_
  refine thn (q3 pins s3 I3) fun v s4 ⟨x4, H4, I4, r4, q4⟩ => ?_
  refine thn (q4 pins s4 old v I4 r3 r4) fun new s5 ⟨x5, H5, I5, r5, q5⟩ => ?_
  exact thn (set_any (by omega) pins s5 σ H5 x1 x2 x5 ov iv new _ I5 r1 r2 r5 q5) fun _ s6 ⟨H6, I6, q6⟩ => ⟨σ, H6, I6, q6⟩
/-! len -/
/-- it is a dict with so many entries -/
def IsDG (K : KW) (H : Hp) (a : Addr) (n : Nat) : Prop := (∃ us, H a = some (.dK us) ∧ us.length = n) ∨ ∃ xs, H a = some (.ext (DObj K.w a xs)) ∧ (∀ x ∈ xs, NV K H x.1 (.ref x.2.1) ∧ x.1.depth ≤ 8) ∧ xs.length = n
theorem isDG_of {K : KW} {m : List Addr} {st : Store} {H : Hp} {n : Nat} {kvs : List (D × D)} {v : V} (hS : SS K m st H) (hk : dctAt st n = some kvs) (r : RD K m H (.ref n) v) : ∃ a, v = .ref a ∧ IsDG K H a kvs.length := by
  cases r with
  | ref q =>
    rcases hS.dict hk q with ⟨us, e, r⟩ | ⟨xs, e, ne, r⟩
    · exact ⟨_, rfl, .inl ⟨us, e, (Paired.length r).symm⟩⟩
    · exact ⟨_, rfl, .inr ⟨xs, e, keys2 r, (Paired.length r).symm⟩⟩
theorem call_len_dg : CallR X (.builtin "len") (fun xs H Q => ∃ a n, xs = [.ref a] ∧ IsDG X.kw H a n ∧ Q (.int (n : Nat)) H) := by
  intro pins s σ H xs us Q I r h
  obtain ⟨a, n, rfl, g, q⟩ := h
  obtain ⟨u, rfl, rx⟩ := vals1 r
  cases (show u = Value.ref a from rx)
  rcases g with ⟨us, e, rfl⟩ | ⟨xs, e, hx, rfl⟩
  · exact d_len I (.inl e) fun t s' I' => ⟨.int us.length, H, I', ⟨t, rfl⟩, q⟩
  · obtain ⟨hd, hz, zs, rel, dd⟩ := dobj_at I e hx
    have hl : xs.length = zs.length := Paired.length rel
    refine call_len_dictH hd dd (by rw [← hl]; rw [sizeLine_eq] at hz; omega) ?_
    rw [hl] at q
    exact ⟨.int zs.length, H, I.tok _, ⟨_, rfl⟩, q⟩
def fLen : FM := fun ds st => match ds with
  | [.ref n] => match dctAt st n with
    | some kvs => .ok (.int kvs.length) st
    | none => fLenS ds st
  | _ => fLenS ds st
theorem c_len : CallM X (.builtin "len") fLen := by
  obtain ⟨r, hr, h⟩ := c_lenS (X := X)
  refine ⟨_, hr.or call_len_dg, fun m st H ds vs E Q hS rs hP => ?_⟩
  unfold fLen at hP
  split at hP
  · split at hP
    · rename_i kvs hk
      obtain ⟨v, rfl, r1⟩ := rs.one
      obtain ⟨a, rfl, g⟩ := isDG_of hS hk r1
      exact .inr ⟨a, _, rfl, g, hP.now hS (.int _)⟩
    · exact .inl (h m st H _ vs E Q hS rs hP)
  · exact .inl (h m st H _ vs E Q hS rs hP)
/-! d.get(k), d.get(k, x) -/
theorem isDG_at {pins : List (Addr × Obj)} {σ : L2.St} {H : Hp} {s : Shared} {a : Addr} {n : Nat} (I : Inv X pins σ H s) (g : IsDG X.kw H a n) : s.TypeIs (.ref a) "dict" ∧ ∀ b, Value.ref a = .ref b → ∃ ob, s.heap.get? b = some ob ∧ ob.dict = none := by
  rcases g with ⟨us, e, rfl⟩ | ⟨xs, e, hx, rfl⟩
  · obtain ⟨_, hd, vs, _, dd⟩ := dk_of I.hok e
    refine ⟨dd.typeIs, fun b q => ?_⟩
    cases q
    obtain ⟨ob, _, _, h1, h2, _⟩ := dd
    exact ⟨ob, h1, h2.2.1⟩
  · obtain ⟨_, _, zs, _, dd⟩ := dobj_at I e hx
    refine ⟨dd.typeIs, fun b q => ?_⟩
    cases q
    obtain ⟨ob, _, _, h1, h2, _⟩ := dd
    exact ⟨ob, h1, h2.2.1⟩
def isDct (st : Store) (d : D) : Bool := match d with
  | .ref n => (dctAt st n).isSome
  | _ => false
def oDGet (d k x : D) (st : Store) : ER D := match d with
  | .ref n => match dctAt st n with
    | some kvs => if keyFit kvs k then .ok ((dGet kvs k).getD x) st else .bad
    | none => .bad
  | _ => .bad
def eGet2 (fo fa fb : EM D) : EM D := fun τ st => (fo τ st).bind fun d s1 => if isDct s1 d then (fa τ s1).bind fun k s2 => (fb τ s2).bind fun x s3 => oDGet d k x s3 else .bad
def eGet1 (fo fa : EM D) : EM D := fun τ st => (fo τ st).bind fun d s1 => if isDct s1 d then (fa τ s1).bind fun k s2 => oDGet d k .non s2 else .bad
theorem isDct_of {m : List Addr} {st : Store} {H : Hp} {d : D} {v : V} (hS : SS X.kw m st H) (h : isDct st d = true) (r : RD X.K m H d v) : ∃ a n, v = .ref a ∧ IsDG X.kw H a n := by
  unfold isDct at h
  split at h
  · obtain ⟨kvs, hk⟩ := Option.isSome_iff_exists.mp h
    obtain ⟨a, e, g⟩ := isDG_of hS hk r
    exact ⟨a, _, e, g⟩
  · cases h
theorem oDGet_of {m : List Addr} {st : Store} {H : Hp} {d k x : D} {v y z : V} {E : XK} {Q : VK} (hS : SS X.kw m st H) (r : RD X.K m H d v) (rk : RD X.K m H k y) (rx : RD X.K m H x z) (hP : Pe X.kw E (RD X.K) m H (oDGet d k x st) Q) : ∃ a o, v = .ref a ∧ DG X.kw H a y o ∧ Q (o.getD z) H := by
  unfold oDGet at hP
  split at hP
  · split at hP
    · rename_i kvs hk
      split at hP
      · rename_i f
        cases r with
        | ref q =>
          obtain ⟨o, g, ro⟩ := dg_of (hS.dict hk q) rk f
          refine ⟨_, o, rfl, g, hP.now hS ?_⟩
          cases h1 : dGet kvs k <;> cases h2 : o <;> rw [h1, h2] at ro <;> first | exact rx | exact ro | exact ro.elim
      · exact hP.elim
    · exact hP.elim
  · exact hP.elim
theorem ex_get2 {apos cpos : Pos} (hu : X.A.units + 65 < cLine) (ho : Ex X W o fo) (ha : Ex X W a fa) (hb : Ex X W b fb) (m : M2 X o "get" apos a b cpos) : Ex X W (.Call (.Attribute o "get" apos) [a, b] [] cpos) (eGet2 fo fa fb) := by
  refine ⟨fun m0 τ st σ H Q hL hS hP pins s I => ?_⟩
  have read : wE X o σ H fun vo H1 => ∃ p n, vo = .ref p ∧ IsDG X.kw H1 p n ∧ wE X a σ H1 fun y H2 => wE X b σ H2 fun z H3 => ∃ q, DG X.kw H3 p y q ∧ Q (q.getD z) H3 := by
    refine ho.run m0 τ st σ H _ hL hS (hP.bind fun d s1 m1 H1 v e1 hS1 r1 hP1 => ?_)
    split at hP1
    · rename_i hk
      obtain ⟨p, n, rfl, g⟩ := isDct_of hS1 hk r1
      refine ⟨p, n, rfl, g, ha.run m1 τ s1 σ H1 _ (hL.mono e1) hS1 (hP1.bind fun k s2 m2 H2 y e2 hS2 r2 hP2 => ?_)⟩
      refine hb.run m2 τ s2 σ H2 _ ((hL.mono e1).mono e2) hS2 (hP2.bind fun x s3 m3 H3 z e3 hS3 r3 hP3 => ?_)
      obtain ⟨p', q, e, g', hq⟩ := oDGet_of hS3 ((r1.mono e2).mono e3) (r2.mono e3) r3 hP3
      cases e
      exact ⟨q, g', hq⟩
    · exact hP1.elim
  refine wpAny_Call_method m.base m.few m.line PySem.F.plainAttrs_dict PySem.F.slot_dict_get PySem.F.type_dict_get (thn (read pins s I) fun u s1 ⟨x, H1, I1, rx, p, n, ex, g, q1⟩ => ?_)
  subst ex
  obtain rfl : u = Value.ref p := rx
  obtain ⟨t1, t2⟩ := isDG_at I1 g
  refine ⟨t1, t2, ?_⟩
  rw [m.trees]
  refine Calls.callWith_builtin rfl (Calls.evalArgs_plain (Calls.spliced_cons (thn (q1 pins s1 I1) fun iv s2 ⟨y, H2, I2, ry, q2⟩ =>
    Calls.spliced_cons (thn (q2 pins s2 I2) fun fv s3 ⟨z, H3, I3, rz, ov, g3, q3⟩ => Calls.spliced_nil ?_))))
  exact dg_get2 (by omega) I3 g3 ry rz fun w' s4 I4 rw' => ⟨_, H3, I4, rw', q3⟩
theorem ex_get1 {apos cpos : Pos} (hu : X.A.units + 65 < cLine) (ho : Ex X W o fo) (ha : Ex X W a fa) (m : M1 X o "get" apos a cpos) : Ex X W (.Call (.Attribute o "get" apos) [a] [] cpos) (eGet1 fo fa) := by
  refine ⟨fun m0 τ st σ H Q hL hS hP pins s I => ?_⟩
  have read : wE X o σ H fun vo H1 => ∃ p n, vo = .ref p ∧ IsDG X.kw H1 p n ∧ wE X a σ H1 fun y H2 => ∃ q, DG X.kw H2 p y q ∧ Q (q.getD .non) H2 := by
    refine ho.run m0 τ st σ H _ hL hS (hP.bind fun d s1 m1 H1 v e1 hS1 r1 hP1 => ?_)
    split at hP1
    · rename_i hk
      obtain ⟨p, n, rfl, g⟩ := isDct_of hS1 hk r1
      refine ⟨p, n, rfl, g, ha.run m1 τ s1 σ H1 _ (hL.mono e1) hS1 (hP1.bind fun k s2 m2 H2 y e2 hS2 r2 hP2 => ?_)⟩
      obtain ⟨p', q, e, g', hq⟩ := oDGet_of hS2 (r1.mono e2) r2 .non hP2
      cases e
      exact ⟨q, g', hq⟩
    · exact hP1.elim
  refine wpAny_Call_method m.base m.few m.line PySem.F.plainAttrs_dict PySem.F.slot_dict_get PySem.F.type_dict_get (thn (read pins s I) fun u s1 ⟨x, H1, I1, rx, p, n, ex, g, q1⟩ => ?_)
  subst ex
  obtain rfl : u = Value.ref p := rx
  obtain ⟨t1, t2⟩ := isDG_at I1 g
  refine ⟨t1, t2, ?_⟩
  rw [m.trees]
  refine Calls.callWith_builtin rfl (Calls.evalArgs_plain (Calls.spliced_cons (thn (q1 pins s1 I1) fun iv s2 ⟨y, H2, I2, ry, ov, g3, q3⟩ => Calls.spliced_nil ?_)))
  exact dg_get1 (by omega) I2 g3 ry fun w' s4 I4 rw' => ⟨_, H2, I4, rw', q3⟩
end
end HM

/-! HM, part E: order, sorted, places. -/
namespace HM
open PySem PySem.Spec PyProof.Rows L2
section
variable {X : Cx} {W : WX} {e o a b c : Expr} {es : List Expr} {pos p : Pos} {f fo fa fb : EM D} {fs : EM (List D)}
/-! ### < -/
def D.isTup (d : D) : Bool := match d with
  | .tup _ => true
  | _ => false
def dLt (x y : D) : Option Bool := if x.isTup && x.plain 60 && y.plain 60 && PySem.W.alike (x.toP 60) (y.toP 60) then some (PySem.W.dataLt (x.toP 60) (y.toP 60)) else none
def oLt : O2 := fun x y st => match x, y with
  | .int i, .int j => .ok (.bl (decide (i < j))) st
  | x, y => match dLt x y with
    | some b => .ok (.bl b) st
    | none => .bad
theorem toP_tup {x : D} (h : x.isTup = true) : x.toP 60 ≠ .none := by
  cases x <;> simp [D.isTup] at h <;> simp [D.toP]
theorem m_lt (hu : X.A.units + 65 < cLine) : OpM X W (compareOp .Lt) oLt := fun m st σ H dx dy x y Q hS r1 r2 hP pins s v u I rx ry => by
  unfold oLt at hP
  split at hP
  · exact m_ltI (W := W) m st σ H _ _ x y Q hS r1 r2 hP pins s v u I rx ry
  · split at hP
    · rename_i b hb
      unfold dLt at hb
      split at hb
      · rename_i hc
        cases hb
        simp only [Bool.and_eq_true] at hc
        obtain ⟨⟨⟨h1, h2⟩, h3⟩, h4⟩ := hc
        obtain ⟨a1, a2, a3⟩ := plain_dp 60 dx x h2 r1
        obtain ⟨b1, b2, b3⟩ := plain_dp 60 dy y h3 r2
        obtain ⟨as, ra⟩ := Dp.reads I _ x v a1 rx
        obtain ⟨bs, rb⟩ := Dp.reads I _ y u b1 ry
        exact PySem.W.lt_data ra rb h4 (toP_tup h1) (by omega) ⟨.bl _, H, I, rfl, hP.now hS (.bl _)⟩
      · cases hb
    · exact hP.elim
end

/-! ### sorted -/
section
open PySem.W PySem.Calls
variable {prog : Program} {w : World} {A : Around} {E : Value → Shared → Prop} {s : Shared}
theorem collect_tup {l : Addr} {vs : List Value} {Q : List Value → Shared → Prop} (hl : PyProof.Rows.IsTup s.heap l vs.toArray)
    (h : Q vs { s with heap := (s.heap.push (seqObj "list" #[] 0)).update s.heap.objs.size (Obj.mapSeq (· ++ vs.toArray)) }) (hsz : vs.length ≤ sizeLine) :
    wpAny (model prog w) A (collect (.ref l)) Q E s := by
  obtain ⟨o, ho, hc, n, hd⟩ := id hl
  unfold collect
  refine wpAny_bind (wpAny_runValue (codeAny_builtin entry_proto_collect' ?_))
  show wpAny _ _ (do again (.builtin "list.__iadd__" ⟨[← newList [], .ref l], []⟩)) _ _ s
  refine wpAny_bind (wpAny_newList (wpAny_pure ⟨Code.quiet_builtin _ (by decide +kernel), codeAny_builtin entry_list_iadd' ?_⟩))
  show wpAny _ _ (Builtin.List.listExtendWith (.ref s.heap.objs.size) (.ref l) (.ref s.heap.objs.size)) _ _ { s with heap := s.heap.push (seqObj "list" #[] 0) }
  unfold Builtin.List.listExtendWith
  have ho' : (s.heap.push (seqObj "list" #[] 0)).get? l = some o := Heap.get?_push_of_some _ ho
  refine wpAny_bind (wpAny_typeOf (T := "tuple") ⟨o, ho', hc⟩ ?_)
  have ht : (Value.type "tuple" == Value.type "tuple") = true := by rfl
  rw [if_pos (by rw [ht]; simp)]
  refine wpAny_bind (listItems_at ho' hd ?_)
  refine wpAny_bind (listItems_at (xs := #[]) (n := 0) (Heap.get?_push_size _ rfl) rfl ?_)
  rw [if_neg (by simp)]
  refine wpAny_bind (listUpdate_at (xs := #[]) (n := 0) (Heap.get?_push_size _ rfl) rfl ?_ (Nat.zero_le _) (by show (#[] ++ vs.toArray).size ≤ sizeLine + 1; simp only [Array.size_append, List.size_toArray, List.length_nil]; omega))
  refine wpAny_pure ?_
  show wpAny (model prog w) A (do
      let o ← load s.heap.objs.size
      match o.data with
      | .seq xs _ => pure xs.toList
      | _ => unsupported "internal:collect") Q E { s with heap := (s.heap.push (seqObj "list" #[] 0)).update s.heap.objs.size (Obj.mapSeq (· ++ vs.toArray)) }
  refine wpAny_bind (wpAny_load (get?_update_seq (Heap.get?_push_size _ rfl) _) ?_)
  show wpAny _ _ (pure ((#[] : Array Value) ++ vs.toArray).toList) Q E _
  rw [show ((#[] : Array Value) ++ vs.toArray).toList = vs by simp]
  exact wpAny_pure h
theorem sorted_of_sortT {l : Addr} {vs : List Value} {kw : List (PySem.Str × Value)} {Q : Value → Shared → Prop} (hl : PyProof.Rows.IsTup s.heap l vs.toArray) (hL : vs.length ≤ sizeLine) (ha1 : argsOk "sorted" ⟨[.ref l], kw⟩) (ha2 : ∀ x, argsOk "list.sort" ⟨[.ref x], kw⟩)
    (body : ∀ E' : Value → Shared → Prop, wpAny (model prog w) A.in1.in1 (Builtin.«list.sort» ⟨[.ref (s.heap.objs.size + 1)], kw⟩) (fun f s' => f = .done (.ret .none) ∧ Q (.ref (s.heap.objs.size + 1)) s') E' { s with heap := copyHeap s.heap vs }) :
    wpAny (model prog w) A (call (.builtin "sorted") [.ref l] kw) Q E s := by
  refine call_function_entry_kw kind_sorted plain_sorted entry_sorted ha1 ?_
  unfold Builtin.«sorted»
  refine wpAny_bind (m := checkCount "sorted" 1 1 _) (wpAny_pure ?_)
  refine wpAny_bind (collect_tup hl ?_ hL)
  refine wpAny_bind (wpAny_newList ?_ hL)
  have hsz : ((s.heap.push (seqObj "list" #[] 0)).update s.heap.objs.size (Obj.mapSeq (· ++ vs.toArray))).objs.size = s.heap.objs.size + 1 := by
    rw [Heap.size_update, size_push']
  show wpAny _ _ _ _ _ { s with heap := copyHeap s.heap vs }
  rw [hsz]
  refine wpAny_bind (wpAny_holding (wpAny_call_entry_kw slot_list_sort ⟨_, copyHeap_at s.heap vs, rfl⟩ entry_list_sort ?body (ha2 _)))
  case body =>
    show wpAny (model prog w) A.in1.in1 (Builtin.«list.sort» ⟨[.ref (s.heap.objs.size + 1)], kw⟩) _ _ _
    refine wpAny_mono (body _) (fun f s' hf => ?_) fun _ _ e => e
    obtain ⟨rfl, hq⟩ := hf
    exact ⟨_, rfl, wpAny_pure ⟨_, rfl, hq⟩⟩
theorem bound_mapT {β : Type} {bs : List β} {enc : β → PyData} (hu : ∀ b, b ∈ bs → A.units + 2 + (enc b).depth < cLine) : ∀ d, d ∈ bs.map enc → A.in1.in1.units + d.depth < cLine := by
  intro d hd
  obtain ⟨b, hb, rfl⟩ := List.mem_map.mp hd
  exact hu b hb
theorem sorted_dataT {β : Type} {R : Value → β → Prop} {enc : β → PyData} {bs : List β} {vs : List Value} {l : Addr} {Q : Value → Shared → Prop} (hl : PyProof.Rows.IsTup s.heap l vs.toArray) (e : EachIs R vs bs) (er : EachIs (fun v b => ∃ as, PySem.Reads s.heap v (enc b) as) vs bs) (hal : AllAlike (bs.map enc)) (hk : Sortable (bs.map enc)) (hL : bs.length ≤ sizeLine)
    (hu : ∀ b, b ∈ bs → A.units + 2 + (enc b).depth < cLine) (h : ∀ out, out.length = bs.length → EachIs R out (bs.mergeSort (dataLe false enc)) → Q (.ref (s.heap.objs.size + 1)) { s with heap := sortedAll s.heap vs (List.toArray out) }) :
    wpAny (model prog w) A (call (.builtin "sorted") [.ref l]) Q E s := by
  have er' : EachIs (fun v b => ∃ as, PySem.Reads (sortingHeap (copyHeap s.heap vs) (s.heap.objs.size + 1) vs) v (enc b) as) vs bs := er.mono fun _ _ ⟨as, r⟩ => ⟨as, PyProof.Rows.Reads.keeps (fun _ _ => sorting_copy_old) r⟩
  have hL' : vs.length ≤ sizeLine := by rw [e.length]; exact hL
  exact sorted_of_sortT hl hL' (args_sorted1 _) (fun _ => args_list_sort _) fun _ => list_sort_vals (s := { s with heap := copyHeap s.heap vs }) (copyHeap_at s.heap vs)
    (SortsAt.data (s := { s with heap := sortingHeap (copyHeap s.heap vs) (s.heap.objs.size + 1) vs }) (each_map (R := fun v d => ∃ as, PySem.Reads (sortingHeap (copyHeap s.heap vs) (s.heap.objs.size + 1) vs) v d as) enc er') hal hk (bound_mapT hu)) hL'
    ⟨rfl, h _ (by rw [sortVals_length false rfl]; exact e.length) (sortVals_data false e er' hal)⟩
end

section
open PySem.W
variable {X : Cx} {W : WX} {e o a b c : Expr} {es : List Expr} {pos p : Pos} {f fo fa fb : EM D} {fs : EM (List D)}
def rSortedD (K : PySem.W.Frag) : List V → Hp → VK → Prop := fun xs H Q => ∃ (a : Addr) (bs : List (D × V)), xs = [.ref a] ∧ (SqL K H a (bs.map (·.2)) ∨ SqT K H a (bs.map (·.2))) ∧ (∀ b ∈ bs, Dp K H b.2 (b.1.toP 60) ∧ (b.1.toP 60).depth ≤ 60) ∧
  AllAlike (bs.map fun b => b.1.toP 60) ∧ Sortable (bs.map fun b => b.1.toP 60) ∧ ∀ p, H p = none → Q (.ref p) (upd H p (.lst ((bs.mergeSort (dataLe false fun b => b.1.toP 60)).map (·.2))))
theorem each_of {β : Type} {R : Value → β → Prop} {f : β → V} : ∀ {bs : List β} {us : List Value}, Vals (bs.map f) us → (∀ b ∈ bs, ∀ u, RelV (f b) u → R u b) → EachIs R us bs
  | [], _, r, _ => by
    cases r
    exact .nil
  | b :: bs, _, r, h => by
    cases r with
    | cons r1 r2 => exact .cons (h b (List.mem_cons_self ..) _ r1) (each_of r2 fun b hb => h b (List.mem_cons_of_mem _ hb))
theorem vals_of_each {β : Type} {f : β → V} : ∀ {bs : List β} {us : List Value}, EachIs (fun u b => RelV (f b) u) us bs → Vals (bs.map f) us
  | _, _, .nil => .nil
  | _, _, .cons h t => .cons h (vals_of_each t)
theorem cr_sortedD (hu : X.A.units + 65 < cLine) : CallR X (.builtin "sorted") (rSortedD X.K) := by
  intro pins s σ H vs us Q I r h
  obtain ⟨a, bs, rfl, hs, hb, hal, hk, q⟩ := h
  rw [Vals.ref1 r]
  have main : ∀ its : List Value, Vals (bs.map (·.2)) its → (bs.map (·.2)).length ≤ sizeLine → (∀ Q : Value → Shared → Prop, (∀ out, out.length = bs.length → EachIs (fun u (b : D × V) => RelV b.2 u) out (bs.mergeSort (dataLe false fun b => b.1.toP 60)) → Q (.ref (s.heap.objs.size + 1)) { s with heap := PyProof.Rows.sortedAll s.heap its (List.toArray out) }) →
      wpAny (model X.prog X.w) X.A (call (.builtin "sorted") [.ref a]) Q X.xe s) → wpAny (model X.prog X.w) X.A (call (.builtin "sorted") [.ref a]) (EP X pins σ Q) X.xe s := fun its rv hz go => by
    refine go _ fun out h1 h2 => ?_
    obtain ⟨ep, he'⟩ := PyProof.Rows.sortedAll_at s.heap its out.toArray
    have rv' := vals_of_each (f := fun b : D × V => b.2) h2
    have hlen : ((bs.mergeSort (dataLe false fun b => b.1.toP 60)).map (·.2)).length ≤ sizeLine := by
      rw [List.length_map, List.length_mergeSort]
      rwa [List.length_map] at hz
    exact ⟨.ref _, upd H (s.heap.objs.size + 1) (.lst ((bs.mergeSort (dataLe false fun b => b.1.toP 60)).map (·.2))), I.laid (t' := s.toks) (fun _ _ => PyProof.Rows.sortedAll_old) (Nat.le_succ _) ⟨hlen, out, ep, rv', he'⟩, rfl, q _ (I.hok.fresh (Nat.le_succ _))⟩
  have ee : ∀ its : List Value, Vals (bs.map (·.2)) its → EachIs (fun u (b : D × V) => RelV b.2 u) its bs := fun its rv => each_of (f := fun b : D × V => b.2) rv fun b _ u h => h
  have er : ∀ its : List Value, Vals (bs.map (·.2)) its → EachIs (fun v (b : D × V) => ∃ as, PySem.Reads s.heap v (b.1.toP 60) as) its bs := fun its rv => each_of (f := fun b : D × V => b.2) rv fun b hm u h => Dp.reads I _ _ _ (hb b hm).1 h
  have hd : ∀ b, b ∈ bs → X.A.units + 2 + (b.1.toP 60).depth < cLine := fun b hm => by
    have := (hb b hm).2
    omega
  rcases hs with hs | hs
  · obtain ⟨its, rv, hl, hz⟩ := I.list hs
    exact main its rv hz fun Q hQ => sorted_data (enc := fun b : D × V => b.1.toP 60) hl.isList (ee its rv) (er its rv) hal hk (by rwa [List.length_map] at hz) hd hQ
  · obtain ⟨its, rv, hl, hz⟩ := I.tuple hs
    exact main its rv hz fun Q hQ => sorted_dataT (enc := fun b : D × V => b.1.toP 60) hl (ee its rv) (er its rv) hal hk (by rwa [List.length_map] at hz) hd hQ
def sortLeD (a b : D) : Bool := !dataLt (b.toP 60) (a.toP 60)
def sortD (xs : List D) : List D := xs.mergeSort sortLeD
def D.neTup (d : D) : Bool := match d with
  | .tup (_ :: _) => true
  | _ => false
def D.atom (d : D) : Bool := match d with
  | .int _ => true
  | .str _ => true
  | _ => false
def sortable (xs : List D) : Bool := (xs.all (D.plain 60)) && (xs.all fun x => xs.all fun y => alike (x.toP 60) (y.toP 60)) && (xs.all D.neTup || xs.all D.atom)
def gSorted : SM1 := fun xs st => if sortable xs then .ok (.ref st.length) (st ++ [.lst (sortD xs)]) else .bad
theorem rds_zip {K : PySem.W.Frag} {m : List Addr} {H : Hp} : ∀ {ds : List D} {vs : List V}, RDs K m H ds vs → (ds.zip vs).map (·.1) = ds ∧ (ds.zip vs).map (·.2) = vs ∧ ∀ b ∈ ds.zip vs, RD K m H b.1 b.2
  | _, _, .nil => ⟨rfl, rfl, fun _ h => nomatch h⟩
  | _, _, .cons h t => by
    obtain ⟨a1, a2, a3⟩ := rds_zip t
    refine ⟨by simp [a1], by simp [a2], fun b hb => ?_⟩
    rw [List.zip_cons_cons] at hb
    rcases List.mem_cons.mp hb with rfl | hb
    · exact h
    · exact a3 b hb
theorem rds_of {K : PySem.W.Frag} {m : List Addr} {H : Hp} : ∀ {bs : List (D × V)}, (∀ b ∈ bs, RD K m H b.1 b.2) → RDs K m H (bs.map (·.1)) (bs.map (·.2))
  | [], _ => .nil
  | b :: bs, h => .cons (h b (List.mem_cons_self ..)) (rds_of fun b hb => h b (List.mem_cons_of_mem _ hb))
theorem s_sorted (hu : X.A.units + 65 < cLine) : CallS X (.builtin "sorted") gSorted := ⟨_, cr_sortedD hu, fun m st H ds v E Q hS r hP => by
  unfold gSorted at hP
  split at hP
  · rename_i hc
    unfold sortable at hc
    simp only [Bool.and_eq_true, Bool.or_eq_true, List.all_eq_true] at hc
    obtain ⟨⟨h1, h2⟩, h3⟩ := hc
    obtain ⟨a, vs, rfl, q, rs⟩ := r
    obtain ⟨z1, z2, z3⟩ := rds_zip rs
    have hmem : ∀ b ∈ ds.zip vs, b.1 ∈ ds := fun b hb => by
      rw [← z1]
      exact List.mem_map_of_mem hb
    have hmap : (ds.zip vs).map (fun b => b.1.toP 60) = ds.map (D.toP 60) := by
      conv => rhs; rw [← z1]
      rw [List.map_map]
      rfl
    refine ⟨a, ds.zip vs, rfl, by rw [z2]; exact q, fun b hb => ?_, ?_, ?_, ?_⟩
    · obtain ⟨a1, a2, a3⟩ := plain_dp 60 b.1 b.2 (h1 _ (hmem b hb)) (z3 b hb)
      exact ⟨a1, a3⟩
    · rw [hmap]
      intro d hd d' hd'
      obtain ⟨x, hx, rfl⟩ := List.mem_map.mp hd
      obtain ⟨y, hy, rfl⟩ := List.mem_map.mp hd'
      exact h2 x hx y hy
    · rw [hmap]
      rcases h3 with h3 | h3
      · refine .inl fun d hd => ?_
        obtain ⟨x, hx, rfl⟩ := List.mem_map.mp hd
        have := h3 x hx
        unfold D.neTup at this
        split at this
        · exact ⟨_, _, rfl⟩
        · cases this
      · refine .inr fun d hd => ?_
        obtain ⟨x, hx, rfl⟩ := List.mem_map.mp hd
        have := h3 x hx
        unfold D.atom at this
        split at this
        · exact ⟨nofun, fun _ => nofun⟩
        · exact ⟨nofun, fun _ => nofun⟩
        · cases this
    · have e : (ds.zip vs).mergeSort (dataLe false fun b => b.1.toP 60) = (ds.zip vs).mergeSort (fun b c => sortLeD b.1 c.1) := rfl
      have e2 : ((ds.zip vs).mergeSort (fun b c => sortLeD b.1 c.1)).map (·.1) = sortD ds := by
        refine (sort_maps (s := sortLeD) (Prod.fst : D × V → D) (fun _ _ _ _ => rfl)).trans ?_
        show ((ds.zip vs).map fun b => b.1).mergeSort sortLeD = sortD ds
        rw [z1]
        rfl
      rw [e]
      have z4 : ∀ b ∈ (ds.zip vs).mergeSort (fun b c => sortLeD b.1 c.1), RD X.K m H b.1 b.2 := fun b hb => z3 b (List.mem_mergeSort.mp hb)
      have z5 := rds_of z4
      rw [e2] at z5
      exact hP.lst hS z5
  · exact hP.elim⟩
end
end HM

/-! HM, part M: min of tuples. -/
namespace HM
open PySem PySem.Spec PyProof.Rows L2
section
open PySem.W PySem.Calls
variable {prog : Program} {w : World} {A : Around} {E : Value → Shared → Prop} {s : Shared}
theorem min_list_ix {l : Addr} {vs : Array Value} {ys : List PyData} {as : List Addr} {Q : Value → Shared → Prop} (hh : A.handled = none) (hl : s.heap.IsList l vs) (hr : ReadsAll s.heap vs.toList ys as) (hn : vs.size = ys.length) (h0 : 0 < ys.length) (ha : AlikeAll ys) (hu : A.units + 1 + PyData.depthAll ys < cLine)
    (h : ∀ v h' tk, vs[argBest (fun i j => PySem.W.dataLt (ys.getD i .none) (ys.getD j .none)) (ys.length - 1)]? = some v → (∀ b o, s.heap.get? b = some o → h'.get? b = some o) → Q v { s with heap := h', toks := tk }) :
    wpAny (model prog w) A (call (.builtin "min") [.ref l]) Q E s := by
  refine call_min_walkH (iter_listW (A := A.in1) hh hl fun s₂ e W st hfp hw hk => ?_)
  refine ⟨_, _, _, _, _, _, _, s.heap, _, rfl, W, st, hfp, by omega, hw, hk, cmpIn_lt (A := A.in1) hr ha (by show A.units + 1 + _ < _; exact hu), fun v s' hP m => ?_⟩
  obtain ⟨h', tk, rfl, hk'⟩ := moved_old e rfl m
  rw [hn] at hP
  exact h v h' tk hP hk'
theorem min_tuple_ix {l : Addr} {vs : Array Value} {ys : List PyData} {as : List Addr} {Q : Value → Shared → Prop} (hh : A.handled = none) (hl : s.heap.IsTuple l vs) (hr : ReadsAll s.heap vs.toList ys as) (hn : vs.size = ys.length) (h0 : 0 < ys.length) (ha : AlikeAll ys) (hu : A.units + 1 + PyData.depthAll ys < cLine)
    (h : ∀ v h' tk, vs[argBest (fun i j => PySem.W.dataLt (ys.getD i .none) (ys.getD j .none)) (ys.length - 1)]? = some v → (∀ b o, s.heap.get? b = some o → h'.get? b = some o) → Q v { s with heap := h', toks := tk }) :
    wpAny (model prog w) A (call (.builtin "min") [.ref l]) Q E s := by
  refine call_min_walkH (iter_tupleW (A := A.in1) hh hl fun s₂ e W st hfp hw hk => ?_)
  refine ⟨_, _, _, _, _, _, _, s.heap, _, rfl, W, st, hfp, by omega, hw, hk, cmpIn_lt (A := A.in1) hr ha (by show A.units + 1 + _ < _; exact hu), fun v s' hP m => ?_⟩
  obtain ⟨h', tk, rfl, hk'⟩ := moved_old e rfl m
  rw [hn] at hP
  exact h v h' tk hP hk'
end
section
open PySem.W PySem.Calls
variable {X : Cx} {W : WX} {e o a b c : Expr} {es : List Expr} {pos p : Pos} {f fo fa fb : EM D} {fs : EM (List D)}
/-- the place of the first of the least -/
def minIx (ds : List D) : Nat := argBest (fun i j => PySem.W.dataLt ((ds.getD i .non).toP 60) ((ds.getD j .non).toP 60)) (ds.length - 1)
def minable (xs : List D) : Bool := xs.all D.isTup && xs.all (D.plain 60) && xs.all fun x => xs.all fun y => PySem.W.alike (x.toP 60) (y.toP 60)
def gMinT : SM1 := fun xs st => match (intsD xs).bind minI with
  | some n => .ok (.int n) st
  | none => match minable xs, xs[minIx xs]? with
    | true, some d => .ok d st
    | _, _ => .bad
def rMinD (K : PySem.W.Frag) : List V → Hp → VK → Prop := fun xs H Q => ∃ (a : Addr) (bs : List (D × V)), xs = [.ref a] ∧ (SqL K H a (bs.map (·.2)) ∨ SqT K H a (bs.map (·.2))) ∧ (∀ b ∈ bs, Dp K H b.2 (b.1.toP 60) ∧ (b.1.toP 60).depth ≤ 60) ∧
  AlikeAll (bs.map fun b => b.1.toP 60) ∧ 0 < bs.length ∧ ∀ b, bs[minIx (bs.map (·.1))]? = some b → Q b.2 H
theorem depthAll_le {n : Nat} : ∀ {ys : List PyData}, (∀ y ∈ ys, y.depth ≤ n) → PyData.depthAll ys ≤ n
  | [], _ => by simp [PyData.depthAll]
  | y :: ys, h => by
    have h1 := h y (List.mem_cons_self ..)
    have h2 := depthAll_le (ys := ys) fun z hz => h z (List.mem_cons_of_mem _ hz)
    simp only [PyData.depthAll]
    omega
theorem cr_minD (hc : X.calm = true) (hu : X.A.units + 65 < cLine) : CallR X (.builtin "min") (rMinD X.K) := by
  intro pins s σ H vs us Q I r h
  obtain ⟨a, bs, rfl, hs, hb, hal, h0, q⟩ := h
  rw [Vals.ref1 r]
  have ee : ∀ its : List Value, Vals (bs.map (·.2)) its → EachIs (fun u (b : D × V) => RelV b.2 u) its bs := fun its rv => each_of (f := fun b : D × V => b.2) rv fun b _ u h => h
  have er : ∀ its : List Value, Vals (bs.map (·.2)) its → EachIs (fun v (b : D × V) => ∃ as, PySem.Reads s.heap v (b.1.toP 60) as) its bs := fun its rv => each_of (f := fun b : D × V => b.2) rv fun b hm u h => Dp.reads I _ _ _ (hb b hm).1 h
  have hd : PyData.depthAll (bs.map fun b => b.1.toP 60) ≤ 60 := depthAll_le fun y hy => by
    obtain ⟨b, hb', rfl⟩ := List.mem_map.mp hy
    exact (hb b hb').2
  have ix : argBest (fun i j => PySem.W.dataLt ((bs.map fun b => b.1.toP 60).getD i .none) ((bs.map fun b => b.1.toP 60).getD j .none)) ((bs.map fun b => b.1.toP 60).length - 1) = minIx (bs.map (·.1)) := by
    unfold minIx
    have g : ∀ i, (bs.map fun b => b.1.toP 60).getD i .none = ((bs.map (·.1)).getD i D.non).toP 60 := fun i => by
      simp only [List.getD_eq_getElem?_getD, List.getElem?_map]
      cases bs[i]? <;> simp [D.toP]
    simp only [g, List.length_map]
  have fin : ∀ its : List Value, Vals (bs.map (·.2)) its → ∀ v h' tk, its.toArray[minIx (bs.map (·.1))]? = some v → (∀ b o, s.heap.get? b = some o → h'.get? b = some o) → EP X pins σ Q v { s with heap := h', toks := tk } := fun its rv v h' tk hv hk => by
    have hv' : its[minIx (bs.map (·.1))]? = some v := by simpa using hv
    have len := EachIs.length (ee its rv)
    have hi := (List.getElem?_eq_some_iff.mp hv').1
    have hb' : bs[minIx (bs.map (·.1))]? = some bs[minIx (bs.map (·.1))] := List.getElem?_eq_getElem (by omega)
    obtain ⟨u, hu', ru⟩ := rv.get (i := minIx (bs.map (·.1))) (x := (bs[minIx (bs.map (·.1))]'(by omega)).2) (by rw [List.getElem?_map, hb']; rfl)
    rw [hv'] at hu'
    cases hu'
    exact ⟨_, H, I.kept hk, ru, q _ hb'⟩
  have sz : ∀ its : List Value, Vals (bs.map (·.2)) its → its.toArray.size = (bs.map fun b => b.1.toP 60).length := fun its rv => by
    have len := EachIs.length (ee its rv)
    simp
    omega
  have l0 : 0 < (bs.map fun b => b.1.toP 60).length := by rw [List.length_map]; exact h0
  rcases hs with hs | hs
  · obtain ⟨its, rv, hl, hz⟩ := I.list hs
    obtain ⟨as, ra⟩ := PySem.W.each_readsAll (fun b : D × V => b.1.toP 60) (er its rv)
    refine min_list_ix (vs := its.toArray) (I.ok.hd hc) hl.isList (by simpa using ra) (sz its rv) l0 hal (by omega) fun v h' tk hv hk => ?_
    rw [ix] at hv
    exact fin its rv v h' tk hv hk
  · obtain ⟨its, rv, hl, hz⟩ := I.tuple hs
    obtain ⟨as, ra⟩ := PySem.W.each_readsAll (fun b : D × V => b.1.toP 60) (er its rv)
    obtain ⟨ob, ho, hcl, n, hd'⟩ := hl
    refine min_tuple_ix (vs := its.toArray) (I.ok.hd hc) ⟨ob, ho, hcl, n, hd'⟩ (by simpa using ra) (sz its rv) l0 hal (by omega) fun v h' tk hv hk => ?_
    rw [ix] at hv
    exact fin its rv v h' tk hv hk
theorem sv_minD (hc : X.calm = true) (hu : X.A.units + 65 < cLine) : CallS X (.builtin "min") gMinT := ⟨_, ((cr_min hc).or (cr_minT hc)).or (cr_minD hc hu), fun m st H ds v E Q hS r hP => by
  obtain ⟨a, vs, rfl, q, rs⟩ := r
  unfold gMinT at hP
  split at hP
  · rename_i k hk
    cases hn : intsD ds with
    | none =>
      rw [hn] at hk
      cases hk
    | some ns =>
      rw [hn] at hk
      have hk : minI ns = some k := hk
      have e := intsD_V rs hn
      subst e
      have fin : ∀ mm, mm ∈ ns → (∀ y, y ∈ ns → mm ≤ y) → Q (.int mm) H := fun mm hm hy => by
        rw [min_uniq hk hm hy]
        exact hP.now hS (.int _)
      rcases q with q | q
      · exact .inl (.inl ⟨a, ns, rfl, q, minI_pos hk, fin⟩)
      · exact .inl (.inr ⟨a, ns, rfl, q, minI_pos hk, fin⟩)
  · split at hP
    · rename_i d hm hd
      unfold minable at hm
      simp only [Bool.and_eq_true, List.all_eq_true] at hm
      obtain ⟨⟨h0, h1⟩, h2⟩ := hm
      obtain ⟨z1, z2, z3⟩ := rds_zip rs
      have hmem : ∀ b ∈ ds.zip vs, b.1 ∈ ds := fun b hb => by
        rw [← z1]
        exact List.mem_map_of_mem hb
      have hmap : (ds.zip vs).map (fun b => b.1.toP 60) = ds.map (D.toP 60) := by
        conv => rhs; rw [← z1]
        rw [List.map_map]
        rfl
      refine .inr ⟨a, ds.zip vs, rfl, by rw [z2]; exact q, fun b hb => ?_, ?_, ?_, fun b hb => ?_⟩
      · obtain ⟨a1, a2, a3⟩ := plain_dp 60 b.1 b.2 (h1 _ (hmem b hb)) (z3 b hb)
        exact ⟨a1, a3⟩
      · rw [hmap]
        refine ⟨fun d hd d' hd' => ?_, fun d hd => ?_⟩
        · obtain ⟨x, hx, rfl⟩ := List.mem_map.mp hd
          obtain ⟨y, hy, rfl⟩ := List.mem_map.mp hd'
          exact h2 x hx y hy
        · obtain ⟨x, hx, rfl⟩ := List.mem_map.mp hd
          exact toP_tup (h0 x hx)
      · have : (ds.zip vs).length = ds.length := by rw [← z1, List.length_map, z1]
        rw [this]
        have := (List.getElem?_eq_some_iff.mp hd).1
        omega
      · rw [z1] at hb
        have e : b.1 = d := by
          have : ((ds.zip vs).map (·.1))[minIx ds]? = some b.1 := by rw [List.getElem?_map, hb]; rfl
          rw [z1, hd] at this
          exact (Option.some.inj this).symm
        have rb := z3 b (List.mem_of_getElem? hb)
        rw [e] at rb
        exact hP.now hS rb
    · exact hP.elim⟩
end
end HM

/-! HM, part S: how mirrors are computed (simp). -/
namespace HM
open PySem PySem.Spec PyProof.Rows L2
section
variable {α β : Type} {τ : Sl} {st : Store} {f g h fa fb fc fe fo fi : EM D} {fs : EM (List D)} {ga gb : EM Bool} {i n : Nat} {d : D} {u v : SM}
@[simp] theorem eVar_e (hh : τ[i]? = some (some d)) : eVar i τ st = .ok d st := by unfold eVar; rw [hh]
@[simp] theorem eC_e : eC d τ st = .ok d st := rfl
@[simp] theorem eBin_e {o : O2} : eBin o fa fb τ st = (fa τ st).bind fun x s1 => (fb τ s1).bind fun y s2 => o x y s2 := rfl
@[simp] theorem eUn_e {o : O1} : eUn o fa τ st = (fa τ st).bind o := rfl
@[simp] theorem tBl_e : tBl fa τ st = (fa τ st).bind dBl := rfl
@[simp] theorem dBl_e {b : Bool} : dBl (.bl b) st = .ok b st := rfl
def oTru (d : D) (st : Store) : ER Bool := match dTru st d with
  | some b => .ok b st
  | none => .bad
@[simp] theorem tVal_e : tVal fa τ st = (fa τ st).bind oTru := rfl
@[simp] theorem oTru_bl {b : Bool} : oTru (.bl b) st = .ok b st := rfl
@[simp] theorem oTru_int {k : Int} : oTru (.int k) st = .ok (k != 0) st := rfl
@[simp] theorem oTru_non : oTru .non st = .ok false st := rfl
@[simp] theorem oTru_tup {xs : List D} : oTru (.tup xs) st = .ok (!xs.isEmpty) st := rfl
@[simp] theorem tAnd_e : HM.tAnd ga gb τ st = (ga τ st).bind fun x s1 => if x then gb τ s1 else .ok false s1 := rfl
@[simp] theorem tOr_e : HM.tOr ga gb τ st = (ga τ st).bind fun x s1 => if x then .ok true s1 else gb τ s1 := rfl
@[simp] theorem tNot_e : HM.tNot ga τ st = (ga τ st).bind fun x s1 => .ok (!x) s1 := rfl
@[simp] theorem tYes_e : HM.tYes τ st = .ok true st := rfl
def oAndV (k : Store → ER D) (d : D) (st : Store) : ER D := match dTru st d with
  | some true => k st
  | some false => .ok d st
  | none => .bad
def oOrV (k : Store → ER D) (d : D) (st : Store) : ER D := match dTru st d with
  | some true => .ok d st
  | some false => k st
  | none => .bad
def oNotV (d : D) (st : Store) : ER D := match dTru st d with
  | some b => .ok (.bl !b) st
  | none => .bad
@[simp] theorem eAnd_e : eAnd fa fb τ st = (fa τ st).bind (oAndV (fb τ)) := rfl
@[simp] theorem eOr_e : eOr fa fb τ st = (fa τ st).bind (oOrV (fb τ)) := rfl
@[simp] theorem eNot_e : eNot fa τ st = (fa τ st).bind oNotV := rfl
@[simp] theorem oAndV_bl {k : Store → ER D} {b : Bool} : oAndV k (.bl b) st = if b then k st else .ok (.bl false) st := by cases b <;> rfl
@[simp] theorem oOrV_bl {k : Store → ER D} {b : Bool} : oOrV k (.bl b) st = if b then .ok (.bl true) st else k st := by cases b <;> rfl
@[simp] theorem oNotV_bl {b : Bool} : oNotV (.bl b) st = .ok (.bl !b) st := rfl
@[simp] theorem eIf_e : eIf ga fa fb τ st = (ga τ st).bind fun x s1 => if x then fa τ s1 else fb τ s1 := rfl
@[simp] theorem aNil_e : aNil τ st = .ok [] st := rfl
@[simp] theorem aCons_e : aCons f fs τ st = (f τ st).bind fun x s1 => (fs τ s1).bind fun xs s2 => .ok (x :: xs) s2 := rfl
@[simp] theorem eTup_e : eTup fs τ st = (fs τ st).bind fun xs s1 => if xs.length ≤ 16777216 then .ok (.tup xs) s1 else .bad := rfl
@[simp] theorem eLst_e : eLst fs τ st = (fs τ st).bind fun xs s1 => if xs.length ≤ 16777216 then .ok (.ref s1.length) (s1 ++ [.lst xs]) else .bad := rfl
@[simp] theorem eCall_e {mf : FM} : eCall n mf fs τ st = (fs τ st).bind fun ds s1 => if ds.length = n then mf ds s1 else .bad := rfl
@[simp] theorem eCB_e {mf : FM} : eCB mf fs τ st = (fs τ st).bind mf := rfl
@[simp] theorem eCS_e {g : SM1} : eCS g fs τ st = (fs τ st).bind g := rfl
@[simp] theorem eEl_e : eEl fs τ st = (fs τ st).bind fun ds s1 => .ok (.ref s1.length) (s1 ++ [.lst ds]) := rfl
def oSeq (d : D) (st : Store) : ER (List D) := match dSeq st d with
  | some xs => .ok xs st
  | none => .bad
@[simp] theorem sEx_e : sEx f τ st = (f τ st).bind oSeq := rfl
@[simp] theorem oSeq_tup {xs : List D} : oSeq (.tup xs) st = .ok xs st := rfl
@[simp] theorem oSeq_rol {xs : List D} : oSeq (.rol xs) st = .ok xs st := rfl
@[simp] theorem eChain_e {o o' : O2} : eChain o o' fa fb fc τ st = (fa τ st).bind fun x s1 => (fb τ s1).bind fun y s2 => (o x y s2).bind fun z s3 => match z with
  | .bl true => (fc τ s3).bind fun w s4 => o' y w s4
  | .bl false => .ok (.bl false) s3
  | _ => .bad := rfl
/-! values -/
@[simp] theorem oAdd_int {i j : Int} : oAdd (.int i) (.int j) st = .ok (.int (i + j)) st := rfl
@[simp] theorem oIAdd_int {i j : Int} : oIAdd (.int i) (.int j) st = .ok (.int (i + j)) st := rfl
@[simp] theorem oAdd_str {a b : List Nat} : oAdd (.str a) (.str b) st = if a.length + b.length ≤ 16777216 then .ok (.str (a ++ b)) st else .bad := rfl
@[simp] theorem oAdd_tup {a b : List D} : oAdd (.tup a) (.tup b) st = if a.length + b.length ≤ 16777216 then .ok (.tup (a ++ b)) st else .bad := rfl
@[simp] theorem oInt_e {i j : Int} {k : Int → Int → Int} : oInt k (.int i) (.int j) st = .ok (.int (k i j)) st := rfl
@[simp] theorem oIntC_e {i j : Int} {C : Int → Int → Bool} {k : Int → Int → Int} (hc : C i j = true) : oIntC C k (.int i) (.int j) st = .ok (.int (k i j)) st := by
  show (if C i j = true then _ else _) = _
  rw [if_pos hc]
@[simp] theorem oCmp_e {i j : Int} {k : Int → Int → Bool} : oCmp k (.int i) (.int j) st = .ok (.bl (k i j)) st := rfl
@[simp] theorem oNeg_e {i : Int} : oNeg (.int i) st = .ok (.int (-i)) st := rfl
@[simp] theorem oEq_int {i j : Int} : oEq (.int i) (.int j) st = .ok (.bl (decide (i = j))) st := rfl
@[simp] theorem oNe_int {i j : Int} : oNe (.int i) (.int j) st = .ok (.bl !(decide (i = j))) st := rfl
@[simp] theorem oEq_str {a b : List Nat} : oEq (.str a) (.str b) st = .ok (.bl (decide (a = b))) st := rfl
@[simp] theorem oNe_str {a b : List Nat} : oNe (.str a) (.str b) st = .ok (.bl !(decide (a = b))) st := rfl
@[simp] theorem oEq_bl {a b : Bool} : oEq (.bl a) (.bl b) st = .ok (.bl (decide (a = b))) st := rfl
@[simp] theorem oNe_bl {a b : Bool} : oNe (.bl a) (.bl b) st = .ok (.bl !(decide (a = b))) st := rfl
@[simp] theorem oEq_tup {a b : List D} (ha : (D.tup a).plain 60 = true) (hb : (D.tup b).plain 60 = true) : oEq (.tup a) (.tup b) st = .ok (.bl (decide (a = b))) st := by
  simp [oEq, dEq, D.pd, ha, hb]
@[simp] theorem oNe_tup {a b : List D} (ha : (D.tup a).plain 60 = true) (hb : (D.tup b).plain 60 = true) : oNe (.tup a) (.tup b) st = .ok (.bl !(decide (a = b))) st := by
  simp [oNe, dEq, D.pd, ha, hb]
@[simp] theorem plain_tup {n : Nat} {xs : List D} : (D.tup xs).plain (n + 1) = xs.all (D.plain n) := rfl
@[simp] theorem plain_int {n : Nat} {k : Int} : (D.int k).plain n = true := by cases n <;> rfl
@[simp] theorem plain_non {n : Nat} : D.non.plain n = true := by cases n <;> rfl
@[simp] theorem plain_str {n : Nat} {x : List Nat} : (D.str x).plain n = x.all fun c => decide (c < 1114112) := by cases n <;> rfl
@[simp] theorem oIs_bl {a b : Bool} : oIs (.bl a) (.bl b) st = .ok (.bl (decide (a = b))) st := rfl
@[simp] theorem oIsNot_bl {a b : Bool} : oIsNot (.bl a) (.bl b) st = .ok (.bl !(decide (a = b))) st := rfl
@[simp] theorem oIs_non : oIs .non .non st = .ok (.bl true) st := rfl
@[simp] theorem oIs_int {i : Int} : oIs (.int i) .non st = .ok (.bl false) st := rfl
@[simp] theorem oIs_tup {xs : List D} : oIs (.tup xs) .non st = .ok (.bl false) st := rfl
@[simp] theorem oIsNot_non : oIsNot .non .non st = .ok (.bl false) st := rfl
@[simp] theorem oIsNot_int {i : Int} : oIsNot (.int i) .non st = .ok (.bl true) st := rfl
@[simp] theorem oIsNot_tup {xs : List D} : oIsNot (.tup xs) .non st = .ok (.bl true) st := rfl
def ofO (st : Store) : Option D → ER D
  | some d => .ok d st
  | none => .bad
@[simp] theorem ofO_some : ofO st (some d) = .ok d st := rfl
@[simp] theorem oIx_tup {xs : List D} {k : Int} : oIx (.tup xs) (.int k) st = ofO st (atI xs k) := by
  unfold oIx oIxS ofO
  simp only <;> (split <;> simp_all)
theorem oIx_ref {xs : List D} {m : Nat} {k : Int} (hh : lstAt st m = some xs) : oIx (.ref m) (.int k) st = ofO st (atI xs k) := by
  unfold oIx oIxS ofO
  simp only [dct_lst hh, hh] <;> (split <;> simp_all)
/-- d[k] -/
theorem oIx_dct {kvs : List (D × D)} {m : Nat} {k d : D} (hh : dctAt st m = some kvs) (hf : keyFit kvs k = true) (hg : dGet kvs k = some d) : oIx (.ref m) k st = .ok d st := by
  unfold oIx
  simp only [hh, hf, hg, if_true]
@[simp] theorem oLt_int {i j : Int} : oLt (.int i) (.int j) st = .ok (.bl (decide (i < j))) st := rfl
@[simp] theorem eDct_e : eDct τ st = .ok (.ref st.length) (st ++ [.dct []]) := rfl
@[simp] theorem atI_0 {α : Type} {x : α} {xs : List α} : atI (x :: xs) 0 = some x := by simp [atI, ixN]
@[simp] theorem atI_1 {α : Type} {x y : α} {xs : List α} : atI (x :: y :: xs) 1 = some y := atI_nat (j := 1) rfl
@[simp] theorem atI_2 {α : Type} {x y z : α} {xs : List α} : atI (x :: y :: z :: xs) 2 = some z := atI_nat (j := 2) rfl
@[simp] theorem atI_3 {α : Type} {x y z w : α} {xs : List α} : atI (x :: y :: z :: w :: xs) 3 = some w := atI_nat (j := 3) rfl
/-! built-ins -/
@[simp] theorem fInt_int {i : Int} : fInt [.int i] st = .ok (.int i) st := rfl
@[simp] theorem fInt_bl {b : Bool} : fInt [.bl b] st = .ok (.int (if b then 1 else 0)) st := rfl
@[simp] theorem fAbs_e {i : Int} : fAbs [.int i] st = .ok (.int (i.natAbs : Nat)) st := rfl
@[simp] theorem fGcd_e {i j : Int} : fGcd [.int i, .int j] st = .ok (.int (Nat.gcd i.natAbs j.natAbs : Nat)) st := rfl
@[simp] theorem fLen_tup {xs : List D} : fLen [.tup xs] st = .ok (.int xs.length) st := rfl
@[simp] theorem fLen_rol {xs : List D} : fLen [.rol xs] st = .ok (.int xs.length) st := rfl
theorem fLen_ref {xs : List D} {m : Nat} (hh : lstAt st m = some xs) : fLen [.ref m] st = .ok (.int xs.length) st := by simp [fLen, fLenS, dSeq, hh, dct_lst hh]
theorem fLen_dct {kvs : List (D × D)} {m : Nat} (hh : dctAt st m = some kvs) : fLen [.ref m] st = .ok (.int kvs.length) st := by simp [fLen, hh]
@[simp] theorem fTuple_tup {xs : List D} : fTuple [.tup xs] st = .ok (.tup xs) st := rfl
theorem fTuple_ref {xs : List D} {m : Nat} (hh : lstAt st m = some xs) : fTuple [.ref m] st = .ok (.tup xs) st := by simp [fTuple, dSeq, hh]
@[simp] theorem gTuple_e {xs : List D} : gTuple xs st = .ok (.tup xs) st := rfl
@[simp] theorem gLen_e {xs : List D} : gLen xs st = .ok (.int xs.length) st := rfl
@[simp] theorem fMin2_e {i j : Int} : fMin2 [.int i, .int j] st = .ok (.int (if j < i then j else i)) st := rfl
@[simp] theorem fMax2_e {i j : Int} : fMax2 [.int i, .int j] st = .ok (.int (if j > i then j else i)) st := rfl
theorem fIsi_e {t c : String} {b : Bool} (h1 : dTy st d = some t) (h2 : isiT t c = some b) : fIsi [d, .ty c] st = .ok (.bl b) st := by simp [fIsi, h1, h2]
theorem isi1 : isiT "int" "int" = some true := by decide +kernel
theorem isi2 : isiT "int" "bool" = some false := by decide +kernel
theorem isi3 : isiT "bool" "int" = some true := by decide +kernel
theorem isi4 : isiT "bool" "bool" = some true := by decide +kernel
theorem isi5 : isiT "tuple" "tuple" = some true := by decide +kernel
theorem isi6 : isiT "tuple" "int" = some false := by decide +kernel
theorem isi7 : isiT "str" "str" = some true := by decide +kernel
theorem isi8 : isiT "str" "int" = some false := by decide +kernel
theorem isi9 : isiT "NoneType" "int" = some false := by decide +kernel
@[simp] theorem fIsi_ii {i : Int} : fIsi [.int i, .ty "int"] st = .ok (.bl true) st := fIsi_e rfl isi1
@[simp] theorem fIsi_ib {i : Int} : fIsi [.int i, .ty "bool"] st = .ok (.bl false) st := fIsi_e rfl isi2
@[simp] theorem fIsi_bi {i : Bool} : fIsi [.bl i, .ty "int"] st = .ok (.bl true) st := fIsi_e rfl isi3
@[simp] theorem fIsi_bb {i : Bool} : fIsi [.bl i, .ty "bool"] st = .ok (.bl true) st := fIsi_e rfl isi4
@[simp] theorem fIsi_tt {xs : List D} : fIsi [.tup xs, .ty "tuple"] st = .ok (.bl true) st := fIsi_e rfl isi5
@[simp] theorem fIsi_ti {xs : List D} : fIsi [.tup xs, .ty "int"] st = .ok (.bl false) st := fIsi_e rfl isi6
@[simp] theorem fIsi_ss {x : List Nat} : fIsi [.str x, .ty "str"] st = .ok (.bl true) st := fIsi_e rfl isi7
@[simp] theorem fIsi_si {x : List Nat} : fIsi [.str x, .ty "int"] st = .ok (.bl false) st := fIsi_e rfl isi8
@[simp] theorem fIsi_ni : fIsi [.non, .ty "int"] st = .ok (.bl false) st := fIsi_e rfl isi9
/-! statements -/
def SR.seq (r : SR) (k : SM) : SR := match r with
  | .nx τ s => k τ s
  | r => r
@[simp] theorem seq_nx {k : SM} : (SR.nx τ st).seq k = k τ st := rfl
@[simp] theorem seq_rt {k : SM} : (SR.rt d st).seq k = .rt d st := rfl
@[simp] theorem seq_bad {k : SM} : SR.bad.seq k = .bad := rfl
@[simp] theorem seq_exc {x : Xc} {k : SM} : (SR.exc x τ st).seq k = .exc x τ st := rfl
@[simp] theorem seq_bk {k : SM} : (SR.bk τ st).seq k = .bk τ st := rfl
@[simp] theorem seq_ct {k : SM} : (SR.ct τ st).seq k = .ct τ st := rfl
@[simp] theorem sSeq_e : sSeq u v τ st = (u τ st).seq v := by
  unfold sSeq SR.seq
  rfl
@[simp] theorem sNil_e : sNil τ st = .nx τ st := rfl
@[simp] theorem sIf_e : sIf ga u v τ st = bindE (ga τ st) τ fun b s1 => if b then u τ s1 else v τ s1 := rfl
@[simp] theorem sSet_e : sSet i fe τ st = bindE (fe τ st) τ fun d s1 => .nx (τ.set i (some d)) s1 := rfl
@[simp] theorem sRet_e : sRet fe τ st = bindE (fe τ st) τ fun d s1 => .rt d s1 := rfl
@[simp] theorem sRetN_e : sRetN τ st = .rt .non st := rfl
@[simp] theorem sExpr_e : sExpr fe τ st = bindE (fe τ st) τ fun _ s1 => .nx τ s1 := rfl
@[simp] theorem sRaise_e {x : Xc} : sRaise x τ st = .exc x τ st := rfl
@[simp] theorem sBrk_e : sBrk τ st = .bk τ st := rfl
@[simp] theorem sCnt_e : sCnt τ st = .ct τ st := rfl
@[simp] theorem bindE_bind {r : ER α} {k : α → Store → ER β} {k' : β → Store → SR} : bindE (r.bind k) τ k' = bindE r τ fun a s => bindE (k a s) τ k' := by cases r <;> rfl
@[simp] theorem bind_bind {γ : Type} {r : ER α} {k : α → Store → ER β} {k' : β → Store → ER γ} : (r.bind k).bind k' = r.bind fun a s => (k a s).bind k' := by cases r <;> rfl
@[simp] theorem bind_ite {c : Prop} [Decidable c] {r r' : ER α} {k : α → Store → ER β} : (if c then r else r').bind k = if c then r.bind k else r'.bind k := by split <;> rfl
@[simp] theorem bindE_ite {c : Prop} [Decidable c] {r r' : ER α} {k : α → Store → SR} : bindE (if c then r else r') τ k = if c then bindE r τ k else bindE r' τ k := by split <;> rfl
def SR.fin : SR → ER D
  | .nx _ s => .ok .non s
  | .rt d s => .ok d s
  | .exc x _ s => .exc x s
  | _ => .bad
@[simp] theorem fin_nx : (SR.nx τ st).fin = .ok .non st := rfl
@[simp] theorem fin_rt : (SR.rt d st).fin = .ok d st := rfl
@[simp] theorem fin_exc {x : Xc} : (SR.exc x τ st).fin = .exc x st := rfl
@[simp] theorem fin_bad : SR.bad.fin = .bad := rfl
theorem runB_e {ds : List D} : runB n u ds st = (u (ent n ds) st).fin := rfl
@[simp] theorem fin_ite {c : Prop} [Decidable c] {r r' : SR} : (if c then r else r').fin = if c then r.fin else r'.fin := by split <;> rfl
@[simp] theorem seq_ite {c : Prop} [Decidable c] {r r' : SR} {k : SM} : (if c then r else r').seq k = if c then r.seq k else r'.seq k := by split <;> rfl
@[simp] theorem ent_0 : ent n [] = List.replicate n none := by simp [ent]
@[simp] theorem ent_cons {x : D} {xs : List D} : ent (n + 1) (x :: xs) = some x :: ent n xs := by
  simp [ent]
end
end HM

/-! HM, part T: lists written to, loops, the draws' store. -/
namespace HM
open PySem PySem.Spec PyProof.Rows L2
section
variable {α β : Type} {τ : Sl} {st : Store} {f g h fa fb fc fe fo fi : EM D} {fs : EM (List D)} {ga gb : EM Bool} {i n m : Nat} {d v : D} {xs ys : List D} {u w : SM}
theorem lstAt_set (hh : lstAt st n = some xs) : lstAt (st.set n (.lst ys)) n = some ys := by
  have : n < st.length := by
    unfold lstAt at hh
    split at hh
    · rename_i e
      exact (List.getElem?_eq_some_iff.mp e).1
    · cases hh
  simp [lstAt, this]
theorem lstAt_ne {c : Cell} (hh : m ≠ n) : lstAt (st.set n c) m = lstAt st m := by
  unfold lstAt
  rw [List.getElem?_set_ne (Ne.symm hh)]
theorem oSet_ref {k : Int} {j : Nat} (hh : lstAt st m = some xs) (hj : ixN xs.length k = some j) : oSet (.ref m) (.int k) v st = some (st.set m (.lst (xs.set j v))) := by
  simp [oSet, oSetS, dct_lst hh, hh, hj]
theorem oSet_dct {kvs : List (D × D)} {k : D} (hh : dctAt st m = some kvs) (hf : keyFit kvs k = true) (hl : kvs.length < 16777216) : oSet (.ref m) k v st = some (st.set m (.dct (dPut kvs k v))) := by
  simp [oSet, hh, hf, hl]
theorem oGetL_ref {k : Int} (hh : lstAt st m = some xs) : oGetL (.ref m) (.int k) st = ofO st (atI xs k) := by
  unfold oGetL oGetLS ofO
  simp only [dct_lst hh, hh] <;> (split <;> simp_all)
def ofS (τ : Sl) : Option Store → SR
  | some s => .nx τ s
  | none => .bad
@[simp] theorem ofS_some : ofS τ (some st) = .nx τ st := rfl
@[simp] theorem sSub_e : sSub fo fi fe τ st = bindE (fe τ st) τ fun v s1 => bindE (fo τ s1) τ fun o s2 => bindE (fi τ s2) τ fun i s3 => ofS τ (oSet o i v s3) := by
  unfold sSub ofS
  rfl
@[simp] theorem sAugS_e {o : O2} : sAugS o fo fi fe τ st = bindE (fo τ st) τ fun x s1 => bindE (fi τ s1) τ fun i s2 => bindE (oGetL x i s2) τ fun y s3 => bindE (fe τ s3) τ fun z s4 => bindE (o y z s4) τ fun v s5 => ofS τ (oSet x i v s5) := by
  unfold sAugS ofS
  rfl
theorem sAug_e {o : O2} (hh : τ[i]? = some (some d)) : sAug i o fe τ st = bindE (fe τ st) τ fun y s1 => bindE (o d y s1) τ fun z s2 => .nx (τ.set i (some z)) s2 := by
  unfold sAug
  rw [hh]
def ofA (set : D → Sl → Option Sl) (τ : Sl) (d : D) (st : Store) : SR := match set d τ with
  | some τ1 => .nx τ1 st
  | none => .bad
@[simp] theorem sAsg_e {set : D → Sl → Option Sl} : sAsg set fe τ st = bindE (fe τ st) τ (ofA set τ) := rfl
@[simp] theorem okMul_l {i j : Int} (hh : i.natAbs < 18446744073709551616) : okMul i j = true := decide_eq_true (.inl (.inl hh))
@[simp] theorem okMul_r {i j : Int} (hh : j.natAbs < 18446744073709551616) : okMul i j = true := decide_eq_true (.inl (.inr hh))
theorem okMod_of {i j : Int} (hh : j ≠ 0) : okMod i j = true := decide_eq_true hh
theorem okDiv_of {i j : Int} (hh : j ≠ 0) (h2 : j.natAbs.log2 < 9000) : okDiv i j = true := decide_eq_true ⟨hh, h2⟩
theorem log2_le {x k : Nat} (h : x < 2 ^ k) : x.log2 ≤ k := by
  by_cases z : x = 0
  · subst z
    exact Nat.zero_le _
  · exact Nat.le_of_lt ((Nat.log2_lt z).mpr h)
/-! for loops -/
theorem sFor_e {fi : EM Sq} {set : D → Sl → Option Sl} : sFor fi set u τ st = bindE (fi τ st) τ fun q s1 => forL q set u q.items τ s1 := rfl
def ofQ (st : Store) : Option Sq → ER Sq
  | some q => .ok q st
  | none => .bad
@[simp] theorem ofQ_some {q : Sq} : ofQ st (some q) = .ok q st := rfl
@[simp] theorem iEx_e : iEx f τ st = (f τ st).bind fun d s1 => ofQ s1 (dSq s1 d) := by
  unfold iEx ofQ
  rfl
@[simp] theorem dSq_tup : dSq st (.tup xs) = some (.fix xs) := rfl
@[simp] theorem dSq_rol : dSq st (.rol xs) = some (.fix xs) := rfl
theorem dSq_ref (hh : lstAt st n = some xs) : dSq st (.ref n) = some (.cell n xs) := by simp [dSq, hh]
@[simp] theorem items_fix : (Sq.fix xs).items = xs := rfl
@[simp] theorem items_cell : (Sq.cell n xs).items = xs := rfl
@[simp] theorem iEl_e : iEl fs τ st = (fs τ st).bind fun xs s1 => .ok (.fix xs) s1 := rfl
def rg1 (d : D) (st : Store) : ER Sq := match d with
  | .int j => if okRng j then .ok (.fix (rng 0 j)) st else .bad
  | _ => .bad
def rg2 (d e : D) (st : Store) : ER Sq := match d, e with
  | .int i, .int j => if okRng i && okRng j then .ok (.fix (rng i j)) st else .bad
  | _, _ => .bad
@[simp] theorem iRg1_e : iRg1 f τ st = (f τ st).bind rg1 := rfl
@[simp] theorem iRg2_e : iRg2 fa fb τ st = (fa τ st).bind fun d s1 => (fb τ s1).bind fun e s2 => rg2 d e s2 := rfl
theorem okRng_of {j : Int} (hh : j.natAbs < 4611686018427387904) : okRng j = true := decide_eq_true hh
theorem rg1_int {j : Int} (hh : j.natAbs < 4611686018427387904) : rg1 (.int j) st = .ok (.fix (rng 0 j)) st := by simp [rg1, okRng_of hh]
theorem rg2_int {i j : Int} (hi : i.natAbs < 4611686018427387904) (hh : j.natAbs < 4611686018427387904) : rg2 (.int i) (.int j) st = .ok (.fix (rng i j)) st := by simp [rg2, okRng_of hh, okRng_of hi]
/-- a loop, by an invariant -/
theorem for_inv {set : D → Sl → Option Sl} {q : Sq} (P : Nat → Sl → Store → Prop) (hc : ∀ k τ st, P k τ st → q.chk st = true) :
    ∀ (xs : List D) (k : Nat) (τ : Sl) (st : Store), P k τ st →
    (∀ i d τ st, xs[i]? = some d → P (k + i) τ st → ∃ τ1, set d τ = some τ1 ∧ ∃ τ2 s2, (u τ1 st = .nx τ2 s2 ∨ u τ1 st = .ct τ2 s2) ∧ P (k + i + 1) τ2 s2) →
    ∃ τ' st', forL q set u xs τ st = .nx τ' st' ∧ P (k + xs.length) τ' st'
  | [], k, τ, st, h0, _ => ⟨τ, st, by
      unfold forL
      rw [if_pos (hc _ _ _ h0)], h0⟩
  | d :: ds, k, τ, st, h0, hs => by
    obtain ⟨τ1, e1, τ2, s2, e2, h2⟩ := hs 0 d τ st rfl h0
    obtain ⟨τ', st', e3, h3⟩ := for_inv (q := q) P hc ds (k + 1) τ2 s2 h2 fun i d τ st hi hp => by
      have := hs (i + 1) d τ st hi (by rwa [show k + (i + 1) = k + 1 + i by omega])
      rwa [show k + (i + 1) + 1 = k + 1 + i + 1 by omega] at this
    refine ⟨τ', st', ?_, ?_⟩
    · unfold forL
      rw [if_pos (hc _ _ _ h0), e1]
      rcases e2 with e2 | e2 <;> simp only [e2, e3]
    · rw [List.length_cons]
      rwa [show k + (ds.length + 1) = k + 1 + ds.length by omega]
/-! comprehensions -/
def lc1 (own : List Nat) (set : D → Sl → Option Sl) (ft : EM Bool) (fe : EM D) (τ : Sl) (q : Sq) (st : Store) : ER (List D) := if q.items.length ≤ 16777216 then compL q set ft fe (wipeD τ own) q.items [] st else .bad
theorem lComp_e {own : List Nat} {fi : EM Sq} {set : D → Sl → Option Sl} {ft : EM Bool} : lComp own fi set ft fe τ st = (fi τ st).bind (lc1 own set ft fe τ) := rfl
/-- a comprehension without tests -/
theorem comp_inv {set : D → Sl → Option Sl} {q : Sq} (P : List D → Store → Prop) (hc : ∀ acc st, P acc st → q.chk st = true) :
    ∀ (xs acc : List D) (st : Store), P acc st →
    (∀ i d acc' st, xs[i]? = some d → acc'.length = acc.length + i → P acc' st → ∃ τ1, set d τ = some τ1 ∧ ∃ x s2, fe τ1 st = .ok x s2 ∧ P (acc' ++ [x]) s2) →
    ∃ ys st', compL q set tYes fe τ xs acc st = .ok ys st' ∧ P ys st' ∧ ys.length = acc.length + xs.length
  | [], acc, st, h0, _ => ⟨acc, st, by
      unfold compL
      rw [if_pos (hc _ _ h0)], h0, rfl⟩
  | d :: ds, acc, st, h0, hs => by
    obtain ⟨τ1, e1, x, s2, e2, h2⟩ := hs 0 d acc st rfl rfl h0
    obtain ⟨ys, st', e3, h3, h4⟩ := comp_inv (q := q) P hc ds (acc ++ [x]) s2 h2 fun i d acc' st hi ha hp => hs (i + 1) d acc' st hi (by simp at ha; omega) hp
    refine ⟨ys, st', ?_, h3, by simp at h4; simp; omega⟩
    unfold compL
    rw [if_pos (hc _ _ h0), e1]
    simp only [tYes, ER.bindN_ok, if_true, e2]
    exact e3
end
/-! the draws' store: cell 0 holds the script's numbers, cell 1 the place -/
structure DS (ns : List Int) (st : Store) : Prop where
  c0 : lstAt st 0 = some (ns.map D.int)
  c1 : ∃ p h q : Int, 0 ≤ p ∧ lstAt st 1 = some [.ref 0, .int p, .int h, .int q]
/-- what a draw may change -/
structure Fr (a b : Store) : Prop where
  len : a.length ≤ b.length
  at' : ∀ n, n ≠ 1 → n < a.length → b[n]? = a[n]?
theorem Fr.refl {a : Store} : Fr a a := ⟨Nat.le_refl _, fun _ _ _ => rfl⟩
theorem Fr.trans {a b c : Store} (x : Fr a b) (y : Fr b c) : Fr a c := ⟨Nat.le_trans x.len y.len, fun n h1 h2 => (y.at' n h1 (Nat.lt_of_lt_of_le h2 x.len)).trans (x.at' n h1 h2)⟩
theorem Fr.lst {a b : Store} {n : Nat} {xs : List D} (x : Fr a b) (h : lstAt a n = some xs) (hn : n ≠ 1) : lstAt b n = some xs := by
  have := x.at' n hn (lstAt_lt h)
  unfold lstAt at h ⊢
  rwa [this]
theorem Fr.app {a : Store} {c : Cell} : Fr a (a ++ [c]) := ⟨by simp, fun n _ h => by rw [List.getElem?_append_left h]⟩
theorem DS.app {ns : List Int} {st : Store} {c : Cell} (h : DS ns st) : DS ns (st ++ [c]) := by
  obtain ⟨c0, p, hh, q, hp, c1⟩ := h
  exact ⟨by rw [lstAt_left (lstAt_lt c0)]; exact c0, p, hh, q, hp, by rw [lstAt_left (lstAt_lt c1)]; exact c1⟩
end HM

/-! HM, part U: how the mirrors of parts 10 to 12 are computed. -/
namespace HM
open PySem PySem.Spec PyProof.Rows L2
section
variable {τ : Sl} {st : Store} {f g fo fi : EM D} {fs : EM (List D)} {fl fh : EM (Option Int)} {i n m : Nat} {d v x : D} {xs ys : List D}
@[simp] theorem eM_e {T : String} {g : MM} : eM T g fo fs τ st = (fo τ st).bind fun d s1 => if okT T s1 d then (fs τ s1).bind fun ds s2 => g d ds s2 else .bad := rfl
theorem okT_ref (hh : lstAt st n = some xs) : okT "list" st (.ref n) = true := by simp [okT, hh]
@[simp] theorem okT_str {z : List Nat} : okT "str" st (.str z) = true := rfl
theorem mAppend_ref (hh : lstAt st n = some xs) (hl : xs.length < 16777216) : mAppend (.ref n) [x] st = .ok .non (st.set n (.lst (xs ++ [x]))) := by simp [mAppend, hh, hl]
theorem mInsert_ref {k : Nat} (hh : lstAt st n = some xs) (hl : xs.length < 16777216) (hk : k < 9223372036854775808) : mInsert (.ref n) [.int k, x] st = .ok .non (st.set n (.lst (xs.take k ++ [x] ++ xs.drop k))) := by
  have h2 : okIx (k : Int) = true := decide_eq_true (by omega)
  simp [mInsert, hh, hl, h2]
theorem mExtend_ref (hh : lstAt st n = some xs) (h2 : lstAt st m = some ys) (hl : xs.length + ys.length ≤ 16777216) : mExtend (.ref n) [.ref m] st = .ok .non (st.set n (.lst (xs ++ ys))) := by simp [mExtend, hh, h2, hl]
theorem mPop_ref (hh : lstAt st n = some (xs ++ [x])) : mPop (.ref n) [] st = .ok x (st.set n (.lst xs)) := by simp [mPop, hh]
theorem mJoin_tup {a : List Nat} {ys : List (List Nat)} (hl : (ys.map List.length).sum + ys.length * a.length ≤ 16777216) : mJoin (.str a) [.tup (ys.map D.str)] st = .ok (.str (joinD a ys)) st := by
  simp [mJoin, dSeq, strsD_map, hl]
theorem mJoin_ref {a : List Nat} {ys : List (List Nat)} (hh : lstAt st n = some (ys.map D.str)) (hl : (ys.map List.length).sum + ys.length * a.length ≤ 16777216) : mJoin (.str a) [.ref n] st = .ok (.str (joinD a ys)) st := by
  simp [mJoin, dSeq, hh, strsD_map, hl]
def ofB (st : Store) : Option Bool → ER D
  | some b => .ok (.bl b) st
  | none => .bad
@[simp] theorem ofB_some {b : Bool} : ofB st (some b) = .ok (.bl b) st := rfl
@[simp] theorem oIn_e : oIn x v st = ofB st (dIn x v st) := by
  unfold oIn ofB
  rfl
@[simp] theorem oNotIn_e : oNotIn x v st = ofB st ((dIn x v st).map fun b => !b) := by
  unfold oNotIn ofB
  cases dIn x v st <;> rfl
@[simp] theorem dIn_sign {c : Nat} {z : List Nat} : dIn (.str [c]) (.str z) st = some (decide (c ∈ z)) := rfl
theorem dIn_S (hy : dSeq st v = some ys) : dIn x v st = dInS x v st := by
  unfold dIn
  cases v with
  | ref n => simp only [dct_lst (show lstAt st n = some ys from hy)]
  | _ => rfl
theorem dIn_dct {kvs : List (D × D)} (hh : dctAt st n = some kvs) (hf : keyFit kvs x = true) : dIn x (.ref n) st = some (dGet kvs x).isSome := by
  unfold dIn
  simp only [hh, hf, if_true]
theorem dIn_flat (hy : dSeq st v = some ys) (h1 : x.flat = true) (h2 : ys.all D.flat = true) : dIn x v st = some (ys.any fun y => eqF y x) := by
  rw [dIn_S hy]
  unfold dInS
  split
  · rename_i c z
    cases hy
  · simp [hy, h1, h2]
@[simp] theorem dSeq_tup : dSeq st (.tup xs) = some xs := rfl
@[simp] theorem dSeq_rol : dSeq st (.rol xs) = some xs := rfl
theorem dSeq_ref (hh : lstAt st n = some xs) : dSeq st (.ref n) = some xs := hh
@[simp] theorem flat_int {k : Int} : (D.int k).flat = true := rfl
@[simp] theorem flat_str {k : List Nat} : (D.str k).flat = true := rfl
@[simp] theorem flat_bl {k : Bool} : (D.bl k).flat = true := rfl
@[simp] theorem flat_non : D.non.flat = true := rfl
@[simp] theorem eqF_int {a b : Int} : eqF (.int a) (.int b) = decide (a = b) := rfl
@[simp] theorem eqF_str {a b : List Nat} : eqF (.str a) (.str b) = decide (a = b) := rfl
@[simp] theorem dIn_tup {k : Int} : dIn (.int k) (.tup ys) st = if ys.all D.flat then some (ys.any fun y => eqF y (.int k)) else if ys.all (D.plain 59) then some (decide (D.int k ∈ ys)) else none := by
  simp [dIn, dInS, dSeq] <;> rfl
@[simp] theorem eSl_e : eSl f fl fh τ st = (f τ st).bind fun d s1 => (fl τ s1).bind fun l s2 => (fh τ s2).bind fun h s3 => dCut d l h s3 := rfl
@[simp] theorem oNone_e : oNone τ st = .ok none st := rfl
def ofI (d : D) (st : Store) : ER (Option Int) := match d with
  | .int i => .ok (some i) st
  | _ => .bad
@[simp] theorem ofI_int {k : Int} : ofI (.int k) st = .ok (some k) st := rfl
@[simp] theorem oSome_e : oSome f τ st = (f τ st).bind ofI := rfl
theorem sIx_n {n d k : Nat} : HT.sIx n d (some (k : Int)) = min k n := HT.sIx_nat n d k
@[simp] theorem sIx_0 {n d : Nat} : HT.sIx n d none = d := rfl
theorem dCut_str {z : List Nat} {lo hi : Option Int} (hz : z.length ≤ 16777216) : dCut (.str z) lo hi st = .ok (.str (cutD z lo hi)) st := by simp [dCut, hz]
theorem dCut_ref {lo hi : Option Int} (hh : lstAt st n = some xs) : dCut (.ref n) lo hi st = .ok (.ref st.length) (st ++ [.lst (cutD xs lo hi)]) := by simp [dCut, hh]
theorem cutD_nn {α : Type} {zs : List α} {a b : Nat} : cutD zs (some (a : Int)) (some (b : Int)) = (zs.drop (min a zs.length)).take (min b zs.length - min a zs.length) := by
  unfold cutD
  rw [sIx_n, sIx_n]
theorem cutD_to {α : Type} {zs : List α} {b : Nat} : cutD zs none (some (b : Int)) = zs.take b := by
  unfold cutD
  rw [sIx_n, sIx_0, List.drop_zero, Nat.sub_zero]
  exact PySem.W.kmk_take_min ..
theorem cutD_from {α : Type} {zs : List α} {a : Nat} : cutD zs (some (a : Int)) none = zs.drop a := by
  unfold cutD
  rw [sIx_n, sIx_0]
  rw [show zs.drop (min a zs.length) = zs.drop a from PySem.W.kmk_drop_min ..]
  refine List.take_of_length_le ?_
  rw [List.length_drop]
  omega
theorem gSum_ints {ns : List Int} : gSum (ns.map D.int) st = .ok (.int ns.sum) st := by simp [gSum, intsD_map]
theorem gAllB_bls {bs : List Bool} : gAllB (bs.map D.bl) st = .ok (.bl (bs.all id)) st := by simp [gAllB, blsD_map]
theorem gAnyB_bls {bs : List Bool} : gAnyB (bs.map D.bl) st = .ok (.bl (bs.any id)) st := by simp [gAnyB, blsD_map]
@[simp] theorem oMul_int {a b : Int} (hc : okMul a b = true) : oMul (.int a) (.int b) st = .ok (.int (a * b)) st := by simp [oMul, hc]
theorem oMul_str {z : List Nat} {k : Int} (h2 : 2 ≤ k) (hz : k ≤ 16777216) (hl : z.length * k.toNat ≤ 16777216) : oMul (.str z) (.int k) st = .ok (.str (repD k.toNat z)) st := by
  simp [oMul, h2, hz, hl]
theorem fLcm_W {a b : Int} (ha : a.natAbs < 2 ^ 9000) (hb : b.natAbs < 2 ^ 9000) : fLcm [.int a, .int b] st = .ok (.int (Nat.lcm a.natAbs b.natAbs : Nat)) st := by
  unfold fLcm
  simp only [decide_eq_true ha, decide_eq_true hb, Bool.and_self, if_true]
theorem fLcm_e {a b : Int} (ha : a.natAbs < 18446744073709551616) (hb : b.natAbs < 18446744073709551616) : fLcm [.int a, .int b] st = .ok (.int (Nat.lcm a.natAbs b.natAbs : Nat)) st :=
  fLcm_W (Nat.lt_of_lt_of_le ha (Nat.pow_le_pow_right (n := 2) (i := 64) (by decide) (by decide))) (Nat.lt_of_lt_of_le hb (Nat.pow_le_pow_right (n := 2) (i := 64) (by decide) (by decide)))
theorem fList_tup : fList [.tup xs] st = .ok (.ref st.length) (st ++ [.lst xs]) := rfl
theorem fList_ref (hh : lstAt st n = some xs) : fList [.ref n] st = .ok (.ref st.length) (st ++ [.lst xs]) := by simp [fList, dSeq, hh]
theorem sExL_e : sExL f τ st = (f τ st).bind fun d s1 => match dSeqL s1 d with
  | some xs => .ok xs s1
  | none => .bad := rfl
theorem oAdd_ref (hh : lstAt st n = some xs) (h2 : lstAt st m = some ys) (hl : xs.length + ys.length ≤ 16777216) : oAdd (.ref n) (.ref m) st = .ok (.ref st.length) (st ++ [.lst (xs ++ ys)]) := by simp [oAdd, hh, h2, hl]
theorem oIx_str {z : List Nat} {k : Nat} {c : Nat} (hz : z.length ≤ 16777216) (hk : z[k]? = some c) : oIx (.str z) (.int k) st = .ok (.str [c]) st := by
  have := atI_nat (xs := z) (j := k) (v := c) hk
  simp [oIx, oIxS, hz, this]
theorem fLen_str {z : List Nat} (hz : z.length ≤ 16777216) : fLen [.str z] st = .ok (.int z.length) st := by simp [fLen, fLenS, hz]
end
/-- a while loop, by an invariant with a measure -/
theorem while_inv {g : EM Bool} {u : SM} (P : Nat → Sl → Store → Prop) (Done : Sl → Store → Prop)
    (hs : ∀ n τ st, P n τ st → (∃ s1, g τ st = .ok false s1 ∧ Done τ s1) ∨ (∃ s1, g τ st = .ok true s1 ∧ ∃ τ2 s2, (u τ s1 = .nx τ2 s2 ∨ u τ s1 = .ct τ2 s2) ∧ ∃ m, m < n ∧ P m τ2 s2)) :
    ∀ (k n : Nat) (τ : Sl) (st : Store), n < k → P n τ st → ∃ τ' st', whileN g u k τ st = .nx τ' st' ∧ Done τ' st'
  | 0, _, _, _, h, _ => absurd h (Nat.not_lt_zero _)
  | k + 1, n, τ, st, h, hp => by
    unfold whileN
    rcases hs n τ st hp with ⟨s1, e, hd⟩ | ⟨s1, e, τ2, s2, e2, m, hm, hp2⟩
    · rw [e, bindE_ok, if_neg Bool.false_ne_true]
      exact ⟨τ, s1, rfl, hd⟩
    · rw [e, bindE_ok, if_pos rfl]
      obtain ⟨τ', st', e3, hd⟩ := while_inv P Done hs k m τ2 s2 (by omega) hp2
      refine ⟨τ', st', ?_, hd⟩
      rcases e2 with e2 | e2 <;> simp only [e2] <;> exact e3
/-- a comprehension that reads alone -/
theorem comp_map {α : Type} {q : Sq} {set : D → Sl → Option Sl} {fe : EM D} {τ : Sl} {st : Store} (hq : q.chk st = true) (g h : α → D) : ∀ (xs : List α) (acc : List D), (∀ a ∈ xs, ∃ τ1, set (g a) τ = some τ1 ∧ fe τ1 st = .ok (h a) st) → compL q set tYes fe τ (xs.map g) acc st = .ok (acc ++ xs.map h) st
  | [], acc, _ => by
    rw [List.map_nil, List.map_nil, List.append_nil]
    unfold compL
    rw [if_pos hq]
  | a :: xs, acc, hs => by
    obtain ⟨τ1, e1, e2⟩ := hs a (List.mem_cons_self ..)
    rw [List.map_cons]
    unfold compL
    rw [if_pos hq, e1]
    simp only [tYes, ER.bindN_ok, if_true, e2]
    rw [comp_map hq g h xs (acc ++ [h a]) fun b hb => hs b (List.mem_cons_of_mem _ hb), List.map_cons, List.append_assoc]
    rfl
/-- a loop that folds -/
theorem for_fold {α β : Type} {q : Sq} {set : D → Sl → Option Sl} {u : SM} {st : Store} (hq : q.chk st = true) (g : α → D) (F : β → α → β) (E : β → Option D → Sl) (I : β → Prop) : ∀ (xs : List α) (b : β) (t : Option D), I b →
    (∀ b t a, a ∈ xs → I b → I (F b a) ∧ ∃ τ1, set (g a) (E b t) = some τ1 ∧ u τ1 st = .nx (E (F b a) (some (g a))) st) → (∃ t', forL q set u (xs.map g) (E b t) st = .nx (E (xs.foldl F b) t') st) ∧ I (xs.foldl F b)
  | [], b, t, hI, _ => ⟨⟨t, by rw [List.map_nil, forL, if_pos hq]; rfl⟩, hI⟩
  | a :: xs, b, t, hI, hs => by
    obtain ⟨h1, τ1, e1, e2⟩ := hs b t a (List.mem_cons_self ..) hI
    obtain ⟨⟨t', e3⟩, h3⟩ := for_fold hq g F E I xs (F b a) (some (g a)) h1 fun b t a ha => hs b t a (List.mem_cons_of_mem _ ha)
    refine ⟨⟨t', ?_⟩, h3⟩
    rw [List.map_cons, forL, if_pos hq, e1]
    simp only [e2]
    exact e3
end HM

/-! HM, part V: growth of stores, comprehensions with tests, keyword calls. -/
namespace HM
open PySem PySem.Spec PyProof.Rows L2
section
variable {τ : Sl} {st : Store} {fs fk : EM (List D)} {n k np : Nat} {is : List Nat} {mf : FM}
@[simp] theorem eCallK_e : eCallK n k np is mf fs fk τ st = (fs τ st).bind fun ds s1 => (fk τ s1).bind fun es s2 => if ds.length = n ∧ es.length = k ∧ (arr is (ds ++ es)).length = np then mf (arr is (ds ++ es)) s2 else .bad := rfl
end
/-- cells are added alone -/
structure Gr (a b : Store) : Prop where
  ex : ∃ l, b = a ++ l
theorem Gr.refl {a : Store} : Gr a a := ⟨[], by simp⟩
theorem Gr.app {a : Store} {c : Cell} : Gr a (a ++ [c]) := ⟨[c], rfl⟩
theorem Gr.trans {a b c : Store} (x : Gr a b) (y : Gr b c) : Gr a c := by
  obtain ⟨l, rfl⟩ := x.ex
  obtain ⟨m, rfl⟩ := y.ex
  exact ⟨l ++ m, by simp⟩
theorem Gr.lst {a b : Store} {n : Nat} {xs : List D} (x : Gr a b) (h : lstAt a n = some xs) : lstAt b n = some xs := by
  obtain ⟨l, rfl⟩ := x.ex
  rw [lstAt_left (lstAt_lt h)]
  exact h
theorem Gr.fr {a b : Store} (x : Gr a b) : Fr a b := by
  obtain ⟨l, rfl⟩ := x.ex
  exact ⟨by simp, fun n _ h => by rw [List.getElem?_append_left h]⟩
theorem Gr.ds {a b : Store} {ns : List Int} (x : Gr a b) (H : DS ns a) : DS ns b := by
  obtain ⟨c0, p, h, q, hp, c1⟩ := H
  exact ⟨x.lst c0, p, h, q, hp, x.lst c1⟩
/-- the last cell is written -/
theorem Gr.put {a b : Store} {m : Nat} {c : Cell} (x : Gr a b) (h : a.length ≤ m) : Gr a (b.set m c) := by
  obtain ⟨l, rfl⟩ := x.ex
  exact ⟨l.set (m - a.length) c, List.set_append_right m c h⟩
theorem Gr.len {a b : Store} (x : Gr a b) : a.length ≤ b.length := by
  obtain ⟨l, rfl⟩ := x.ex
  simp
theorem DS.put2 {ns : List Int} {s : Store} {m : Nat} {c : Cell} (H : DS ns s) (h0 : m ≠ 0) (h1 : m ≠ 1) : DS ns (s.set m c) := by
  obtain ⟨c0, p, h, q, hp, c1⟩ := H
  exact ⟨by rw [lstAt_ne (Ne.symm h0)]; exact c0, p, h, q, hp, by rw [lstAt_ne (Ne.symm h1)]; exact c1⟩
theorem Fr.put2 {st s : Store} {m : Nat} {c : Cell} (F : Fr st s) (h : st.length ≤ m) : Fr st (s.set m c) :=
  ⟨by rw [List.length_set]; exact F.len, fun n h1 h2 => by rw [List.getElem?_set_ne (by omega)]; exact F.at' n h1 h2⟩
theorem DS.len {ns : List Int} {s : Store} (H : DS ns s) : 2 ≤ s.length := by
  obtain ⟨p, h, q, _, c1⟩ := H.c1
  exact lstAt_lt c1
theorem rng_eq (n : Nat) : rng 0 n = (List.range n).map fun k => D.int (k : Nat) := by
  unfold rng
  simp
theorem rng_mem {n : Nat} {i : Nat} {d : D} (h : (rng 0 n)[i]? = some d) : ∃ k : Nat, k < n ∧ d = .int k := by
  rw [rng_eq, List.getElem?_map] at h
  cases hx : (List.range n)[i]? with
  | none => rw [hx] at h; cases h
  | some a =>
    have := List.mem_range.mp (List.mem_of_getElem? hx)
    rw [hx] at h
    exact ⟨a, this, (Option.some.inj h).symm⟩
@[simp] theorem iZip_e {fa fb : EM D} {τ : Sl} {st : Store} : iZip fa fb τ st = (fa τ st).bind fun d s1 => (fb τ s1).bind fun e s2 => zip2 d e s2 := rfl
@[simp] theorem zip2_tup {xs ys : List D} {st : Store} : zip2 (.tup xs) (.tup ys) st = .ok (.fix (zipD xs ys)) st := rfl
def okRg (k : Int → Int → Store → ER D) (d : D) (st : Store) : ER D := match d with
  | .int j => k 0 j st
  | _ => .bad
@[simp] theorem eRg1_e {k : Int → Int → Store → ER D} {fa : EM D} {τ : Sl} {st : Store} : eRg1 k fa τ st = (fa τ st).bind (okRg k) := rfl
@[simp] theorem okRg_int {k : Int → Int → Store → ER D} {j : Int} {st : Store} : okRg k (.int j) st = k 0 j st := rfl
theorem rng_len {n : Nat} : (rng 0 (n : Nat)).length = n := by
  unfold rng
  simp
theorem lstAt_new {a : Store} {xs : List D} : lstAt (a ++ [.lst xs]) a.length = some xs := by simp [lstAt]
/-- a comprehension with a test -/
theorem comp_gen {q : Sq} {set : D → Sl → Option Sl} {ft : EM Bool} {fe : EM D} {τ : Sl} (P : Nat → List D → Store → Prop) (hc : ∀ k acc st, P k acc st → q.chk st = true) :
    ∀ (xs : List D) (k : Nat) (acc : List D) (st : Store), P k acc st →
    (∀ (i : Nat) (d : D) (acc' : List D) (st : Store), xs[i]? = some d → P (k + i) acc' st → ∃ τ1, set d τ = some τ1 ∧ ∃ b s1, ft τ1 st = .ok b s1 ∧ (b = false → P (k + i + 1) acc' s1) ∧ (b = true → ∃ x s2, fe τ1 s1 = .ok x s2 ∧ P (k + i + 1) (acc' ++ [x]) s2)) →
    ∃ ys st', compL q set ft fe τ xs acc st = .ok ys st' ∧ P (k + xs.length) ys st'
  | [], k, acc, st, h0, _ => ⟨acc, st, by
      unfold compL
      rw [if_pos (hc _ _ _ h0)], h0⟩
  | d :: ds, k, acc, st, h0, hs => by
    obtain ⟨τ1, e1, b, s1, e2, h2, h3⟩ := hs 0 d acc st rfl h0
    have next : ∀ acc s, P (k + 1) acc s → ∃ ys st', compL q set ft fe τ ds acc s = .ok ys st' ∧ P (k + (d :: ds).length) ys st' := fun acc s h => by
      rw [List.length_cons, show k + (ds.length + 1) = k + 1 + ds.length by omega]
      refine comp_gen P hc ds (k + 1) acc s h fun i d acc' st hi hp => ?_
      rw [show k + 1 + i = k + (i + 1) by omega] at hp ⊢
      exact hs (i + 1) d acc' st hi hp
    unfold compL
    rw [if_pos (hc _ _ _ h0), e1]
    simp only [e2, ER.bindN_ok]
    cases b with
    | false => exact next _ _ (h2 rfl)
    | true =>
      obtain ⟨x, s2, e3, h4⟩ := h3 rfl
      simp only [if_true, e3, ER.bindN_ok]
      exact next _ _ h4
/-- a comprehension with a test that reads alone -/
theorem comp_fil {α : Type} {q : Sq} {set : D → Sl → Option Sl} {ft : EM Bool} {fe : EM D} {τ : Sl} {st : Store} (hq : q.chk st = true) (g h : α → D) (p : α → Bool) : ∀ (xs : List α) (acc : List D), (∀ a ∈ xs, ∃ τ1, set (g a) τ = some τ1 ∧ ft τ1 st = .ok (p a) st ∧ (p a = true → fe τ1 st = .ok (h a) st)) → compL q set ft fe τ (xs.map g) acc st = .ok (acc ++ (xs.filter p).map h) st
  | [], acc, _ => by
    rw [List.map_nil, List.filter_nil, List.map_nil, List.append_nil]
    unfold compL
    rw [if_pos hq]
  | a :: xs, acc, hs => by
    obtain ⟨τ1, e1, e2, e3⟩ := hs a (List.mem_cons_self ..)
    have ih := fun acc => comp_fil hq g h p xs acc fun b hb => hs b (List.mem_cons_of_mem _ hb)
    rw [List.map_cons, List.filter_cons]
    unfold compL
    rw [if_pos hq, e1]
    simp only [e2, ER.bindN_ok]
    cases hp : p a with
    | false => simp only [Bool.false_eq_true, if_false]; exact ih acc
    | true =>
      simp only [if_true, e3 hp, ER.bindN_ok]
      rw [ih, List.map_cons, List.append_assoc]
      rfl
theorem forL_nil {set : D → Sl → Option Sl} {u : SM} {q : Sq} {τ : Sl} {st : Store} (hq : q.chk st = true) : forL q set u [] τ st = .nx τ st := by
  rw [forL, if_pos hq]
theorem forL_nx {set : D → Sl → Option Sl} {u : SM} {q : Sq} {τ τ1 τ2 : Sl} {st s2 : Store} {d : D} {ds : List D} (hq : q.chk st = true) (h1 : set d τ = some τ1) (h2 : u τ1 st = .nx τ2 s2) : forL q set u (d :: ds) τ st = forL q set u ds τ2 s2 := by
  rw [forL, if_pos hq, h1]
  simp only [h2]
theorem forL_ct {set : D → Sl → Option Sl} {u : SM} {q : Sq} {τ τ1 τ2 : Sl} {st s2 : Store} {d : D} {ds : List D} (hq : q.chk st = true) (h1 : set d τ = some τ1) (h2 : u τ1 st = .ct τ2 s2) : forL q set u (d :: ds) τ st = forL q set u ds τ2 s2 := by
  rw [forL, if_pos hq, h1]
  simp only [h2]
theorem forL_rt {set : D → Sl → Option Sl} {u : SM} {q : Sq} {τ τ1 : Sl} {st s2 : Store} {d x : D} {ds : List D} (hq : q.chk st = true) (h1 : set d τ = some τ1) (h2 : u τ1 st = .rt x s2) : forL q set u (d :: ds) τ st = .rt x s2 := by
  rw [forL, if_pos hq, h1]
  simp only [h2]
theorem forL_bk {set : D → Sl → Option Sl} {u : SM} {q : Sq} {τ τ1 τ2 : Sl} {st s2 : Store} {d : D} {ds : List D} (hq : q.chk st = true) (h1 : set d τ = some τ1) (h2 : u τ1 st = .bk τ2 s2) : forL q set u (d :: ds) τ st = .nx τ2 s2 := by
  rw [forL, if_pos hq, h1]
  simp only [h2]
theorem map_mem {α : Type} {f : α → D} {xs : List α} {i : Nat} {d : D} (h : (xs.map f)[i]? = some d) : ∃ a ∈ xs, d = f a := by
  rw [List.getElem?_map] at h
  cases hx : xs[i]? with
  | none => simp [hx] at h
  | some a => exact ⟨a, List.mem_of_getElem? hx, by simpa [hx] using h.symm⟩
theorem any_eqF {cs : List Int} {k : Int} : ((cs.map D.int).any fun y => eqF y (.int k)) = decide (k ∈ cs) := by
  induction cs with
  | nil => rfl
  | cons c cs ih =>
    rw [List.map_cons, List.any_cons, ih]
    by_cases h : k = c <;> simp [h, eq_comm]
theorem dIn_ints {cs : List Int} {k : Int} {st : Store} : dIn (.int k) (.tup (cs.map D.int)) st = some (decide (k ∈ cs)) := by
  rw [dIn_tup, if_pos, any_eqF]
  rw [List.all_eq_true]
  intro x hx
  obtain ⟨c, _, rfl⟩ := List.mem_map.mp hx
  rfl
end HM

/-! HM, part W: what holds behind a run. -/
namespace HM
open PySem PySem.Spec PyProof.Rows L2
section
variable {α β : Type} {r : ER α} {Q Q' : α → Store → Prop} {st : Store} {τ : Sl}
def W (r : ER α) (Q : α → Store → Prop) : Prop := match r with
  | .ok a s => Q a s
  | _ => False
def WS (r : SR) (N : Sl → Store → Prop) (R : D → Store → Prop) (B C : Sl → Store → Prop) : Prop := match r with
  | .nx τ s => N τ s
  | .rt d s => R d s
  | .bk τ s => B τ s
  | .ct τ s => C τ s
  | _ => False
theorem W.ex (h : W r Q) : ∃ a s, r = .ok a s ∧ Q a s := by
  cases r with
  | ok a s => exact ⟨a, s, rfl, h⟩
  | _ => exact h.elim
theorem W.of {a : α} {s : Store} (h : r = .ok a s) (q : Q a s) : W r Q := by rw [h]; exact q
theorem W.mono (h : W r Q) (i : ∀ a s, Q a s → Q' a s) : W r Q' := by
  cases r with
  | ok a s => exact i a s h
  | _ => exact h.elim
@[simp] theorem W_ok {a : α} {s : Store} : W (.ok a s) Q = Q a s := rfl
@[simp] theorem W_bad : W (.bad : ER α) Q = False := rfl
@[simp] theorem W_bind {k : α → Store → ER β} {Q : β → Store → Prop} : W (r.bind k) Q = W r fun a s => W (k a s) Q := by cases r <;> rfl
theorem W_ite {c : Prop} [Decidable c] {r' : ER α} : W (if c then r else r') Q = if c then W r Q else W r' Q := by split <;> rfl
section
variable {N : Sl → Store → Prop} {R : D → Store → Prop} {B C : Sl → Store → Prop}
@[simp] theorem WS_nx : WS (.nx τ st) N R B C = N τ st := rfl
@[simp] theorem WS_rt {d : D} : WS (.rt d st) N R B C = R d st := rfl
@[simp] theorem WS_bk : WS (.bk τ st) N R B C = B τ st := rfl
@[simp] theorem WS_ct : WS (.ct τ st) N R B C = C τ st := rfl
@[simp] theorem WS_bindE {k : α → Store → SR} : WS (bindE r τ k) N R B C = W r fun a s => WS (k a s) N R B C := by cases r <;> rfl
@[simp] theorem WS_seq {s : SR} {v : SM} : WS (s.seq v) N R B C = WS s (fun τ st => WS (v τ st) N R B C) R B C := by cases s <;> rfl
theorem WS_ite {c : Prop} [Decidable c] {a b : SR} : WS (if c then a else b) N R B C = if c then WS a N R B C else WS b N R B C := by split <;> rfl
@[simp] theorem W_fin {s : SR} {Q : D → Store → Prop} : W s.fin Q = WS s (fun _ st => Q .non st) Q (fun _ _ => False) (fun _ _ => False) := by cases s <;> rfl
theorem WS.mono {s : SR} {N' : Sl → Store → Prop} {R' : D → Store → Prop} {B' C' : Sl → Store → Prop} (h : WS s N R B C) (n : ∀ τ st, N τ st → N' τ st) (r : ∀ d st, R d st → R' d st) (b : ∀ τ st, B τ st → B' τ st) (c : ∀ τ st, C τ st → C' τ st) : WS s N' R' B' C' := by
  cases s with
  | nx τ s => exact n _ _ h
  | rt d s => exact r _ _ h
  | bk τ s => exact b _ _ h
  | ct τ s => exact c _ _ h
  | _ => exact h.elim
/-- a for loop -/
theorem ws_for {q : Sq} {set : D → Sl → Option Sl} {u : SM} (P : Nat → Sl → Store → Prop) (hc : ∀ k τ st, P k τ st → q.chk st = true) :
    ∀ (xs : List D) (k : Nat) (τ : Sl) (st : Store), P k τ st →
    (∀ i d τ st, xs[i]? = some d → P (k + i) τ st → ∃ τ1, set d τ = some τ1 ∧ WS (u τ1 st) (P (k + i + 1)) R N (P (k + i + 1))) →
    (∀ τ st, P (k + xs.length) τ st → N τ st) → WS (forL q set u xs τ st) N R B C
  | [], k, τ, st, h0, _, hN => by
    unfold forL
    rw [if_pos (hc _ _ _ h0)]
    exact hN _ _ h0
  | d :: ds, k, τ, st, h0, hs, hN => by
    obtain ⟨τ1, e1, h1⟩ := hs 0 d τ st rfl h0
    have rest := fun τ st h => ws_for (q := q) (set := set) (u := u) P hc ds (k + 1) τ st h (fun i d τ st hi hp => by
      have := hs (i + 1) d τ st hi (by rwa [show k + (i + 1) = k + 1 + i by omega])
      rwa [show k + (i + 1) + 1 = k + 1 + i + 1 by omega] at this) (fun τ st h => hN τ st (by rw [List.length_cons]; rwa [show k + (ds.length + 1) = k + 1 + ds.length by omega]))
    unfold forL
    rw [if_pos (hc _ _ _ h0), e1]
    simp only
    generalize u τ1 st = r at h1
    cases r with
    | nx τ s => exact rest τ s h1
    | ct τ s => exact rest τ s h1
    | bk τ s => exact h1
    | rt d s => exact h1
    | _ => exact h1.elim
/-- a for loop over given items -/
theorem ws_for0 {q : Sq} {set : D → Sl → Option Sl} {u : SM} {xs : List D} (P : Nat → Sl → Store → Prop) (hc : ∀ k τ st, P k τ st → q.chk st = true) (h0 : P 0 τ st)
    (hs : ∀ i d τ st, xs[i]? = some d → P i τ st → ∃ τ1, set d τ = some τ1 ∧ WS (u τ1 st) (P (i + 1)) R N (P (i + 1)))
    (hN : ∀ τ st, P xs.length τ st → N τ st) : WS (forL q set u xs τ st) N R B C :=
  ws_for P hc xs 0 τ st h0 (fun i d τ st hi hp => by
    rw [Nat.zero_add] at hp ⊢
    exact hs i d τ st hi hp) (fun τ st h => hN τ st (by rwa [Nat.zero_add] at h))
/-- a while loop -/
theorem ws_while {g : EM Bool} {u : SM} (P : Nat → Sl → Store → Prop)
    (hs : ∀ n τ st, P n τ st → W (g τ st) fun b s1 => if b then WS (u τ s1) (fun τ s => ∃ m, m < n ∧ P m τ s) R N (fun τ s => ∃ m, m < n ∧ P m τ s) else N τ s1) :
    ∀ (k n : Nat) (τ : Sl) (st : Store), n < k → P n τ st → WS (whileN g u k τ st) N R B C
  | 0, _, _, _, h, _ => absurd h (Nat.not_lt_zero _)
  | k + 1, n, τ, st, h, hp => by
    unfold whileN
    obtain ⟨b, s1, e, h1⟩ := (hs n τ st hp).ex
    rw [e, bindE_ok]
    cases b with
    | false => exact h1
    | true =>
      rw [if_pos rfl] at h1 ⊢
      generalize u τ s1 = r at h1
      cases r with
      | nx τ s =>
        obtain ⟨m, hm, hp2⟩ := h1
        exact ws_while P hs k m τ s (by omega) hp2
      | ct τ s =>
        obtain ⟨m, hm, hp2⟩ := h1
        exact ws_while P hs k m τ s (by omega) hp2
      | bk τ s => exact h1
      | rt d s => exact h1
      | _ => exact h1.elim
end
/-- a comprehension -/
theorem w_comp {q : Sq} {set : D → Sl → Option Sl} {ft : EM Bool} {fe : EM D} {Q : List D → Store → Prop} (P : Nat → List D → Store → Prop) (hc : ∀ k acc st, P k acc st → q.chk st = true) :
    ∀ (xs : List D) (k : Nat) (acc : List D) (st : Store), P k acc st →
    (∀ (i : Nat) (d : D) (acc' : List D) (st : Store), xs[i]? = some d → P (k + i) acc' st → ∃ τ1, set d τ = some τ1 ∧ W (ft τ1 st) fun b s1 => if b then W (fe τ1 s1) fun x s2 => P (k + i + 1) (acc' ++ [x]) s2 else P (k + i + 1) acc' s1) →
    (∀ acc st, P (k + xs.length) acc st → Q acc st) → W (compL q set ft fe τ xs acc st) Q
  | [], k, acc, st, h0, _, hQ => by
    unfold compL
    rw [if_pos (hc _ _ _ h0)]
    exact hQ _ _ h0
  | d :: ds, k, acc, st, h0, hs, hQ => by
    obtain ⟨τ1, e1, h1⟩ := hs 0 d acc st rfl h0
    obtain ⟨b, s1, e2, h2⟩ := h1.ex
    have rest := fun acc st h => w_comp (q := q) (set := set) (ft := ft) (fe := fe) P hc ds (k + 1) acc st h (fun i d acc' st hi hp => by
      have := hs (i + 1) d acc' st hi (by rwa [show k + (i + 1) = k + 1 + i by omega])
      rwa [show k + (i + 1) + 1 = k + 1 + i + 1 by omega] at this) (fun acc st h => hQ acc st (by rw [List.length_cons]; rwa [show k + (ds.length + 1) = k + 1 + ds.length by omega]))
    unfold compL
    rw [if_pos (hc _ _ _ h0), e1]
    simp only [e2, ER.bindN_ok]
    cases b with
    | false => exact rest _ _ h2
    | true =>
      rw [if_pos rfl] at h2
      obtain ⟨x, s2, e3, h3⟩ := h2.ex
      simp only [if_true, e3, ER.bindN_ok]
      exact rest _ _ h3
theorem w_comp0 {q : Sq} {set : D → Sl → Option Sl} {ft : EM Bool} {fe : EM D} {Q : List D → Store → Prop} {xs : List D} (P : Nat → List D → Store → Prop) (hc : ∀ k acc st, P k acc st → q.chk st = true) (h0 : P 0 [] st)
    (hs : ∀ (i : Nat) (d : D) (acc : List D) (st : Store), xs[i]? = some d → P i acc st → ∃ τ1, set d τ = some τ1 ∧ W (ft τ1 st) fun b s1 => if b then W (fe τ1 s1) fun x s2 => P (i + 1) (acc ++ [x]) s2 else P (i + 1) acc s1)
    (hQ : ∀ acc st, P xs.length acc st → Q acc st) : W (compL q set ft fe τ xs [] st) Q :=
  w_comp P hc xs 0 [] st h0 (fun i d acc st hi hp => by
    rw [Nat.zero_add] at hp ⊢
    exact hs i d acc st hi hp) (fun acc st h => hQ acc st (by rwa [Nat.zero_add] at h))
theorem w_lc {own : List Nat} {set : D → Sl → Option Sl} {ft : EM Bool} {fe : EM D} {q : Sq} {Q : List D → Store → Prop} (hl : q.items.length ≤ 16777216) (h : W (compL q set ft fe (wipeD τ own) q.items [] st) Q) : W (lc1 own set ft fe τ q st) Q := by
  unfold lc1
  rw [if_pos hl]
  exact h
/-- a comprehension that reads alone -/
theorem w_map {α : Type} {q : Sq} {set : D → Sl → Option Sl} {fe : EM D} {Q : List D → Store → Prop} {ds : List D} (g h : α → D) (xs : List α) (hd : ds = xs.map g) (hq : q.chk st = true) (hs : ∀ a ∈ xs, ∃ τ1, set (g a) τ = some τ1 ∧ W (fe τ1 st) fun d s => d = h a ∧ s = st) (hQ : Q (xs.map h) st) :
    W (compL q set tYes fe τ ds [] st) Q := by
  subst hd
  have e := comp_map (set := set) (fe := fe) (τ := τ) hq g h xs [] (fun a ha => by
    obtain ⟨τ1, e1, hw⟩ := hs a ha
    obtain ⟨d, s, e2, e3, e4⟩ := hw.ex
    rw [e3, e4] at e2
    exact ⟨τ1, e1, e2⟩)
  rw [e]
  exact hQ
/-- a comprehension with a test that reads alone -/
theorem w_fil {α : Type} {q : Sq} {set : D → Sl → Option Sl} {ft : EM Bool} {fe : EM D} {Q : List D → Store → Prop} {ds : List D} (g h : α → D) (p : α → Bool) (xs : List α) (hd : ds = xs.map g) (hq : q.chk st = true)
    (hs : ∀ a ∈ xs, ∃ τ1, set (g a) τ = some τ1 ∧ W (ft τ1 st) fun b s => b = p a ∧ s = st ∧ (b = true → W (fe τ1 st) fun d s => d = h a ∧ s = st)) (hQ : Q ((xs.filter p).map h) st) :
    W (compL q set ft fe τ ds [] st) Q := by
  subst hd
  have e := comp_fil (set := set) (ft := ft) (fe := fe) (τ := τ) hq g h p xs [] (fun a ha => by
    obtain ⟨τ1, e1, hw⟩ := hs a ha
    obtain ⟨b, s, e2, e3, e4, h3⟩ := hw.ex
    rw [e3, e4] at e2
    refine ⟨τ1, e1, e2, fun hb => ?_⟩
    obtain ⟨d, s, e5, e6, e7⟩ := (h3 (e3.trans hb)).ex
    rw [e6, e7] at e5
    exact e5)
  rw [e]
  exact hQ
/-- a loop that folds, the store as it is -/
theorem ws_fold {α β : Type} {q : Sq} {set : D → Sl → Option Sl} {u : SM} {ds : List D} {N : Sl → Store → Prop} {R : D → Store → Prop} {B C : Sl → Store → Prop} (g : α → D) (F : β → α → β) (E : β → Option D → Sl) (xs : List α) (b0 : β) (t0 : Option D) (hd : ds = xs.map g) (hτ : τ = E b0 t0) (hq : q.chk st = true)
    (hs : ∀ b t a, a ∈ xs → ∃ τ1, set (g a) (E b t) = some τ1 ∧ WS (u τ1 st) (fun τ s => (∃ t, τ = E (F b a) t) ∧ s = st) R (fun _ _ => False) (fun τ s => (∃ t, τ = E (F b a) t) ∧ s = st))
    (hN : ∀ t, N (E (xs.foldl F b0) t) st) : WS (forL q set u ds τ st) N R B C := by
  subst hd hτ
  induction xs generalizing b0 t0 with
  | nil =>
    rw [List.map_nil, forL, if_pos hq]
    exact hN t0
  | cons a xs ih =>
    obtain ⟨τ1, e1, h1⟩ := hs b0 t0 a (List.mem_cons_self ..)
    rw [List.map_cons, forL, if_pos hq, e1]
    simp only
    have go : ∀ τ s, ((∃ t, τ = E (F b0 a) t) ∧ s = st) → WS (forL q set u (xs.map g) τ s) N R B C := fun τ s h => by
      obtain ⟨⟨t, rfl⟩, rfl⟩ := h
      exact ih (F b0 a) t (fun b t a' ha => hs b t a' (List.mem_cons_of_mem _ ha)) hN
    generalize u τ1 st = r at h1
    cases r with
    | nx τ s => exact go τ s h1
    | ct τ s => exact go τ s h1
    | rt d s => exact h1
    | _ => exact h1.elim
end
theorem rng_at {n i : Nat} {d : D} (h : (rng 0 (n : Nat))[i]? = some d) : i < n ∧ d = .int (i : Nat) := by
  have hin : i < n := by
    have := (List.getElem?_eq_some_iff.mp h).1
    rwa [rng_len] at this
  rw [rng_eq, List.getElem?_map, List.getElem?_range hin] at h
  exact ⟨hin, (Option.some.inj h).symm⟩
section
variable {q : Sq} {set : D → Sl → Option Sl} {u : SM} {τ : Sl} {st : Store} {N : Sl → Store → Prop} {R : D → Store → Prop} {B C : Sl → Store → Prop} {ft : EM Bool} {fe : EM D} {Q : List D → Store → Prop}
/-- over range(n) -/
theorem ws_rng {n : Nat} (P : Nat → Sl → Store → Prop) (hc : ∀ k τ st, P k τ st → q.chk st = true) (h0 : P 0 τ st)
    (hs : ∀ i τ st, i < n → P i τ st → ∃ τ1, set (.int (i : Nat)) τ = some τ1 ∧ WS (u τ1 st) (P (i + 1)) R N (P (i + 1)))
    (hN : ∀ τ st, P n τ st → N τ st) : WS (forL q set u (rng 0 (n : Nat)) τ st) N R B C :=
  ws_for0 P hc h0 (fun i d τ st hi hp => by
    obtain ⟨hin, rfl⟩ := rng_at hi
    exact hs i τ st hin hp) (fun τ st h => hN τ st (by rwa [rng_len] at h))
theorem w_rng {n : Nat} (P : Nat → List D → Store → Prop) (hc : ∀ k acc st, P k acc st → q.chk st = true) (h0 : P 0 [] st)
    (hs : ∀ (i : Nat) (acc : List D) (st : Store), i < n → P i acc st → ∃ τ1, set (.int (i : Nat)) τ = some τ1 ∧ W (ft τ1 st) fun b s1 => if b then W (fe τ1 s1) fun x s2 => P (i + 1) (acc ++ [x]) s2 else P (i + 1) acc s1)
    (hQ : ∀ acc st, P n acc st → Q acc st) : W (compL q set ft fe τ (rng 0 (n : Nat)) [] st) Q :=
  w_comp0 P hc h0 (fun i d acc st hi hp => by
    obtain ⟨hin, rfl⟩ := rng_at hi
    exact hs i acc st hin hp) (fun acc st h => hQ acc st (by rwa [rng_len] at h))
/-- over things that are told by others -/
theorem ws_map {α : Type} {ds : List D} (g : α → D) (xs : List α) (hd : ds = xs.map g) (P : Nat → Sl → Store → Prop) (hc : ∀ k τ st, P k τ st → q.chk st = true) (h0 : P 0 τ st)
    (hs : ∀ i a τ st, xs[i]? = some a → P i τ st → ∃ τ1, set (g a) τ = some τ1 ∧ WS (u τ1 st) (P (i + 1)) R N (P (i + 1)))
    (hN : ∀ τ st, P xs.length τ st → N τ st) : WS (forL q set u ds τ st) N R B C :=
  ws_for0 P hc h0 (fun i d τ st hi hp => by
    rw [hd, List.getElem?_map] at hi
    cases hx : xs[i]? with
    | none => rw [hx] at hi; cases hi
    | some a =>
      rw [hx] at hi
      cases hi
      exact hs i a τ st hx hp) (fun τ st h => hN τ st (by rwa [hd, List.length_map] at h))
theorem w_mapc {α : Type} {ds : List D} (g : α → D) (xs : List α) (hd : ds = xs.map g) (P : Nat → List D → Store → Prop) (hc : ∀ k acc st, P k acc st → q.chk st = true) (h0 : P 0 [] st)
    (hs : ∀ (i : Nat) (a : α) (acc : List D) (st : Store), xs[i]? = some a → P i acc st → ∃ τ1, set (g a) τ = some τ1 ∧ W (ft τ1 st) fun b s1 => if b then W (fe τ1 s1) fun x s2 => P (i + 1) (acc ++ [x]) s2 else P (i + 1) acc s1)
    (hQ : ∀ acc st, P xs.length acc st → Q acc st) : W (compL q set ft fe τ ds [] st) Q :=
  w_comp0 P hc h0 (fun i d acc st hi hp => by
    rw [hd, List.getElem?_map] at hi
    cases hx : xs[i]? with
    | none => rw [hx] at hi; cases hi
    | some a =>
      rw [hx] at hi
      cases hi
      exact hs i a acc st hx hp) (fun acc st h => hQ acc st (by rwa [hd, List.length_map] at h))
end
section
variable {q : Sq} {set : D → Sl → Option Sl} {u : SM} {τ : Sl} {st : Store} {N : Sl → Store → Prop} {R : D → Store → Prop} {B C : Sl → Store → Prop}
/-- a loop that returns False at the first that fails -/
theorem ws_all {α : Type} (g : α → D) (p : α → Bool) (I : Sl → Prop) (J : Store → Prop) (hc : ∀ st, J st → q.chk st = true) : ∀ (xs : List α) (ds : List D) (τ : Sl) (st : Store), ds = xs.map g → I τ → J st →
    (∀ a ∈ xs, ∀ τ st, I τ → J st → ∃ τ1, set (g a) τ = some τ1 ∧ WS (u τ1 st) (fun τ s => p a = true ∧ I τ ∧ J s) (fun d s => p a = false ∧ d = .bl false ∧ J s) (fun _ _ => False) (fun τ s => p a = true ∧ I τ ∧ J s)) →
    (∀ τ s, xs.all p = true → I τ → J s → N τ s) → (∀ s, xs.all p = false → J s → R (.bl false) s) → WS (forL q set u ds τ st) N R B C
  | [], ds, τ, st, hd, h0, j0, _, kN, _ => by
    subst hd
    rw [List.map_nil, forL, if_pos (hc st j0)]
    exact kN τ st rfl h0 j0
  | a :: xs, ds, τ, st, hd, h0, j0, hs, kN, kR => by
    subst hd
    obtain ⟨τ1, e1, h1⟩ := hs a (List.mem_cons_self ..) τ st h0 j0
    rw [List.map_cons, forL, if_pos (hc st j0), e1]
    simp only
    have go : ∀ τ s, (p a = true ∧ I τ ∧ J s) → WS (forL q set u (xs.map g) τ s) N R B C := fun τ s ⟨hp, h2, h3⟩ =>
      ws_all g p I J hc xs _ τ s rfl h2 h3 (fun b hb => hs b (List.mem_cons_of_mem _ hb)) (fun τ s h => kN τ s (by rw [List.all_cons, hp, h]; rfl)) (fun s h => kR s (by rw [List.all_cons, hp, h]; rfl))
    generalize u τ1 st = r at h1
    cases r with
    | nx τ s => exact go τ s h1
    | ct τ s => exact go τ s h1
    | rt d s =>
      obtain ⟨hp, rfl, h3⟩ := h1
      exact kR s (by rw [List.all_cons, hp]; rfl) h3
    | _ => exact h1.elim
theorem ws_allR {n : Nat} (p : Nat → Bool) (I : Sl → Prop) (J : Store → Prop) (hc : ∀ st, J st → q.chk st = true) (h0 : I τ) (j0 : J st)
    (hs : ∀ a, a < n → ∀ τ st, I τ → J st → ∃ τ1, set (.int (a : Nat)) τ = some τ1 ∧ WS (u τ1 st) (fun τ s => p a = true ∧ I τ ∧ J s) (fun d s => p a = false ∧ d = .bl false ∧ J s) (fun _ _ => False) (fun τ s => p a = true ∧ I τ ∧ J s))
    (kN : ∀ τ s, (List.range n).all p = true → I τ → J s → N τ s) (kR : ∀ s, (List.range n).all p = false → J s → R (.bl false) s) : WS (forL q set u (rng 0 (n : Nat)) τ st) N R B C :=
  ws_all (fun k : Nat => D.int k) p I J hc (List.range n) _ τ st (rng_eq n) h0 j0 (fun a ha => hs a (List.mem_range.mp ha)) kN kR
theorem WS.cut {r : SR} {N' : Sl → Store → Prop} (h : WS r N' R B C) (k : ∀ τ s, N' τ s → N τ s) : WS r N R B C := h.mono k (fun _ _ h => h) (fun _ _ h => h) (fun _ _ h => h)
end
/-! dicts -/
theorem dGet_put {kvs : List (D × D)} {k k' v : D} : dGet (dPut kvs k v) k' = if k' = k then some v else dGet kvs k' := by
  have h1 : ∀ kvs : List (D × D), dGet (kvs.map fun p => if p.1 = k then (p.1, v) else p) k' = (dGet kvs k').map fun x => if k' = k then v else x := fun kvs => by
    unfold dGet
    induction kvs with
    | nil => rfl
    | cons p kvs ih =>
      rw [List.map_cons]
      by_cases e : p.1 = k'
      · rw [List.find?_cons_of_pos (by split <;> simpa using e), List.find?_cons_of_pos (by simpa using e)]
        by_cases e2 : p.1 = k
        · have : k' = k := by rw [← e, e2]
          simp [e2, this]
        · have : ¬ k' = k := by rw [← e]; exact e2
          simp [e2, this]
      · rw [List.find?_cons_of_neg (by split <;> simpa using e), List.find?_cons_of_neg (by simpa using e)]
        exact ih
  unfold dPut
  split
  · rename_i h
    rw [h1]
    by_cases e : k' = k
    · obtain ⟨x, hx⟩ := Option.isSome_iff_exists.mp h
      subst e
      simp [hx]
    · rw [if_neg e]
      cases dGet kvs k' <;> simp [e]
  · rename_i h
    unfold dGet at h ⊢
    rw [List.find?_append]
    by_cases e : k' = k
    · subst e
      have : kvs.find? (fun p => decide (p.1 = k')) = none := by
        cases hz : kvs.find? (fun p => decide (p.1 = k')) with
        | none => rfl
        | some x => rw [hz] at h; exact absurd rfl h
      simp [this]
    · rw [if_neg e]
      cases hz : kvs.find? (fun p => decide (p.1 = k')) with
      | some x => simp
      | none => simp [Ne.symm e]
theorem dPut_keys {kvs : List (D × D)} {k v : D} {p : D → Bool} (h : (kvs.all fun q => p q.1) = true) (hk : p k = true) : ((dPut kvs k v).all fun q => p q.1) = true := by
  unfold dPut
  rw [List.all_eq_true] at h
  split
  · rw [List.all_eq_true]
    intro x hx
    obtain ⟨y, hy, rfl⟩ := List.mem_map.mp hx
    have := h y hy
    split <;> exact this
  · rw [List.all_append, List.all_eq_true.mpr h]
    simpa using hk
theorem dPut_len {kvs : List (D × D)} {k v : D} : (dPut kvs k v).length ≤ kvs.length + 1 := by
  unfold dPut
  split <;> simp
theorem keyFit_tup {kvs : List (D × D)} {k : D} (h : (kvs.all fun q => q.1.tupQ) = true) (hk : k.tupQ = true) : keyFit kvs k = true := by simp [keyFit, h, hk]
theorem keyFit_flat {kvs : List (D × D)} {k : D} (h : (kvs.all fun q => q.1.flatK) = true) (hk : k.flatK = true) : keyFit kvs k = true := by simp [keyFit, h, hk]
theorem dctAt_new {a : Store} {kvs : List (D × D)} : dctAt (a ++ [.dct kvs]) a.length = some kvs := by simp [dctAt]
theorem dctAt_lt {st : Store} {n : Nat} {kvs : List (D × D)} (h : dctAt st n = some kvs) : n < st.length := by
  unfold dctAt at h
  split at h
  · rename_i e
    exact (List.getElem?_eq_some_iff.mp e).1
  · cases h
theorem dctAt_set {st : Store} {n : Nat} {kvs kvs' : List (D × D)} (h : dctAt st n = some kvs) : dctAt (st.set n (.dct kvs')) n = some kvs' := by
  have := dctAt_lt h
  simp [dctAt, this]
theorem dctAt_ne {st : Store} {n m : Nat} {c : Cell} (h : m ≠ n) : dctAt (st.set n c) m = dctAt st m := by
  unfold dctAt
  rw [List.getElem?_set_ne (Ne.symm h)]
theorem Gr.dct {a b : Store} {n : Nat} {kvs : List (D × D)} (x : Gr a b) (h : dctAt a n = some kvs) : dctAt b n = some kvs := by
  obtain ⟨l, rfl⟩ := x.ex
  unfold dctAt at h ⊢
  rw [List.getElem?_append_left (dctAt_lt (kvs := kvs) (by unfold dctAt; exact h))]
  exact h
theorem Fr.dct {a b : Store} {n : Nat} {kvs : List (D × D)} (x : Fr a b) (h : dctAt a n = some kvs) (hn : n ≠ 1) : dctAt b n = some kvs := by
  have := x.at' n hn (dctAt_lt h)
  unfold dctAt at h ⊢
  rwa [this]
section
variable {g : EM Bool} {u v w : SM} {τ : Sl} {st s1 : Store} {N : Sl → Store → Prop} {R : D → Store → Prop} {B C : Sl → Store → Prop}
theorem ws_skip (h : g τ st = .ok false st) (k : WS (w τ st) N R B C) : WS (sSeq (sIf g u sNil) w τ st) N R B C := by
  rw [sSeq_e, WS_seq, sIf_e, h]
  simpa using k
theorem ws_take (h : g τ st = .ok true st) (k : WS (u τ st) (fun τ s => WS (w τ s) N R B C) R B C) : WS (sSeq (sIf g u v) w τ st) N R B C := by
  rw [sSeq_e, WS_seq, sIf_e, h]
  simpa using k
theorem ws_else (h : g τ st = .ok false st) (k : WS (v τ st) (fun τ s => WS (w τ s) N R B C) R B C) : WS (sSeq (sIf g u v) w τ st) N R B C := by
  rw [sSeq_e, WS_seq, sIf_e, h]
  simpa using k
/-- one statement, then the rest -/
theorem ws_cons {N' : Sl → Store → Prop} (h : WS (u τ st) N' R B C) (k : ∀ τ s, N' τ s → WS (w τ s) N R B C) : WS (sSeq u w τ st) N R B C := by
  rw [sSeq_e, WS_seq]
  exact h.cut k
end
end HM

namespace K06
open PySem PySem.Spec PyProof.Rows L2 HM
def top (i : Nat) : Stmt := PySem.Challenge.pw_closedratios_k06_least_alignments.main.body.getD i (.Pass ⟨0, 0, 0, 0⟩)
abbrev s_lesser : Stmt := top 1
abbrev s_one_more : Stmt := top 2
abbrev s_cost_rows : Stmt := top 3
abbrev s_cost_at : Stmt := top 4
abbrev s_steps_from : Stmt := top 5
abbrev s_distance : Stmt := top 6
abbrev s_left_rows : Stmt := top 7
abbrev s_least_alignment : Stmt := top 8
abbrev s__law_begin : Stmt := top 10
abbrev s__law_draw : Stmt := top 11
abbrev s__law_pick : Stmt := top 12
abbrev s__law_rare : Stmt := top 13
abbrev s__law_shuffled : Stmt := top 14
abbrev s__law_is_int : Stmt := top 15
abbrev s__law_all_edits : Stmt := top 16
abbrev s__law_near : Stmt := top 17
abbrev s__law_table : Stmt := top 18
abbrev s__law_bent : Stmt := top 19
abbrev s__law_side : Stmt := top 20
abbrev s__law_is_alignment : Stmt := top 21
abbrev s__law_ahead : Stmt := top 22
abbrev s__law_ways : Stmt := top 23
abbrev s__law_best : Stmt := top 24
abbrev s__law_right : Stmt := top 25
abbrev s__law_some_near : Stmt := top 26
abbrev s__law_runs : Stmt := top 27
abbrev s__law_other_table : Stmt := top 28
abbrev s_law : Stmt := top 29
def N_lesser : List PySem.Str := ["mark", "other"]
theorem sc_lesser : FnScope N_lesser ["mark", "other"] (defScope s_lesser) := ⟨rfl, rfl, rfl, by decide +kernel, rfl, by decide +kernel, by decide +kernel⟩
def m_lesser : SM := (sSeq (sIf (tBl (eBin oIs (eVar 0) (eC .non))) (sRet (eVar 1)) sNil)
    (sSeq (sIf (tOr (tBl (eBin oIs (eVar 1) (eC .non))) (tBl (eBin oLt (eVar 0) (eVar 1)))) (sRet (eVar 0)) sNil)
    (sRet (eVar 1))))
theorem ok_lesser {P : Program} {w : World} {K : PySem.W.Frag} {mg : PySem.Str → Option Value} {base : Heap} {f : Addr} {fd : FuncData} (F : FnP K "lesser" s_lesser f fd) (gx : mg "lesser" = some (.ref f))  :
    Cal P w K mg base "lesser" 1 ["mark", "other"] (runB 2 (m_lesser)) :=
  cal_mk (k := 0) F sc_lesser gx (fun _ _ _ _ _ _ us hl => match us, hl with | [_, _], _ => rfl) fun cdv A outer s H E hr tk hp =>
    (sx_cons (sx_if (et_cmp m_is (xv 0) ex_non (nomark _)) (sx_one (sx_ret (xv 1))) sx_nil)
    (sx_cons (sx_if (Ew.et (ew_or (et_cmp m_is (xv 1) ex_non (nomark _)) (ew_or1 (et_cmp (m_lt hr.units65) (xv 0) (xv 1) (nomark _))))) (sx_one (sx_ret (xv 0))) sx_nil)
    (sx_one (sx_ret (xv 1)))))
def N_one_more : List PySem.Str := ["mark"]
theorem sc_one_more : FnScope N_one_more ["mark"] (defScope s_one_more) := ⟨rfl, rfl, rfl, by decide +kernel, rfl, by decide +kernel, by decide +kernel⟩
def m_one_more : SM := (sSeq (sIf (tBl (eBin oIs (eVar 0) (eC .non))) (sRet (eC .non)) sNil)
    (sRet (eBin oAdd (eVar 0) (eC (.int 1)))))
theorem ok_one_more {P : Program} {w : World} {K : PySem.W.Frag} {mg : PySem.Str → Option Value} {base : Heap} {f : Addr} {fd : FuncData} (F : FnP K "one_more" s_one_more f fd) (gx : mg "one_more" = some (.ref f))  :
    Cal P w K mg base "one_more" 1 ["mark"] (runB 1 (m_one_more)) :=
  cal_mk (k := 0) F sc_one_more gx (fun _ _ _ _ _ _ us hl => match us, hl with | [_], _ => rfl) fun cdv A outer s H E hr tk hp =>
    (sx_cons (sx_if (et_cmp m_is (xv 0) ex_non (nomark _)) (sx_one (sx_ret ex_non)) sx_nil)
    (sx_one (sx_ret (ex_op m_add (xv 0) ex_int))))
def N_cost_rows : List PySem.Str := ["near", "table", "other", "found", "i", "row", "j"]
theorem sc_cost_rows : FnScope N_cost_rows ["near", "table", "other"] (defScope s_cost_rows) := ⟨rfl, rfl, rfl, by decide +kernel, rfl, by decide +kernel, by decide +kernel⟩
def m_cost_rows (f_cost_at : FM) : SM := (sSeq (sSet 3 (eLst aNil))
    (sSeq (sFor (iRg1 (eBin oAdd (eCB fLen (aCons (eVar 1) aNil)) (eC (.int 1)))) (gN 4) (sSeq (sSet 5 (eLst aNil))
    (sSeq (sFor (iRg1 (eBin oAdd (eCB fLen (aCons (eVar 2) aNil)) (eC (.int 1)))) (gN 6) (sExpr (eM "list" mAppend (eVar 5) (aCons (eCall 7 f_cost_at (aCons (eVar 0) (aCons (eVar 1) (aCons (eVar 2) (aCons (eVar 3) (aCons (eVar 5) (aCons (eVar 4) (aCons (eVar 6) aNil)))))))) aNil))))
    (sExpr (eM "list" mAppend (eVar 3) (aCons (eVar 5) aNil))))))
    (sRet (eVar 3))))
theorem ok_cost_rows {P : Program} {w : World} {K : PySem.W.Frag} {mg : PySem.Str → Option Value} {base : Heap} {f : Addr} {fd : FuncData} {f_cost_at : FM} (F : FnP K "cost_rows" s_cost_rows f fd) (gx : mg "cost_rows" = some (.ref f)) (c_cost_at : Cal P w K mg base "cost_at" 2 ["near", "table", "other", "above", "row", "i", "j"] f_cost_at) (z_range : mg "range" = none) (z_len : mg "len" = none) :
    Cal P w K mg base "cost_rows" 3 ["near", "table", "other"] (runB 7 (m_cost_rows f_cost_at)) :=
  cal_mk (k := 2) F sc_cost_rows gx (fun _ _ _ _ _ _ us hl => match us, hl with | [_, _, _], _ => rfl) fun cdv A outer s H E hr tk hp =>
    (sx_cons (sx_set sc_cost_rows.nd (ex_lst ea_nil))
    (sx_cons (sx_for hp (by rfl) (ei_range1 (by rfl) z_range (ex_op m_add (ex_callB c_len (by rfl) z_len bt_len (ea_cons (xv 1) ea_nil)) ex_int)) (eg_name sc_cost_rows.nd) (sx_cons (sx_set sc_cost_rows.nd (ex_lst ea_nil))
    (sx_cons (sx_for hp (by rfl) (ei_range1 (by rfl) z_range (ex_op m_add (ex_callB c_len (by rfl) z_len bt_len (ea_cons (xv 2) ea_nil)) ex_int)) (eg_name sc_cost_rows.nd) (sx_one (sx_expr (ex_m PySem.F.plainAttrs_list PySem.F.slot_list_append PySem.F.type_list_append me_append (xv 5) (ea_cons (ex_c1 c_cost_at tk hr (by decide) (ea_cons (xv 0) (ea_cons (xv 1) (ea_cons (xv 2) (ea_cons (xv 3) (ea_cons (xv 5) (ea_cons (xv 4) (ea_cons (xv 6) ea_nil)))))))) ea_nil)))))
    (sx_one (sx_expr (ex_m PySem.F.plainAttrs_list PySem.F.slot_list_append PySem.F.type_list_append me_append (xv 3) (ea_cons (xv 5) ea_nil)))))))
    (sx_one (sx_ret (xv 3)))))
def N_cost_at : List PySem.Str := ["near", "table", "other", "above", "row", "i", "j", "best"]
theorem sc_cost_at : FnScope N_cost_at ["near", "table", "other", "above", "row", "i", "j"] (defScope s_cost_at) := ⟨rfl, rfl, rfl, by decide +kernel, rfl, by decide +kernel, by decide +kernel⟩
def m_cost_at (f_one_more : FM) (f_lesser : FM) : SM := (sSeq (sIf (tAnd (tBl (eBin oEq (eVar 5) (eC (.int 0)))) (tBl (eBin oEq (eVar 6) (eC (.int 0))))) (sRet (eC (.int 0))) sNil)
    (sSeq (sSet 7 (eC .non))
    (sSeq (sIf (tAnd (tBl (eBin oGt (eVar 5) (eC (.int 0)))) (tBl (eBin oIn (eTup (aCons (eC (.str [99, 117, 116])) (aCons (eBin oIx (eVar 1) (eBin oSub (eVar 5) (eC (.int 1)))) aNil))) (eVar 0)))) (sSet 7 (eCall 1 f_one_more (aCons (eBin oIx (eBin oIx (eVar 3) (eBin oSub (eVar 5) (eC (.int 1)))) (eVar 6)) aNil))) sNil)
    (sSeq (sIf (tAnd (tBl (eBin oGt (eVar 6) (eC (.int 0)))) (tBl (eBin oIn (eTup (aCons (eC (.str [112, 117, 116])) (aCons (eBin oIx (eVar 2) (eBin oSub (eVar 6) (eC (.int 1)))) aNil))) (eVar 0)))) (sSet 7 (eCall 2 f_lesser (aCons (eVar 7) (aCons (eCall 1 f_one_more (aCons (eBin oIx (eVar 4) (eBin oSub (eVar 6) (eC (.int 1)))) aNil)) aNil)))) sNil)
    (sSeq (sIf (tAnd (tBl (eBin oGt (eVar 5) (eC (.int 0)))) (tBl (eBin oGt (eVar 6) (eC (.int 0))))) (sIf (tBl (eBin oEq (eBin oIx (eVar 1) (eBin oSub (eVar 5) (eC (.int 1)))) (eBin oIx (eVar 2) (eBin oSub (eVar 6) (eC (.int 1)))))) (sSet 7 (eCall 2 f_lesser (aCons (eVar 7) (aCons (eBin oIx (eBin oIx (eVar 3) (eBin oSub (eVar 5) (eC (.int 1)))) (eBin oSub (eVar 6) (eC (.int 1)))) aNil)))) (sIf (tBl (eBin oIn (eTup (aCons (eC (.str [116, 117, 114, 110])) (aCons (eBin oIx (eVar 1) (eBin oSub (eVar 5) (eC (.int 1)))) (aCons (eBin oIx (eVar 2) (eBin oSub (eVar 6) (eC (.int 1)))) aNil)))) (eVar 0))) (sSet 7 (eCall 2 f_lesser (aCons (eVar 7) (aCons (eCall 1 f_one_more (aCons (eBin oIx (eBin oIx (eVar 3) (eBin oSub (eVar 5) (eC (.int 1)))) (eBin oSub (eVar 6) (eC (.int 1)))) aNil)) aNil)))) sNil)) sNil)
    (sRet (eVar 7)))))))
theorem ok_cost_at {P : Program} {w : World} {K : PySem.W.Frag} {mg : PySem.Str → Option Value} {base : Heap} {f : Addr} {fd : FuncData} {f_one_more f_lesser : FM} (F : FnP K "cost_at" s_cost_at f fd) (gx : mg "cost_at" = some (.ref f)) (c_one_more : Cal P w K mg base "one_more" 1 ["mark"] f_one_more) (c_lesser : Cal P w K mg base "lesser" 1 ["mark", "other"] f_lesser) :
    Cal P w K mg base "cost_at" 2 ["near", "table", "other", "above", "row", "i", "j"] (runB 8 (m_cost_at f_one_more f_lesser)) :=
  cal_mk (k := 1) F sc_cost_at gx (fun _ _ _ _ _ _ us hl => match us, hl with | [_, _, _, _, _, _, _], _ => rfl) fun cdv A outer s H E hr tk hp =>
    (sx_cons (sx_if (Ew.et (ew_and (et_cmp (m_eq hr.units) (xv 5) ex_int (nomark _)) (ew_and1 (et_cmp (m_eq hr.units) (xv 6) ex_int (nomark _))))) (sx_one (sx_ret ex_int)) sx_nil)
    (sx_cons (sx_set sc_cost_at.nd ex_non)
    (sx_cons (sx_if (Ew.et (ew_and (et_cmp m_gt (xv 5) ex_int (nomark _)) (ew_and1 (et_cmp (m_in hr.units65) (ex_tup (ea_cons (ex_strc [99, 117, 116] (by decide +kernel)) (ea_cons (ex_ix (m_ix hr.units65) (xv 1) (ex_op m_sub (xv 5) ex_int)) ea_nil))) (xv 0) (by rfl))))) (sx_one (sx_set sc_cost_at.nd (ex_c1 c_one_more tk hr (by decide) (ea_cons (ex_ix (m_ix hr.units65) (ex_ix (m_ix hr.units65) (xv 3) (ex_op m_sub (xv 5) ex_int)) (xv 6)) ea_nil)))) sx_nil)
    (sx_cons (sx_if (Ew.et (ew_and (et_cmp m_gt (xv 6) ex_int (nomark _)) (ew_and1 (et_cmp (m_in hr.units65) (ex_tup (ea_cons (ex_strc [112, 117, 116] (by decide +kernel)) (ea_cons (ex_ix (m_ix hr.units65) (xv 2) (ex_op m_sub (xv 6) ex_int)) ea_nil))) (xv 0) (by rfl))))) (sx_one (sx_set sc_cost_at.nd (ex_c1 c_lesser tk hr (by decide) (ea_cons (xv 7) (ea_cons (ex_c1 c_one_more tk hr (by decide) (ea_cons (ex_ix (m_ix hr.units65) (xv 4) (ex_op m_sub (xv 6) ex_int)) ea_nil)) ea_nil))))) sx_nil)
    (sx_cons (sx_if (Ew.et (ew_and (et_cmp m_gt (xv 5) ex_int (nomark _)) (ew_and1 (et_cmp m_gt (xv 6) ex_int (nomark _))))) (sx_one (sx_if (et_cmp (m_eq hr.units) (ex_ix (m_ix hr.units65) (xv 1) (ex_op m_sub (xv 5) ex_int)) (ex_ix (m_ix hr.units65) (xv 2) (ex_op m_sub (xv 6) ex_int)) (nomark _)) (sx_one (sx_set sc_cost_at.nd (ex_c1 c_lesser tk hr (by decide) (ea_cons (xv 7) (ea_cons (ex_ix (m_ix hr.units65) (ex_ix (m_ix hr.units65) (xv 3) (ex_op m_sub (xv 5) ex_int)) (ex_op m_sub (xv 6) ex_int)) ea_nil))))) (sx_one (sx_if (et_cmp (m_in hr.units65) (ex_tup (ea_cons (ex_strc [116, 117, 114, 110] (by decide +kernel)) (ea_cons (ex_ix (m_ix hr.units65) (xv 1) (ex_op m_sub (xv 5) ex_int)) (ea_cons (ex_ix (m_ix hr.units65) (xv 2) (ex_op m_sub (xv 6) ex_int)) ea_nil)))) (xv 0) (by rfl)) (sx_one (sx_set sc_cost_at.nd (ex_c1 c_lesser tk hr (by decide) (ea_cons (xv 7) (ea_cons (ex_c1 c_one_more tk hr (by decide) (ea_cons (ex_ix (m_ix hr.units65) (ex_ix (m_ix hr.units65) (xv 3) (ex_op m_sub (xv 5) ex_int)) (ex_op m_sub (xv 6) ex_int)) ea_nil)) ea_nil))))) sx_nil)))) sx_nil)
    (sx_one (sx_ret (xv 7))))))))
def N_steps_from : List PySem.Str := ["near", "table", "other", "i", "j", "found"]
theorem sc_steps_from : FnScope N_steps_from ["near", "table", "other", "i", "j"] (defScope s_steps_from) := ⟨rfl, rfl, rfl, by decide +kernel, rfl, by decide +kernel, by decide +kernel⟩
def m_steps_from : SM := (sSeq (sSet 5 (eLst aNil))
    (sSeq (sIf (tAnd (tBl (eBin oLt (eVar 3) (eCB fLen (aCons (eVar 1) aNil)))) (tBl (eBin oIn (eTup (aCons (eC (.str [99, 117, 116])) (aCons (eBin oIx (eVar 1) (eVar 3)) aNil))) (eVar 0)))) (sExpr (eM "list" mAppend (eVar 5) (aCons (eTup (aCons (eTup (aCons (eC (.str [99, 117, 116])) (aCons (eBin oIx (eVar 1) (eVar 3)) aNil))) (aCons (eC (.int 1)) (aCons (eBin oAdd (eVar 3) (eC (.int 1))) (aCons (eVar 4) aNil))))) aNil))) sNil)
    (sSeq (sIf (tAnd (tBl (eBin oLt (eVar 3) (eCB fLen (aCons (eVar 1) aNil)))) (tAnd (tBl (eBin oLt (eVar 4) (eCB fLen (aCons (eVar 2) aNil)))) (tBl (eBin oEq (eBin oIx (eVar 1) (eVar 3)) (eBin oIx (eVar 2) (eVar 4)))))) (sExpr (eM "list" mAppend (eVar 5) (aCons (eTup (aCons (eTup (aCons (eC (.str [107, 101, 101, 112])) (aCons (eBin oIx (eVar 1) (eVar 3)) aNil))) (aCons (eC (.int 0)) (aCons (eBin oAdd (eVar 3) (eC (.int 1))) (aCons (eBin oAdd (eVar 4) (eC (.int 1))) aNil))))) aNil))) sNil)
    (sSeq (sIf (tAnd (tBl (eBin oLt (eVar 4) (eCB fLen (aCons (eVar 2) aNil)))) (tBl (eBin oIn (eTup (aCons (eC (.str [112, 117, 116])) (aCons (eBin oIx (eVar 2) (eVar 4)) aNil))) (eVar 0)))) (sExpr (eM "list" mAppend (eVar 5) (aCons (eTup (aCons (eTup (aCons (eC (.str [112, 117, 116])) (aCons (eBin oIx (eVar 2) (eVar 4)) aNil))) (aCons (eC (.int 1)) (aCons (eVar 3) (aCons (eBin oAdd (eVar 4) (eC (.int 1))) aNil))))) aNil))) sNil)
    (sSeq (sIf (tAnd (tBl (eBin oLt (eVar 3) (eCB fLen (aCons (eVar 1) aNil)))) (tAnd (tBl (eBin oLt (eVar 4) (eCB fLen (aCons (eVar 2) aNil)))) (tBl (eBin oIn (eTup (aCons (eC (.str [116, 117, 114, 110])) (aCons (eBin oIx (eVar 1) (eVar 3)) (aCons (eBin oIx (eVar 2) (eVar 4)) aNil)))) (eVar 0))))) (sExpr (eM "list" mAppend (eVar 5) (aCons (eTup (aCons (eTup (aCons (eC (.str [116, 117, 114, 110])) (aCons (eBin oIx (eVar 1) (eVar 3)) (aCons (eBin oIx (eVar 2) (eVar 4)) aNil)))) (aCons (eC (.int 1)) (aCons (eBin oAdd (eVar 3) (eC (.int 1))) (aCons (eBin oAdd (eVar 4) (eC (.int 1))) aNil))))) aNil))) sNil)
    (sRet (eVar 5)))))))
theorem ok_steps_from {P : Program} {w : World} {K : PySem.W.Frag} {mg : PySem.Str → Option Value} {base : Heap} {f : Addr} {fd : FuncData} (F : FnP K "steps_from" s_steps_from f fd) (gx : mg "steps_from" = some (.ref f)) (z_len : mg "len" = none) :
    Cal P w K mg base "steps_from" 1 ["near", "table", "other", "i", "j"] (runB 6 (m_steps_from)) :=
  cal_mk (k := 0) F sc_steps_from gx (fun _ _ _ _ _ _ us hl => match us, hl with | [_, _, _, _, _], _ => rfl) fun cdv A outer s H E hr tk hp =>
    (sx_cons (sx_set sc_steps_from.nd (ex_lst ea_nil))
    (sx_cons (sx_if (Ew.et (ew_and (et_cmp (m_lt hr.units65) (xv 3) (ex_callB c_len (by rfl) z_len bt_len (ea_cons (xv 1) ea_nil)) (nomark _)) (ew_and1 (et_cmp (m_in hr.units65) (ex_tup (ea_cons (ex_strc [99, 117, 116] (by decide +kernel)) (ea_cons (ex_ix (m_ix hr.units65) (xv 1) (xv 3)) ea_nil))) (xv 0) (by rfl))))) (sx_one (sx_expr (ex_m PySem.F.plainAttrs_list PySem.F.slot_list_append PySem.F.type_list_append me_append (xv 5) (ea_cons (ex_tup (ea_cons (ex_tup (ea_cons (ex_strc [99, 117, 116] (by decide +kernel)) (ea_cons (ex_ix (m_ix hr.units65) (xv 1) (xv 3)) ea_nil))) (ea_cons ex_int (ea_cons (ex_op m_add (xv 3) ex_int) (ea_cons (xv 4) ea_nil))))) ea_nil)))) sx_nil)
    (sx_cons (sx_if (Ew.et (ew_and (et_cmp (m_lt hr.units65) (xv 3) (ex_callB c_len (by rfl) z_len bt_len (ea_cons (xv 1) ea_nil)) (nomark _)) (ew_and (et_cmp (m_lt hr.units65) (xv 4) (ex_callB c_len (by rfl) z_len bt_len (ea_cons (xv 2) ea_nil)) (nomark _)) (ew_and1 (et_cmp (m_eq hr.units) (ex_ix (m_ix hr.units65) (xv 1) (xv 3)) (ex_ix (m_ix hr.units65) (xv 2) (xv 4)) (nomark _)))))) (sx_one (sx_expr (ex_m PySem.F.plainAttrs_list PySem.F.slot_list_append PySem.F.type_list_append me_append (xv 5) (ea_cons (ex_tup (ea_cons (ex_tup (ea_cons (ex_strc [107, 101, 101, 112] (by decide +kernel)) (ea_cons (ex_ix (m_ix hr.units65) (xv 1) (xv 3)) ea_nil))) (ea_cons ex_int (ea_cons (ex_op m_add (xv 3) ex_int) (ea_cons (ex_op m_add (xv 4) ex_int) ea_nil))))) ea_nil)))) sx_nil)
    (sx_cons (sx_if (Ew.et (ew_and (et_cmp (m_lt hr.units65) (xv 4) (ex_callB c_len (by rfl) z_len bt_len (ea_cons (xv 2) ea_nil)) (nomark _)) (ew_and1 (et_cmp (m_in hr.units65) (ex_tup (ea_cons (ex_strc [112, 117, 116] (by decide +kernel)) (ea_cons (ex_ix (m_ix hr.units65) (xv 2) (xv 4)) ea_nil))) (xv 0) (by rfl))))) (sx_one (sx_expr (ex_m PySem.F.plainAttrs_list PySem.F.slot_list_append PySem.F.type_list_append me_append (xv 5) (ea_cons (ex_tup (ea_cons (ex_tup (ea_cons (ex_strc [112, 117, 116] (by decide +kernel)) (ea_cons (ex_ix (m_ix hr.units65) (xv 2) (xv 4)) ea_nil))) (ea_cons ex_int (ea_cons (xv 3) (ea_cons (ex_op m_add (xv 4) ex_int) ea_nil))))) ea_nil)))) sx_nil)
    (sx_cons (sx_if (Ew.et (ew_and (et_cmp (m_lt hr.units65) (xv 3) (ex_callB c_len (by rfl) z_len bt_len (ea_cons (xv 1) ea_nil)) (nomark _)) (ew_and (et_cmp (m_lt hr.units65) (xv 4) (ex_callB c_len (by rfl) z_len bt_len (ea_cons (xv 2) ea_nil)) (nomark _)) (ew_and1 (et_cmp (m_in hr.units65) (ex_tup (ea_cons (ex_strc [116, 117, 114, 110] (by decide +kernel)) (ea_cons (ex_ix (m_ix hr.units65) (xv 1) (xv 3)) (ea_cons (ex_ix (m_ix hr.units65) (xv 2) (xv 4)) ea_nil)))) (xv 0) (by rfl)))))) (sx_one (sx_expr (ex_m PySem.F.plainAttrs_list PySem.F.slot_list_append PySem.F.type_list_append me_append (xv 5) (ea_cons (ex_tup (ea_cons (ex_tup (ea_cons (ex_strc [116, 117, 114, 110] (by decide +kernel)) (ea_cons (ex_ix (m_ix hr.units65) (xv 1) (xv 3)) (ea_cons (ex_ix (m_ix hr.units65) (xv 2) (xv 4)) ea_nil)))) (ea_cons ex_int (ea_cons (ex_op m_add (xv 3) ex_int) (ea_cons (ex_op m_add (xv 4) ex_int) ea_nil))))) ea_nil)))) sx_nil)
    (sx_one (sx_ret (xv 5))))))))
def N_distance : List PySem.Str := ["near", "table", "other"]
theorem sc_distance : FnScope N_distance ["near", "table", "other"] (defScope s_distance) := ⟨rfl, rfl, rfl, by decide +kernel, rfl, by decide +kernel, by decide +kernel⟩
def m_distance (f_cost_rows : FM) : SM := (sRet (eBin oIx (eBin oIx (eCall 3 f_cost_rows (aCons (eVar 0) (aCons (eVar 1) (aCons (eVar 2) aNil)))) (eCB fLen (aCons (eVar 1) aNil))) (eCB fLen (aCons (eVar 2) aNil))))
theorem ok_distance {P : Program} {w : World} {K : PySem.W.Frag} {mg : PySem.Str → Option Value} {base : Heap} {f : Addr} {fd : FuncData} {f_cost_rows : FM} (F : FnP K "distance" s_distance f fd) (gx : mg "distance" = some (.ref f)) (c_cost_rows : Cal P w K mg base "cost_rows" 3 ["near", "table", "other"] f_cost_rows) (z_len : mg "len" = none) :
    Cal P w K mg base "distance" 4 ["near", "table", "other"] (runB 3 (m_distance f_cost_rows)) :=
  cal_mk (k := 3) F sc_distance gx (fun _ _ _ _ _ _ us hl => match us, hl with | [_, _, _], _ => rfl) fun cdv A outer s H E hr tk hp =>
    (sx_one (sx_ret (ex_ix (m_ix hr.units65) (ex_ix (m_ix hr.units65) (ex_c1 c_cost_rows tk hr (by decide) (ea_cons (xv 0) (ea_cons (xv 1) (ea_cons (xv 2) ea_nil)))) (ex_callB c_len (by rfl) z_len bt_len (ea_cons (xv 1) ea_nil))) (ex_callB c_len (by rfl) z_len bt_len (ea_cons (xv 2) ea_nil)))))
def N_left_rows : List PySem.Str := ["near", "table", "other", "rows", "back", "i", "behind", "j", "step", "cost", "down", "right"]
theorem sc_left_rows : FnScope N_left_rows ["near", "table", "other"] (defScope s_left_rows) := ⟨rfl, rfl, rfl, by decide +kernel, rfl, by decide +kernel, by decide +kernel⟩
def m_left_rows (f_steps_from : FM) (f_lesser : FM) : SM := (sSeq (sSet 3 (eEl (lComp [5] (iRg1 (eBin oAdd (eCB fLen (aCons (eVar 1) aNil)) (eC (.int 1)))) (gN 5) tYes (eEl (lComp [7] (iRg1 (eBin oAdd (eCB fLen (aCons (eVar 2) aNil)) (eC (.int 1)))) (gN 7) tYes (eC .non))))))
    (sSeq (sSub (eBin oIx (eVar 3) (eCB fLen (aCons (eVar 1) aNil))) (eCB fLen (aCons (eVar 2) aNil)) (eC (.int 0)))
    (sSeq (sFor (iRg1 (eBin oAdd (eCB fLen (aCons (eVar 1) aNil)) (eC (.int 1)))) (gN 4) (sSeq (sSet 5 (eBin oSub (eCB fLen (aCons (eVar 1) aNil)) (eVar 4)))
    (sFor (iRg1 (eBin oAdd (eCB fLen (aCons (eVar 2) aNil)) (eC (.int 1)))) (gN 6) (sSeq (sSet 7 (eBin oSub (eCB fLen (aCons (eVar 2) aNil)) (eVar 6)))
    (sFor (iEx (eCall 5 f_steps_from (aCons (eVar 0) (aCons (eVar 1) (aCons (eVar 2) (aCons (eVar 5) (aCons (eVar 7) aNil))))))) (gT 4 (gCs 8 (gCs 9 (gCs 10 (gCs 11 gNil0))))) (sIf (tBl (eBin oIsNot (eBin oIx (eBin oIx (eVar 3) (eVar 10)) (eVar 11)) (eC .non))) (sSub (eBin oIx (eVar 3) (eVar 5)) (eVar 7) (eCall 2 f_lesser (aCons (eBin oIx (eBin oIx (eVar 3) (eVar 5)) (eVar 7)) (aCons (eBin oAdd (eBin oIx (eBin oIx (eVar 3) (eVar 10)) (eVar 11)) (eVar 9)) aNil)))) sNil))))))
    (sRet (eVar 3)))))
theorem ok_left_rows {P : Program} {w : World} {K : PySem.W.Frag} {mg : PySem.Str → Option Value} {base : Heap} {f : Addr} {fd : FuncData} {f_steps_from f_lesser : FM} (F : FnP K "left_rows" s_left_rows f fd) (gx : mg "left_rows" = some (.ref f)) (c_steps_from : Cal P w K mg base "steps_from" 1 ["near", "table", "other", "i", "j"] f_steps_from) (c_lesser : Cal P w K mg base "lesser" 1 ["mark", "other"] f_lesser) (z_range : mg "range" = none) (z_len : mg "len" = none) :
    Cal P w K mg base "left_rows" 2 ["near", "table", "other"] (runB 12 (m_left_rows f_steps_from f_lesser)) :=
  cal_mk (k := 1) F sc_left_rows gx (fun _ _ _ _ _ _ us hl => match us, hl with | [_, _, _], _ => rfl) fun cdv A outer s H E hr tk hp =>
    (sx_cons (sx_setLc (own := [(("i" : PySem.Str), 5)]) (by rfl) sc_left_rows.nd (ei_range1 (by rfl) z_range (ex_op m_add (ex_callB c_len (by rfl) z_len bt_len (ea_cons (xv 1) ea_nil)) ex_int)) (blkOk_by (N := N_left_rows) (sc := (defScope s_left_rows)) (by decide +kernel)) (fun _ _ _ _ _ => (eg_name sc_left_rows.nd)) (fun _ _ _ _ _ => ets_nil) (fun _ _ _ _ _ => (ex_el (el_comp (own := [(("j" : PySem.Str), 7)]) (by rfl) sc_left_rows.nd (ei_range1 (by rfl) z_range (ex_op m_add (ex_callB c_len (by rfl) z_len bt_len (ea_cons (xv 2) ea_nil)) ex_int)) (blkOk_by (by kernel_rfl)) (fun _ _ _ _ _ => (eg_name sc_left_rows.nd)) (fun _ _ _ _ _ => ets_nil) (fun _ _ _ _ _ => ex_non)))))
    (sx_cons (sx_sub hr.units65 ex_int (ex_ix (m_ix hr.units65) (xv 3) (ex_callB c_len (by rfl) z_len bt_len (ea_cons (xv 1) ea_nil))) (ex_callB c_len (by rfl) z_len bt_len (ea_cons (xv 2) ea_nil)))
    (sx_cons (sx_for hp (by rfl) (ei_range1 (by rfl) z_range (ex_op m_add (ex_callB c_len (by rfl) z_len bt_len (ea_cons (xv 1) ea_nil)) ex_int)) (eg_name sc_left_rows.nd) (sx_cons (sx_set sc_left_rows.nd (ex_op m_sub (ex_callB c_len (by rfl) z_len bt_len (ea_cons (xv 1) ea_nil)) (xv 4)))
    (sx_one (sx_for hp (by rfl) (ei_range1 (by rfl) z_range (ex_op m_add (ex_callB c_len (by rfl) z_len bt_len (ea_cons (xv 2) ea_nil)) ex_int)) (eg_name sc_left_rows.nd) (sx_cons (sx_set sc_left_rows.nd (ex_op m_sub (ex_callB c_len (by rfl) z_len bt_len (ea_cons (xv 2) ea_nil)) (xv 6)))
    (sx_one (sx_for hp (by rfl) (ei_ex (ex_c1 c_steps_from tk hr (by decide) (ea_cons (xv 0) (ea_cons (xv 1) (ea_cons (xv 2) (ea_cons (xv 5) (ea_cons (xv 7) ea_nil))))))) (eg_tup (by rfl) (egs_cons sc_left_rows.nd (egs_cons sc_left_rows.nd (egs_cons sc_left_rows.nd (egs_cons sc_left_rows.nd egs_nil))))) (sx_one (sx_if (et_cmp m_isnot (ex_ix (m_ix hr.units65) (ex_ix (m_ix hr.units65) (xv 3) (xv 10)) (xv 11)) ex_non (nomark _)) (sx_one (sx_sub hr.units65 (ex_c1 c_lesser tk hr (by decide) (ea_cons (ex_ix (m_ix hr.units65) (ex_ix (m_ix hr.units65) (xv 3) (xv 5)) (xv 7)) (ea_cons (ex_op m_add (ex_ix (m_ix hr.units65) (ex_ix (m_ix hr.units65) (xv 3) (xv 10)) (xv 11)) (xv 9)) ea_nil))) (ex_ix (m_ix hr.units65) (xv 3) (xv 5)) (xv 7))) sx_nil)))))))))
    (sx_one (sx_ret (xv 3))))))
def N_least_alignment : List PySem.Str := ["near", "table", "other", "rows", "found", "i", "j", "step", "cost", "down", "right"]
theorem sc_least_alignment : FnScope N_least_alignment ["near", "table", "other"] (defScope s_least_alignment) := ⟨rfl, rfl, rfl, by decide +kernel, rfl, by decide +kernel, by decide +kernel⟩
def m_least_alignment (f_left_rows : FM) (f_steps_from : FM) : SM := (sSeq (sSet 3 (eCall 3 f_left_rows (aCons (eVar 0) (aCons (eVar 1) (aCons (eVar 2) aNil)))))
    (sSeq (sIf (tBl (eBin oIs (eBin oIx (eBin oIx (eVar 3) (eC (.int 0))) (eC (.int 0))) (eC .non))) (sRet (eC .non)) sNil)
    (sSeq (sSet 4 (eLst aNil))
    (sSeq (sSet 5 (eC (.int 0)))
    (sSeq (sSet 6 (eC (.int 0)))
    (sSeq (whileN (tOr (tBl (eBin oLt (eVar 5) (eCB fLen (aCons (eVar 1) aNil)))) (tBl (eBin oLt (eVar 6) (eCB fLen (aCons (eVar 2) aNil))))) (sFor (iEx (eCall 5 f_steps_from (aCons (eVar 0) (aCons (eVar 1) (aCons (eVar 2) (aCons (eVar 5) (aCons (eVar 6) aNil))))))) (gT 4 (gCs 7 (gCs 8 (gCs 9 (gCs 10 gNil0))))) (sIf (tAnd (tBl (eBin oIsNot (eBin oIx (eBin oIx (eVar 3) (eVar 9)) (eVar 10)) (eC .non))) (tBl (eBin oEq (eBin oAdd (eBin oIx (eBin oIx (eVar 3) (eVar 9)) (eVar 10)) (eVar 8)) (eBin oIx (eBin oIx (eVar 3) (eVar 5)) (eVar 6))))) (sSeq (sExpr (eM "list" mAppend (eVar 4) (aCons (eVar 7) aNil)))
    (sSeq (sSet 5 (eVar 9))
    (sSeq (sSet 6 (eVar 10))
    sBrk))) sNil)) big)
    (sRet (eCB fTuple (aCons (eVar 4) aNil)))))))))
theorem ok_least_alignment {P : Program} {w : World} {K : PySem.W.Frag} {mg : PySem.Str → Option Value} {base : Heap} {f : Addr} {fd : FuncData} {f_left_rows f_steps_from : FM} (F : FnP K "least_alignment" s_least_alignment f fd) (gx : mg "least_alignment" = some (.ref f)) (c_left_rows : Cal P w K mg base "left_rows" 2 ["near", "table", "other"] f_left_rows) (c_steps_from : Cal P w K mg base "steps_from" 1 ["near", "table", "other", "i", "j"] f_steps_from) (z_len : mg "len" = none) (z_tuple : mg "tuple" = none) :
    Cal P w K mg base "least_alignment" 3 ["near", "table", "other"] (runB 11 (m_least_alignment f_left_rows f_steps_from)) :=
  cal_mk (k := 2) F sc_least_alignment gx (fun _ _ _ _ _ _ us hl => match us, hl with | [_, _, _], _ => rfl) fun cdv A outer s H E hr tk hp =>
    (sx_cons (sx_set sc_least_alignment.nd (ex_c1 c_left_rows tk hr (by decide) (ea_cons (xv 0) (ea_cons (xv 1) (ea_cons (xv 2) ea_nil)))))
    (sx_cons (sx_if (et_cmp m_is (ex_ix (m_ix hr.units65) (ex_ix (m_ix hr.units65) (xv 3) ex_int) ex_int) ex_non (nomark _)) (sx_one (sx_ret ex_non)) sx_nil)
    (sx_cons (sx_set sc_least_alignment.nd (ex_lst ea_nil))
    (sx_cons (sx_set sc_least_alignment.nd ex_int)
    (sx_cons (sx_set sc_least_alignment.nd ex_int)
    (sx_cons (sx_while big hp (Ew.et (ew_or (et_cmp (m_lt hr.units65) (xv 5) (ex_callB c_len (by rfl) z_len bt_len (ea_cons (xv 1) ea_nil)) (nomark _)) (ew_or1 (et_cmp (m_lt hr.units65) (xv 6) (ex_callB c_len (by rfl) z_len bt_len (ea_cons (xv 2) ea_nil)) (nomark _))))) (sx_one (sx_for hp (by rfl) (ei_ex (ex_c1 c_steps_from tk hr (by decide) (ea_cons (xv 0) (ea_cons (xv 1) (ea_cons (xv 2) (ea_cons (xv 5) (ea_cons (xv 6) ea_nil))))))) (eg_tup (by rfl) (egs_cons sc_least_alignment.nd (egs_cons sc_least_alignment.nd (egs_cons sc_least_alignment.nd (egs_cons sc_least_alignment.nd egs_nil))))) (sx_one (sx_if (Ew.et (ew_and (et_cmp m_isnot (ex_ix (m_ix hr.units65) (ex_ix (m_ix hr.units65) (xv 3) (xv 9)) (xv 10)) ex_non (nomark _)) (ew_and1 (et_cmp (m_eq hr.units) (ex_op m_add (ex_ix (m_ix hr.units65) (ex_ix (m_ix hr.units65) (xv 3) (xv 9)) (xv 10)) (xv 8)) (ex_ix (m_ix hr.units65) (ex_ix (m_ix hr.units65) (xv 3) (xv 5)) (xv 6)) (nomark _))))) (sx_cons (sx_expr (ex_m PySem.F.plainAttrs_list PySem.F.slot_list_append PySem.F.type_list_append me_append (xv 4) (ea_cons (xv 7) ea_nil)))
    (sx_cons (sx_set sc_least_alignment.nd (xv 9))
    (sx_cons (sx_set sc_least_alignment.nd (xv 10))
    (sx_one sx_break)))) sx_nil)))))
    (sx_one (sx_ret (ex_callT c_tuple (by rfl) z_tuple bt_tuple (ea_cons (xv 4) ea_nil))))))))))
def N__law_begin : List PySem.Str := ["script", "cell"]
theorem sc__law_begin : FnScope N__law_begin ["script"] (defScope s__law_begin) := ⟨rfl, rfl, rfl, by decide +kernel, rfl, by decide +kernel, by decide +kernel⟩
def m__law_begin : SM := (sRet (eLst (aCons (eEl (lComp [1] (iEx (eVar 0)) (gN 1) tYes (eCB fInt (aCons (eVar 1) aNil)))) (aCons (eC (.int 0)) (aCons (eC (.int 0)) (aCons (eC (.int 7)) aNil))))))
theorem ok__law_begin {P : Program} {w : World} {K : PySem.W.Frag} {mg : PySem.Str → Option Value} {base : Heap} {f : Addr} {fd : FuncData} (F : FnP K "_law_begin" s__law_begin f fd) (gx : mg "_law_begin" = some (.ref f)) (z_int : mg "int" = none) :
    Cal P w K mg base "_law_begin" 1 ["script"] (runB 2 (m__law_begin)) :=
  cal_mk (k := 0) F sc__law_begin gx (fun _ _ _ _ _ _ us hl => match us, hl with | [_], _ => rfl) fun cdv A outer s H E hr tk hp =>
    (sx_one (sx_ret (ex_lst (ea_cons (ex_el (el_comp (own := [(("cell" : PySem.Str), 1)]) (by rfl) sc__law_begin.nd (ei_ex (xv 0)) (blkOk_by (N := N__law_begin) (sc := (defScope s__law_begin)) (by decide +kernel)) (fun _ _ _ _ _ => (eg_name sc__law_begin.nd)) (fun _ _ _ _ _ => ets_nil) (fun _ _ _ _ _ => (ex_callT c_int (by rfl) z_int bt_int (ea_cons (xv 1) ea_nil))))) (ea_cons ex_int (ea_cons ex_int (ea_cons ex_int ea_nil)))))))
def N__law_draw : List PySem.Str := ["d", "many", "found", "size", "cell"]
theorem sc__law_draw : FnScope N__law_draw ["d", "many"] (defScope s__law_draw) := ⟨rfl, rfl, rfl, by decide +kernel, rfl, by decide +kernel, by decide +kernel⟩
def m__law_draw : SM := (sSeq (sIf (tBl (eBin oGt (eBin oIx (eVar 0) (eC (.int 2))) (eC (.int 0)))) (sSeq (sSet 2 (eBin oIx (eVar 0) (eC (.int 2))))
    (sSeq (sSub (eVar 0) (eC (.int 2)) (eBin oDiv (eVar 2) (eVar 1)))
    (sRet (eBin oMod (eCB fInt (aCons (eVar 2) aNil)) (eVar 1))))) sNil)
    (sSeq (sSet 3 (eC (.int 0)))
    (sSeq (sIf (tBl (eBin oLt (eBin oIx (eVar 0) (eC (.int 1))) (eCB fLen (aCons (eBin oIx (eVar 0) (eC (.int 0))) aNil)))) (sSeq (sSet 4 (eBin oIx (eBin oIx (eVar 0) (eC (.int 0))) (eBin oIx (eVar 0) (eC (.int 1)))))
    (sSet 3 (eBin oAdd (eBin oMul (eC (.int 2)) (eCB fAbs (aCons (eVar 4) aNil))) (eCB fInt (aCons (eBin oLt (eVar 4) (eC (.int 0))) aNil))))) sNil)
    (sSeq (sAugS oIAdd (eVar 0) (eC (.int 1)) (eC (.int 1)))
    (sSeq (sIf (tBl (eBin oGe (eVar 3) (eBin oMul (eC (.int 2)) (eBin oPow (eC (.int 10)) (eC (.int 18)))))) (sSeq (sSet 2 (eBin oMod (eCB fInt (aCons (eBin oDiv (eVar 3) (eC (.int 2))) aNil)) (eBin oShl (eC (.int 1)) (eC (.int 6000)))))
    (sSeq (sSub (eVar 0) (eC (.int 2)) (eBin oDiv (eVar 2) (eVar 1)))
    (sRet (eBin oMod (eCB fInt (aCons (eVar 2) aNil)) (eVar 1))))) sNil)
    (sSeq (sSub (eVar 0) (eC (.int 3)) (eBin oMod (eCB fInt (aCons (eBin oAdd (eBin oAdd (eBin oAdd (eBin oMul (eBin oIx (eVar 0) (eC (.int 3))) (eC (.int 48271))) (eBin oMul (eBin oMod (eCB fInt (aCons (eVar 3) aNil)) (eC (.int 2147483629))) (eC (.int 16807)))) (eBin oMul (eBin oIx (eVar 0) (eC (.int 1))) (eC (.int 69621)))) (eC (.int 11))) aNil)) (eC (.int 2147483647))))
    (sRet (eBin oMod (eCB fInt (aCons (eBin oDiv (eBin oIx (eVar 0) (eC (.int 3))) (eC (.int 16))) aNil)) (eVar 1)))))))))
theorem ok__law_draw {P : Program} {w : World} {K : PySem.W.Frag} {mg : PySem.Str → Option Value} {base : Heap} {f : Addr} {fd : FuncData} (F : FnP K "_law_draw" s__law_draw f fd) (gx : mg "_law_draw" = some (.ref f)) (z_int : mg "int" = none) (z_len : mg "len" = none) (z_abs : mg "abs" = none) :
    Cal P w K mg base "_law_draw" 1 ["d", "many"] (runB 5 (m__law_draw)) :=
  cal_mk (k := 0) F sc__law_draw gx (fun _ _ _ _ _ _ us hl => match us, hl with | [_, _], _ => rfl) fun cdv A outer s H E hr tk hp =>
    (sx_cons (sx_if (et_cmp m_gt (ex_ix (m_ix hr.units65) (xv 0) ex_int) ex_int (nomark _)) (sx_cons (sx_set sc__law_draw.nd (ex_ix (m_ix hr.units65) (xv 0) ex_int))
    (sx_cons (sx_sub hr.units65 (ex_op m_div (xv 2) (xv 1)) (xv 0) ex_int)
    (sx_one (sx_ret (ex_op m_mod (ex_callT c_int (by rfl) z_int bt_int (ea_cons (xv 2) ea_nil)) (xv 1)))))) sx_nil)
    (sx_cons (sx_set sc__law_draw.nd ex_int)
    (sx_cons (sx_if (et_cmp (m_lt hr.units65) (ex_ix (m_ix hr.units65) (xv 0) ex_int) (ex_callB c_len (by rfl) z_len bt_len (ea_cons (ex_ix (m_ix hr.units65) (xv 0) ex_int) ea_nil)) (nomark _)) (sx_cons (sx_set sc__law_draw.nd (ex_ix (m_ix hr.units65) (ex_ix (m_ix hr.units65) (xv 0) ex_int) (ex_ix (m_ix hr.units65) (xv 0) ex_int)))
    (sx_one (sx_set sc__law_draw.nd (ex_op m_add (ex_op m_mul ex_int (ex_callB c_abs (by rfl) z_abs bt_abs (ea_cons (xv 4) ea_nil))) (ex_callT c_int (by rfl) z_int bt_int (ea_cons (ex_cmp (m_lt hr.units65) (xv 4) ex_int (nomark _)) ea_nil)))))) sx_nil)
    (sx_cons (sx_augS hr.units65 (xv 0) ex_int ex_int mi_add)
    (sx_cons (sx_if (et_cmp m_ge (xv 3) (ex_op m_mul ex_int (ex_op m_pow ex_int ex_int)) (nomark _)) (sx_cons (sx_set sc__law_draw.nd (ex_op m_mod (ex_callT c_int (by rfl) z_int bt_int (ea_cons (ex_op m_div (xv 3) ex_int) ea_nil)) (ex_op m_shl ex_int ex_int)))
    (sx_cons (sx_sub hr.units65 (ex_op m_div (xv 2) (xv 1)) (xv 0) ex_int)
    (sx_one (sx_ret (ex_op m_mod (ex_callT c_int (by rfl) z_int bt_int (ea_cons (xv 2) ea_nil)) (xv 1)))))) sx_nil)
    (sx_cons (sx_sub hr.units65 (ex_op m_mod (ex_callT c_int (by rfl) z_int bt_int (ea_cons (ex_op m_add (ex_op m_add (ex_op m_add (ex_op m_mul (ex_ix (m_ix hr.units65) (xv 0) ex_int) ex_int) (ex_op m_mul (ex_op m_mod (ex_callT c_int (by rfl) z_int bt_int (ea_cons (xv 3) ea_nil)) ex_int) ex_int)) (ex_op m_mul (ex_ix (m_ix hr.units65) (xv 0) ex_int) ex_int)) ex_int) ea_nil)) ex_int) (xv 0) ex_int)
    (sx_one (sx_ret (ex_op m_mod (ex_callT c_int (by rfl) z_int bt_int (ea_cons (ex_op m_div (ex_ix (m_ix hr.units65) (xv 0) ex_int) ex_int) ea_nil)) (xv 1))))))))))
def N__law_pick : List PySem.Str := ["d", "row"]
theorem sc__law_pick : FnScope N__law_pick ["d", "row"] (defScope s__law_pick) := ⟨rfl, rfl, rfl, by decide +kernel, rfl, by decide +kernel, by decide +kernel⟩
def m__law_pick (f__law_draw : FM) : SM := (sRet (eBin oIx (eVar 1) (eCall 2 f__law_draw (aCons (eVar 0) (aCons (eCB fLen (aCons (eVar 1) aNil)) aNil)))))
theorem ok__law_pick {P : Program} {w : World} {K : PySem.W.Frag} {mg : PySem.Str → Option Value} {base : Heap} {f : Addr} {fd : FuncData} {f__law_draw : FM} (F : FnP K "_law_pick" s__law_pick f fd) (gx : mg "_law_pick" = some (.ref f)) (c__law_draw : Cal P w K mg base "_law_draw" 1 ["d", "many"] f__law_draw) (z_len : mg "len" = none) :
    Cal P w K mg base "_law_pick" 2 ["d", "row"] (runB 2 (m__law_pick f__law_draw)) :=
  cal_mk (k := 1) F sc__law_pick gx (fun _ _ _ _ _ _ us hl => match us, hl with | [_, _], _ => rfl) fun cdv A outer s H E hr tk hp =>
    (sx_one (sx_ret (ex_ix (m_ix hr.units65) (xv 1) (ex_c1 c__law_draw tk hr (by decide) (ea_cons (xv 0) (ea_cons (ex_callB c_len (by rfl) z_len bt_len (ea_cons (xv 1) ea_nil)) ea_nil))))))
def N__law_rare : List PySem.Str := ["d", "many"]
theorem sc__law_rare : FnScope N__law_rare ["d", "many"] (defScope s__law_rare) := ⟨rfl, rfl, rfl, by decide +kernel, rfl, by decide +kernel, by decide +kernel⟩
def m__law_rare (f__law_draw : FM) : SM := (sRet (eBin oEq (eCall 2 f__law_draw (aCons (eVar 0) (aCons (eVar 1) aNil))) (eBin oDiv (eVar 1) (eC (.int 2)))))
theorem ok__law_rare {P : Program} {w : World} {K : PySem.W.Frag} {mg : PySem.Str → Option Value} {base : Heap} {f : Addr} {fd : FuncData} {f__law_draw : FM} (F : FnP K "_law_rare" s__law_rare f fd) (gx : mg "_law_rare" = some (.ref f)) (c__law_draw : Cal P w K mg base "_law_draw" 1 ["d", "many"] f__law_draw) :
    Cal P w K mg base "_law_rare" 2 ["d", "many"] (runB 2 (m__law_rare f__law_draw)) :=
  cal_mk (k := 1) F sc__law_rare gx (fun _ _ _ _ _ _ us hl => match us, hl with | [_, _], _ => rfl) fun cdv A outer s H E hr tk hp =>
    (sx_one (sx_ret (ex_cmp (m_eq hr.units) (ex_c1 c__law_draw tk hr (by decide) (ea_cons (xv 0) (ea_cons (xv 1) ea_nil))) (ex_op m_div (xv 1) ex_int) (nomark _))))
def N__law_shuffled : List PySem.Str := ["d", "row", "left", "found", "k"]
theorem sc__law_shuffled : FnScope N__law_shuffled ["d", "row"] (defScope s__law_shuffled) := ⟨rfl, rfl, rfl, by decide +kernel, rfl, by decide +kernel, by decide +kernel⟩
def m__law_shuffled (f__law_draw : FM) : SM := (sSeq (sSet 2 (eCB fList (aCons (eVar 1) aNil)))
    (sSeq (sSet 3 (eLst aNil))
    (sSeq (sFor (iRg1 (eCB fLen (aCons (eVar 2) aNil))) (gN 4) (sExpr (eM "list" mAppend (eVar 3) (aCons (eM "list" mPopAt (eVar 2) (aCons (eCall 2 f__law_draw (aCons (eVar 0) (aCons (eCB fLen (aCons (eVar 2) aNil)) aNil))) aNil)) aNil))))
    (sRet (eVar 3)))))
theorem ok__law_shuffled {P : Program} {w : World} {K : PySem.W.Frag} {mg : PySem.Str → Option Value} {base : Heap} {f : Addr} {fd : FuncData} {f__law_draw : FM} (F : FnP K "_law_shuffled" s__law_shuffled f fd) (gx : mg "_law_shuffled" = some (.ref f)) (c__law_draw : Cal P w K mg base "_law_draw" 1 ["d", "many"] f__law_draw) (z_list : mg "list" = none) (z_range : mg "range" = none) (z_len : mg "len" = none) :
    Cal P w K mg base "_law_shuffled" 2 ["d", "row"] (runB 5 (m__law_shuffled f__law_draw)) :=
  cal_mk (k := 1) F sc__law_shuffled gx (fun _ _ _ _ _ _ us hl => match us, hl with | [_, _], _ => rfl) fun cdv A outer s H E hr tk hp =>
    (sx_cons (sx_set sc__law_shuffled.nd (ex_callT c_list (by rfl) z_list bt_list (ea_cons (xv 1) ea_nil)))
    (sx_cons (sx_set sc__law_shuffled.nd (ex_lst ea_nil))
    (sx_cons (sx_for hp (by rfl) (ei_range1 (by rfl) z_range (ex_callB c_len (by rfl) z_len bt_len (ea_cons (xv 2) ea_nil))) (eg_name sc__law_shuffled.nd) (sx_one (sx_expr (ex_m PySem.F.plainAttrs_list PySem.F.slot_list_append PySem.F.type_list_append me_append (xv 3) (ea_cons (ex_m PySem.F.plainAttrs_list PySem.F.slot_list_pop PySem.F.type_list_pop me_popAt (xv 2) (ea_cons (ex_c1 c__law_draw tk hr (by decide) (ea_cons (xv 0) (ea_cons (ex_callB c_len (by rfl) z_len bt_len (ea_cons (xv 2) ea_nil)) ea_nil))) ea_nil)) ea_nil)))))
    (sx_one (sx_ret (xv 3))))))
def N__law_is_int : List PySem.Str := ["thing"]
theorem sc__law_is_int : FnScope N__law_is_int ["thing"] (defScope s__law_is_int) := ⟨rfl, rfl, rfl, by decide +kernel, rfl, by decide +kernel, by decide +kernel⟩
def m__law_is_int : SM := (sRet (eAnd (eCB fIsi (aCons (eVar 0) (aCons (eC (.ty "int")) aNil))) (eNot (eCB fIsi (aCons (eVar 0) (aCons (eC (.ty "bool")) aNil))))))
theorem ok__law_is_int {P : Program} {w : World} {K : PySem.W.Frag} {mg : PySem.Str → Option Value} {base : Heap} {f : Addr} {fd : FuncData} (F : FnP K "_law_is_int" s__law_is_int f fd) (gx : mg "_law_is_int" = some (.ref f)) (z_int : mg "int" = none) (z_isinstance : mg "isinstance" = none) (z_bool : mg "bool" = none) :
    Cal P w K mg base "_law_is_int" 1 ["thing"] (runB 1 (m__law_is_int)) :=
  cal_mk (k := 0) F sc__law_is_int gx (fun _ _ _ _ _ _ us hl => match us, hl with | [_], _ => rfl) fun cdv A outer s H E hr tk hp =>
    (sx_one (sx_ret (ex_and (ex_callB c_isi (by rfl) z_isinstance bt_isinstance (ea_cons (xv 0) (ea_cons (ex_bltn (by rfl) z_int bt_int (by rfl) (fun _ _ => .ty _)) ea_nil))) (ex_one (ex_not (ex_callB c_isi (by rfl) z_isinstance bt_isinstance (ea_cons (xv 0) (ea_cons (ex_bltn (by rfl) z_bool bt_bool (by rfl) (fun _ _ => .ty _)) ea_nil))))))))
def N__law_all_edits : List PySem.Str := ["kinds", "found", "k", "other"]
theorem sc__law_all_edits : FnScope N__law_all_edits ["kinds"] (defScope s__law_all_edits) := ⟨rfl, rfl, rfl, by decide +kernel, rfl, by decide +kernel, by decide +kernel⟩
def m__law_all_edits : SM := (sSeq (sSet 1 (eBin oAdd (eEl (lComp [2] (iRg1 (eVar 0)) (gN 2) tYes (eTup (aCons (eC (.str [99, 117, 116])) (aCons (eVar 2) aNil))))) (eEl (lComp [2] (iRg1 (eVar 0)) (gN 2) tYes (eTup (aCons (eC (.str [112, 117, 116])) (aCons (eVar 2) aNil)))))))
    (sSeq (sFor (iRg1 (eVar 0)) (gN 2) (sExpr (eM "list" mExtend (eVar 1) (aCons (eEl (lComp [3] (iRg1 (eVar 0)) (gN 3) (tBl (eBin oNe (eVar 3) (eVar 2))) (eTup (aCons (eC (.str [116, 117, 114, 110])) (aCons (eVar 2) (aCons (eVar 3) aNil)))))) aNil))))
    (sRet (eCB fTuple (aCons (eVar 1) aNil)))))
theorem ok__law_all_edits {P : Program} {w : World} {K : PySem.W.Frag} {mg : PySem.Str → Option Value} {base : Heap} {f : Addr} {fd : FuncData} (F : FnP K "_law_all_edits" s__law_all_edits f fd) (gx : mg "_law_all_edits" = some (.ref f)) (z_range : mg "range" = none) (z_tuple : mg "tuple" = none) :
    Cal P w K mg base "_law_all_edits" 1 ["kinds"] (runB 4 (m__law_all_edits)) :=
  cal_mk (k := 0) F sc__law_all_edits gx (fun _ _ _ _ _ _ us hl => match us, hl with | [_], _ => rfl) fun cdv A outer s H E hr tk hp =>
    (sx_cons (sx_set sc__law_all_edits.nd (ex_op m_add (ex_el (el_comp (own := [(("k" : PySem.Str), 2)]) (by rfl) sc__law_all_edits.nd (ei_range1 (by rfl) z_range (xv 0)) (blkOk_by (N := N__law_all_edits) (sc := (defScope s__law_all_edits)) (by decide +kernel)) (fun _ _ _ _ _ => (eg_name sc__law_all_edits.nd)) (fun _ _ _ _ _ => ets_nil) (fun _ _ _ _ _ => (ex_tup (ea_cons (ex_strc [99, 117, 116] (by decide +kernel)) (ea_cons (xv 2) ea_nil)))))) (ex_el (el_comp (own := [(("k" : PySem.Str), 2)]) (by rfl) sc__law_all_edits.nd (ei_range1 (by rfl) z_range (xv 0)) (blkOk_by (N := N__law_all_edits) (sc := (defScope s__law_all_edits)) (by decide +kernel)) (fun _ _ _ _ _ => (eg_name sc__law_all_edits.nd)) (fun _ _ _ _ _ => ets_nil) (fun _ _ _ _ _ => (ex_tup (ea_cons (ex_strc [112, 117, 116] (by decide +kernel)) (ea_cons (xv 2) ea_nil))))))))
    (sx_cons (sx_for hp (by rfl) (ei_range1 (by rfl) z_range (xv 0)) (eg_name sc__law_all_edits.nd) (sx_one (sx_expr (ex_m PySem.F.plainAttrs_list PySem.F.slot_list_extend PySem.F.type_list_extend me_extend (xv 1) (ea_cons (ex_el (el_comp (own := [(("other" : PySem.Str), 3)]) (by rfl) sc__law_all_edits.nd (ei_range1 (by rfl) z_range (xv 0)) (blkOk_by (N := N__law_all_edits) (sc := (defScope s__law_all_edits)) (by decide +kernel)) (fun _ _ _ _ _ => (eg_name sc__law_all_edits.nd)) (fun _ _ _ _ _ => (ets_one (et_cmp (m_ne hr.units) (xv 3) (xv 2) (nomark _)))) (fun _ _ _ _ _ => (ex_tup (ea_cons (ex_strc [116, 117, 114, 110] (by decide +kernel)) (ea_cons (xv 2) (ea_cons (xv 3) ea_nil))))))) ea_nil)))))
    (sx_one (sx_ret (ex_callT c_tuple (by rfl) z_tuple bt_tuple (ea_cons (xv 1) ea_nil))))))
def N__law_near : List PySem.Str := ["d", "kinds", "whole", "style", "found", "edit"]
theorem sc__law_near : FnScope N__law_near ["d", "kinds"] (defScope s__law_near) := ⟨rfl, rfl, rfl, by decide +kernel, rfl, by decide +kernel, by decide +kernel⟩
def m__law_near (f__law_all_edits : FM) (f__law_draw : FM) : SM := (sSeq (sSet 2 (eCall 1 f__law_all_edits (aCons (eVar 1) aNil)))
    (sSeq (sSet 3 (eCall 2 f__law_draw (aCons (eVar 0) (aCons (eC (.int 5)) aNil))))
    (sSeq (sIf (tBl (eBin oEq (eVar 3) (eC (.int 0)))) (sRet (eVar 2)) sNil)
    (sSeq (sIf (tBl (eBin oEq (eVar 3) (eC (.int 1)))) (sRet (eCS gTuple (lComp [5] (iEx (eVar 2)) (gN 5) (tBl (eBin oNe (eBin oIx (eVar 5) (eC (.int 0))) (eC (.str [116, 117, 114, 110])))) (eVar 5)))) sNil)
    (sSeq (sIf (tBl (eBin oEq (eVar 3) (eC (.int 2)))) (sRet (eCS gTuple (lComp [5] (iEx (eVar 2)) (gN 5) (tBl (eBin oEq (eBin oIx (eVar 5) (eC (.int 0))) (eC (.str [116, 117, 114, 110])))) (eVar 5)))) sNil)
    (sSeq (sSet 4 (eLst aNil))
    (sSeq (sFor (iEx (eVar 2)) (gN 5) (sIf (tBl (eBin oLt (eCall 2 f__law_draw (aCons (eVar 0) (aCons (eC (.int 3)) aNil))) (eC (.int 2)))) (sExpr (eM "list" mAppend (eVar 4) (aCons (eVar 5) aNil))) sNil))
    (sRet (eCB fTuple (aCons (eVar 4) aNil))))))))))
theorem ok__law_near {P : Program} {w : World} {K : PySem.W.Frag} {mg : PySem.Str → Option Value} {base : Heap} {f : Addr} {fd : FuncData} {f__law_all_edits f__law_draw : FM} (F : FnP K "_law_near" s__law_near f fd) (gx : mg "_law_near" = some (.ref f)) (c__law_all_edits : Cal P w K mg base "_law_all_edits" 1 ["kinds"] f__law_all_edits) (c__law_draw : Cal P w K mg base "_law_draw" 1 ["d", "many"] f__law_draw) (z_tuple : mg "tuple" = none) :
    Cal P w K mg base "_law_near" 2 ["d", "kinds"] (runB 6 (m__law_near f__law_all_edits f__law_draw)) :=
  cal_mk (k := 1) F sc__law_near gx (fun _ _ _ _ _ _ us hl => match us, hl with | [_, _], _ => rfl) fun cdv A outer s H E hr tk hp =>
    (sx_cons (sx_set sc__law_near.nd (ex_c1 c__law_all_edits tk hr (by decide) (ea_cons (xv 1) ea_nil)))
    (sx_cons (sx_set sc__law_near.nd (ex_c1 c__law_draw tk hr (by decide) (ea_cons (xv 0) (ea_cons ex_int ea_nil))))
    (sx_cons (sx_if (et_cmp (m_eq hr.units) (xv 3) ex_int (nomark _)) (sx_one (sx_ret (xv 2))) sx_nil)
    (sx_cons (sx_if (et_cmp (m_eq hr.units) (xv 3) ex_int (nomark _)) (sx_one (sx_ret (ex_callTs s_tuple (by rfl) z_tuple bt_tuple (es_el (el_comp (own := [(("edit" : PySem.Str), 5)]) (by rfl) sc__law_near.nd (ei_ex (xv 2)) (blkOk_by (N := N__law_near) (sc := (defScope s__law_near)) (by decide +kernel)) (fun _ _ _ _ _ => (eg_name sc__law_near.nd)) (fun _ _ _ _ _ => (ets_one (et_cmp (m_ne hr.units) (ex_ix (m_ix hr.units65) (xv 5) ex_int) (ex_strc [116, 117, 114, 110] (by decide +kernel)) (nomark _)))) (fun _ _ _ _ _ => (xv 5))))))) sx_nil)
    (sx_cons (sx_if (et_cmp (m_eq hr.units) (xv 3) ex_int (nomark _)) (sx_one (sx_ret (ex_callTs s_tuple (by rfl) z_tuple bt_tuple (es_el (el_comp (own := [(("edit" : PySem.Str), 5)]) (by rfl) sc__law_near.nd (ei_ex (xv 2)) (blkOk_by (N := N__law_near) (sc := (defScope s__law_near)) (by decide +kernel)) (fun _ _ _ _ _ => (eg_name sc__law_near.nd)) (fun _ _ _ _ _ => (ets_one (et_cmp (m_eq hr.units) (ex_ix (m_ix hr.units65) (xv 5) ex_int) (ex_strc [116, 117, 114, 110] (by decide +kernel)) (nomark _)))) (fun _ _ _ _ _ => (xv 5))))))) sx_nil)
    (sx_cons (sx_set sc__law_near.nd (ex_lst ea_nil))
    (sx_cons (sx_for hp (by rfl) (ei_ex (xv 2)) (eg_name sc__law_near.nd) (sx_one (sx_if (et_cmp (m_lt hr.units65) (ex_c1 c__law_draw tk hr (by decide) (ea_cons (xv 0) (ea_cons ex_int ea_nil))) ex_int (nomark _)) (sx_one (sx_expr (ex_m PySem.F.plainAttrs_list PySem.F.slot_list_append PySem.F.type_list_append me_append (xv 4) (ea_cons (xv 5) ea_nil)))) sx_nil)))
    (sx_one (sx_ret (ex_callT c_tuple (by rfl) z_tuple bt_tuple (ea_cons (xv 4) ea_nil)))))))))))
def N__law_table : List PySem.Str := ["d", "kinds", "most", "size", "k"]
theorem sc__law_table : FnScope N__law_table ["d", "kinds", "most"] (defScope s__law_table) := ⟨rfl, rfl, rfl, by decide +kernel, rfl, by decide +kernel, by decide +kernel⟩
def m__law_table (f__law_draw : FM) : SM := (sSeq (sSet 3 (eCall 2 f__law_draw (aCons (eVar 0) (aCons (eBin oAdd (eVar 2) (eC (.int 1))) aNil))))
    (sRet (eCS gTuple (lComp [4] (iRg1 (eVar 3)) (gN 4) tYes (eCall 2 f__law_draw (aCons (eVar 0) (aCons (eVar 1) aNil)))))))
theorem ok__law_table {P : Program} {w : World} {K : PySem.W.Frag} {mg : PySem.Str → Option Value} {base : Heap} {f : Addr} {fd : FuncData} {f__law_draw : FM} (F : FnP K "_law_table" s__law_table f fd) (gx : mg "_law_table" = some (.ref f)) (c__law_draw : Cal P w K mg base "_law_draw" 1 ["d", "many"] f__law_draw) (z_range : mg "range" = none) (z_tuple : mg "tuple" = none) :
    Cal P w K mg base "_law_table" 2 ["d", "kinds", "most"] (runB 5 (m__law_table f__law_draw)) :=
  cal_mk (k := 1) F sc__law_table gx (fun _ _ _ _ _ _ us hl => match us, hl with | [_, _, _], _ => rfl) fun cdv A outer s H E hr tk hp =>
    (sx_cons (sx_set sc__law_table.nd (ex_c1 c__law_draw tk hr (by decide) (ea_cons (xv 0) (ea_cons (ex_op m_add (xv 2) ex_int) ea_nil))))
    (sx_one (sx_ret (ex_callTs s_tuple (by rfl) z_tuple bt_tuple (es_el (el_comp (own := [(("k" : PySem.Str), 4)]) (by rfl) sc__law_table.nd (ei_range1 (by rfl) z_range (xv 3)) (blkOk_by (N := N__law_table) (sc := (defScope s__law_table)) (by decide +kernel)) (fun _ _ _ _ _ => (eg_name sc__law_table.nd)) (fun _ _ _ _ _ => ets_nil) (fun _ _ _ _ _ => (ex_c1 c__law_draw tk0 hr (by decide) (ea_cons (xv 0) (ea_cons (xv 1) ea_nil))))))))))
def N__law_bent : List PySem.Str := ["d", "near", "table", "g", "found", "left", "kind", "puts", "ways", "edit"]
theorem sc__law_bent : FnScope N__law_bent ["d", "near", "table", "g"] (defScope s__law_bent) := ⟨rfl, rfl, rfl, by decide +kernel, rfl, by decide +kernel, by decide +kernel⟩
def m__law_bent (f__law_draw : FM) (f__law_pick : FM) : SM := (sSeq (sSet 4 (eLst aNil))
    (sSeq (sSet 5 (eVar 3))
    (sSeq (sFor (iEx (eBin oAdd (eCB fList (aCons (eVar 2) aNil)) (eLst (aCons (eUn oNeg (eC (.int 1))) aNil)))) (gN 6) (sSeq (sSet 7 (eEl (lComp [9] (iEx (eVar 1)) (gN 9) (tBl (eBin oEq (eBin oIx (eVar 9) (eC (.int 0))) (eC (.str [112, 117, 116])))) (eVar 9))))
    (sSeq (sIf (tAnd (tBl (eBin oGt (eVar 5) (eC (.int 0)))) (tAnd (tBl (eBin oGt (eCB fLen (aCons (eVar 7) aNil)) (eC (.int 0)))) (tBl (eBin oEq (eCall 2 f__law_draw (aCons (eVar 0) (aCons (eC (.int 3)) aNil))) (eC (.int 1)))))) (sSeq (sExpr (eM "list" mAppend (eVar 4) (aCons (eCall 2 f__law_pick (aCons (eVar 0) (aCons (eVar 7) aNil))) aNil)))
    (sAug 5 oSub (eC (.int 1)))) sNil)
    (sIf (tBl (eBin oGe (eVar 6) (eC (.int 0)))) (sSeq (sSet 8 (eEl (lComp [9] (iEx (eVar 1)) (gN 9) (tAnd (tBl (eBin oNe (eBin oIx (eVar 9) (eC (.int 0))) (eC (.str [112, 117, 116])))) (tBl (eBin oEq (eBin oIx (eVar 9) (eC (.int 1))) (eVar 6)))) (eVar 9))))
    (sIf (tAnd (tBl (eBin oGt (eVar 5) (eC (.int 0)))) (tAnd (tBl (eBin oGt (eCB fLen (aCons (eVar 8) aNil)) (eC (.int 0)))) (tBl (eBin oEq (eCall 2 f__law_draw (aCons (eVar 0) (aCons (eC (.int 2)) aNil))) (eC (.int 1)))))) (sSeq (sExpr (eM "list" mAppend (eVar 4) (aCons (eCall 2 f__law_pick (aCons (eVar 0) (aCons (eVar 8) aNil))) aNil)))
    (sAug 5 oSub (eC (.int 1)))) (sExpr (eM "list" mAppend (eVar 4) (aCons (eTup (aCons (eC (.str [107, 101, 101, 112])) (aCons (eVar 6) aNil))) aNil))))) sNil))))
    (sRet (eCB fTuple (aCons (eVar 4) aNil))))))
theorem ok__law_bent {P : Program} {w : World} {K : PySem.W.Frag} {mg : PySem.Str → Option Value} {base : Heap} {f : Addr} {fd : FuncData} {f__law_draw f__law_pick : FM} (F : FnP K "_law_bent" s__law_bent f fd) (gx : mg "_law_bent" = some (.ref f)) (c__law_draw : Cal P w K mg base "_law_draw" 1 ["d", "many"] f__law_draw) (c__law_pick : Cal P w K mg base "_law_pick" 2 ["d", "row"] f__law_pick) (z_list : mg "list" = none) (z_len : mg "len" = none) (z_tuple : mg "tuple" = none) :
    Cal P w K mg base "_law_bent" 3 ["d", "near", "table", "g"] (runB 10 (m__law_bent f__law_draw f__law_pick)) :=
  cal_mk (k := 2) F sc__law_bent gx (fun _ _ _ _ _ _ us hl => match us, hl with | [_, _, _, _], _ => rfl) fun cdv A outer s H E hr tk hp =>
    (sx_cons (sx_set sc__law_bent.nd (ex_lst ea_nil))
    (sx_cons (sx_set sc__law_bent.nd (xv 3))
    (sx_cons (sx_for hp (by rfl) (ei_ex (ex_op m_add (ex_callT c_list (by rfl) z_list bt_list (ea_cons (xv 2) ea_nil)) (ex_lst (ea_cons (ex_un m_neg ex_int) ea_nil)))) (eg_name sc__law_bent.nd) (sx_cons (sx_setLc (own := [(("edit" : PySem.Str), 9)]) (by rfl) sc__law_bent.nd (ei_ex (xv 1)) (blkOk_by (N := N__law_bent) (sc := (defScope s__law_bent)) (by decide +kernel)) (fun _ _ _ _ _ => (eg_name sc__law_bent.nd)) (fun _ _ _ _ _ => (ets_one (et_cmp (m_eq hr.units) (ex_ix (m_ix hr.units65) (xv 9) ex_int) (ex_strc [112, 117, 116] (by decide +kernel)) (nomark _)))) (fun _ _ _ _ _ => (xv 9)))
    (sx_cons (sx_if (Ew.et (ew_and (et_cmp m_gt (xv 5) ex_int (nomark _)) (ew_and (et_cmp m_gt (ex_callB c_len (by rfl) z_len bt_len (ea_cons (xv 7) ea_nil)) ex_int (nomark _)) (ew_and1 (et_cmp (m_eq hr.units) (ex_c1 c__law_draw tk hr (by decide) (ea_cons (xv 0) (ea_cons ex_int ea_nil))) ex_int (nomark _)))))) (sx_cons (sx_expr (ex_m PySem.F.plainAttrs_list PySem.F.slot_list_append PySem.F.type_list_append me_append (xv 4) (ea_cons (ex_c1 c__law_pick tk hr (by decide) (ea_cons (xv 0) (ea_cons (xv 7) ea_nil))) ea_nil)))
    (sx_one (sx_aug sc__law_bent.nd ex_int mi_sub))) sx_nil)
    (sx_one (sx_if (et_cmp m_ge (xv 6) ex_int (nomark _)) (sx_cons (sx_setLc (own := [(("edit" : PySem.Str), 9)]) (by rfl) sc__law_bent.nd (ei_ex (xv 1)) (blkOk_by (N := N__law_bent) (sc := (defScope s__law_bent)) (by decide +kernel)) (fun _ _ _ _ _ => (eg_name sc__law_bent.nd)) (fun _ _ _ _ _ => (ets_one (Ew.et (ew_and (et_cmp (m_ne hr.units) (ex_ix (m_ix hr.units65) (xv 9) ex_int) (ex_strc [112, 117, 116] (by decide +kernel)) (nomark _)) (ew_and1 (et_cmp (m_eq hr.units) (ex_ix (m_ix hr.units65) (xv 9) ex_int) (xv 6) (nomark _))))))) (fun _ _ _ _ _ => (xv 9)))
    (sx_one (sx_if (Ew.et (ew_and (et_cmp m_gt (xv 5) ex_int (nomark _)) (ew_and (et_cmp m_gt (ex_callB c_len (by rfl) z_len bt_len (ea_cons (xv 8) ea_nil)) ex_int (nomark _)) (ew_and1 (et_cmp (m_eq hr.units) (ex_c1 c__law_draw tk hr (by decide) (ea_cons (xv 0) (ea_cons ex_int ea_nil))) ex_int (nomark _)))))) (sx_cons (sx_expr (ex_m PySem.F.plainAttrs_list PySem.F.slot_list_append PySem.F.type_list_append me_append (xv 4) (ea_cons (ex_c1 c__law_pick tk hr (by decide) (ea_cons (xv 0) (ea_cons (xv 8) ea_nil))) ea_nil)))
    (sx_one (sx_aug sc__law_bent.nd ex_int mi_sub))) (sx_one (sx_expr (ex_m PySem.F.plainAttrs_list PySem.F.slot_list_append PySem.F.type_list_append me_append (xv 4) (ea_cons (ex_tup (ea_cons (ex_strc [107, 101, 101, 112] (by decide +kernel)) (ea_cons (xv 6) ea_nil))) ea_nil))))))) sx_nil)))))
    (sx_one (sx_ret (ex_callT c_tuple (by rfl) z_tuple bt_tuple (ea_cons (xv 4) ea_nil)))))))
def N__law_side : List PySem.Str := ["alignment", "second", "found", "step"]
theorem sc__law_side : FnScope N__law_side ["alignment", "second"] (defScope s__law_side) := ⟨rfl, rfl, rfl, by decide +kernel, rfl, by decide +kernel, by decide +kernel⟩
def m__law_side : SM := (sSeq (sSet 2 (eLst aNil))
    (sSeq (sFor (iEx (eVar 0)) (gN 3) (sSeq (sIf (tBl (eBin oEq (eBin oIx (eVar 3) (eC (.int 0))) (eC (.str [107, 101, 101, 112])))) (sExpr (eM "list" mAppend (eVar 2) (aCons (eBin oIx (eVar 3) (eC (.int 1))) aNil))) sNil)
    (sSeq (sIf (tAnd (tBl (eBin oEq (eBin oIx (eVar 3) (eC (.int 0))) (eC (.str [99, 117, 116])))) (HM.tNot (tVal (eVar 1)))) (sExpr (eM "list" mAppend (eVar 2) (aCons (eBin oIx (eVar 3) (eC (.int 1))) aNil))) sNil)
    (sSeq (sIf (tAnd (tBl (eBin oEq (eBin oIx (eVar 3) (eC (.int 0))) (eC (.str [112, 117, 116])))) (tVal (eVar 1))) (sExpr (eM "list" mAppend (eVar 2) (aCons (eBin oIx (eVar 3) (eC (.int 1))) aNil))) sNil)
    (sIf (tBl (eBin oEq (eBin oIx (eVar 3) (eC (.int 0))) (eC (.str [116, 117, 114, 110])))) (sExpr (eM "list" mAppend (eVar 2) (aCons (eIf (tVal (eVar 1)) (eBin oIx (eVar 3) (eC (.int 2))) (eBin oIx (eVar 3) (eC (.int 1)))) aNil))) sNil)))))
    (sRet (eCB fTuple (aCons (eVar 2) aNil)))))
theorem ok__law_side {P : Program} {w : World} {K : PySem.W.Frag} {mg : PySem.Str → Option Value} {base : Heap} {f : Addr} {fd : FuncData} (F : FnP K "_law_side" s__law_side f fd) (gx : mg "_law_side" = some (.ref f)) (z_tuple : mg "tuple" = none) :
    Cal P w K mg base "_law_side" 1 ["alignment", "second"] (runB 4 (m__law_side)) :=
  cal_mk (k := 0) F sc__law_side gx (fun _ _ _ _ _ _ us hl => match us, hl with | [_, _], _ => rfl) fun cdv A outer s H E hr tk hp =>
    (sx_cons (sx_set sc__law_side.nd (ex_lst ea_nil))
    (sx_cons (sx_for hp (by rfl) (ei_ex (xv 0)) (eg_name sc__law_side.nd) (sx_cons (sx_if (et_cmp (m_eq hr.units) (ex_ix (m_ix hr.units65) (xv 3) ex_int) (ex_strc [107, 101, 101, 112] (by decide +kernel)) (nomark _)) (sx_one (sx_expr (ex_m PySem.F.plainAttrs_list PySem.F.slot_list_append PySem.F.type_list_append me_append (xv 2) (ea_cons (ex_ix (m_ix hr.units65) (xv 3) ex_int) ea_nil)))) sx_nil)
    (sx_cons (sx_if (Ew.et (ew_and (et_cmp (m_eq hr.units) (ex_ix (m_ix hr.units65) (xv 3) ex_int) (ex_strc [99, 117, 116] (by decide +kernel)) (nomark _)) (ew_and1 (et_not (et_val (xv 1)))))) (sx_one (sx_expr (ex_m PySem.F.plainAttrs_list PySem.F.slot_list_append PySem.F.type_list_append me_append (xv 2) (ea_cons (ex_ix (m_ix hr.units65) (xv 3) ex_int) ea_nil)))) sx_nil)
    (sx_cons (sx_if (Ew.et (ew_and (et_cmp (m_eq hr.units) (ex_ix (m_ix hr.units65) (xv 3) ex_int) (ex_strc [112, 117, 116] (by decide +kernel)) (nomark _)) (ew_and1 (et_val (xv 1))))) (sx_one (sx_expr (ex_m PySem.F.plainAttrs_list PySem.F.slot_list_append PySem.F.type_list_append me_append (xv 2) (ea_cons (ex_ix (m_ix hr.units65) (xv 3) ex_int) ea_nil)))) sx_nil)
    (sx_one (sx_if (et_cmp (m_eq hr.units) (ex_ix (m_ix hr.units65) (xv 3) ex_int) (ex_strc [116, 117, 114, 110] (by decide +kernel)) (nomark _)) (sx_one (sx_expr (ex_m PySem.F.plainAttrs_list PySem.F.slot_list_append PySem.F.type_list_append me_append (xv 2) (ea_cons (ex_if (et_val (xv 1)) (ex_ix (m_ix hr.units65) (xv 3) ex_int) (ex_ix (m_ix hr.units65) (xv 3) ex_int)) ea_nil)))) sx_nil))))))
    (sx_one (sx_ret (ex_callT c_tuple (by rfl) z_tuple bt_tuple (ea_cons (xv 2) ea_nil))))))
def N__law_is_alignment : List PySem.Str := ["thing", "kinds", "step", "part"]
theorem sc__law_is_alignment : FnScope N__law_is_alignment ["thing", "kinds"] (defScope s__law_is_alignment) := ⟨rfl, rfl, rfl, by decide +kernel, rfl, by decide +kernel, by decide +kernel⟩
def m__law_is_alignment (f__law_is_int : FM) : SM := (sSeq (sIf (HM.tNot (tVal (eCB fIsi (aCons (eVar 0) (aCons (eC (.ty "tuple")) aNil))))) (sRet (eC (.bl false))) sNil)
    (sSeq (sFor (iEx (eVar 0)) (gN 2) (sSeq (sIf (tOr (HM.tNot (tVal (eCB fIsi (aCons (eVar 2) (aCons (eC (.ty "tuple")) aNil))))) (tOr (tBl (eBin oLt (eCB fLen (aCons (eVar 2) aNil)) (eC (.int 2)))) (HM.tNot (tVal (eCB fIsi (aCons (eBin oIx (eVar 2) (eC (.int 0))) (aCons (eC (.ty "str")) aNil))))))) (sRet (eC (.bl false))) sNil)
    (sSeq (sIf (tOr (tBl (eBin oNotIn (eBin oIx (eVar 2) (eC (.int 0))) (eTup (aCons (eC (.str [107, 101, 101, 112])) (aCons (eC (.str [99, 117, 116])) (aCons (eC (.str [112, 117, 116])) (aCons (eC (.str [116, 117, 114, 110])) aNil))))))) (tBl (eBin oNe (eCB fLen (aCons (eVar 2) aNil)) (eIf (tBl (eBin oEq (eBin oIx (eVar 2) (eC (.int 0))) (eC (.str [116, 117, 114, 110])))) (eC (.int 3)) (eC (.int 2)))))) (sRet (eC (.bl false))) sNil)
    (sSeq (sIf (HM.tNot (tVal (eCS gAllB (lComp [3] (iEx (eSl (eVar 2) (oSome (eC (.int 1))) oNone)) (gN 3) tYes (eAnd (eCall 1 f__law_is_int (aCons (eVar 3) aNil)) (eChain oLe oLt (eC (.int 0)) (eVar 3) (eVar 1))))))) (sRet (eC (.bl false))) sNil)
    (sIf (tAnd (tBl (eBin oEq (eBin oIx (eVar 2) (eC (.int 0))) (eC (.str [116, 117, 114, 110])))) (tBl (eBin oEq (eBin oIx (eVar 2) (eC (.int 1))) (eBin oIx (eVar 2) (eC (.int 2)))))) (sRet (eC (.bl false))) sNil)))))
    (sRet (eC (.bl true)))))
theorem ok__law_is_alignment {P : Program} {w : World} {K : PySem.W.Frag} {mg : PySem.Str → Option Value} {base : Heap} {f : Addr} {fd : FuncData} {f__law_is_int : FM} (F : FnP K "_law_is_alignment" s__law_is_alignment f fd) (gx : mg "_law_is_alignment" = some (.ref f)) (c__law_is_int : Cal P w K mg base "_law_is_int" 1 ["thing"] f__law_is_int) (z_tuple : mg "tuple" = none) (z_isinstance : mg "isinstance" = none) (z_len : mg "len" = none) (z_str : mg "str" = none) (z_all : mg "all" = none) :
    Cal P w K mg base "_law_is_alignment" 2 ["thing", "kinds"] (runB 4 (m__law_is_alignment f__law_is_int)) :=
  cal_mk (k := 1) F sc__law_is_alignment gx (fun _ _ _ _ _ _ us hl => match us, hl with | [_, _], _ => rfl) fun cdv A outer s H E hr tk hp =>
    (sx_cons (sx_if (et_not (et_val (ex_callB c_isi (by rfl) z_isinstance bt_isinstance (ea_cons (xv 0) (ea_cons (ex_bltn (by rfl) z_tuple bt_tuple (by rfl) (fun _ _ => .ty _)) ea_nil))))) (sx_one (sx_ret ex_bl)) sx_nil)
    (sx_cons (sx_for hp (by rfl) (ei_ex (xv 0)) (eg_name sc__law_is_alignment.nd) (sx_cons (sx_if (Ew.et (ew_or (et_not (et_val (ex_callB c_isi (by rfl) z_isinstance bt_isinstance (ea_cons (xv 2) (ea_cons (ex_bltn (by rfl) z_tuple bt_tuple (by rfl) (fun _ _ => .ty _)) ea_nil))))) (ew_or (et_cmp (m_lt hr.units65) (ex_callB c_len (by rfl) z_len bt_len (ea_cons (xv 2) ea_nil)) ex_int (nomark _)) (ew_or1 (et_not (et_val (ex_callB c_isi (by rfl) z_isinstance bt_isinstance (ea_cons (ex_ix (m_ix hr.units65) (xv 2) ex_int) (ea_cons (ex_bltn (by rfl) z_str bt_str (by rfl) (fun _ _ => .ty _)) ea_nil))))))))) (sx_one (sx_ret ex_bl)) sx_nil)
    (sx_cons (sx_if (Ew.et (ew_or (et_cmp (m_notin hr.units65) (ex_ix (m_ix hr.units65) (xv 2) ex_int) (ex_tup (ea_cons (ex_strc [107, 101, 101, 112] (by decide +kernel)) (ea_cons (ex_strc [99, 117, 116] (by decide +kernel)) (ea_cons (ex_strc [112, 117, 116] (by decide +kernel)) (ea_cons (ex_strc [116, 117, 114, 110] (by decide +kernel)) ea_nil))))) (by rfl)) (ew_or1 (et_cmp (m_ne hr.units) (ex_callB c_len (by rfl) z_len bt_len (ea_cons (xv 2) ea_nil)) (ex_if (et_cmp (m_eq hr.units) (ex_ix (m_ix hr.units65) (xv 2) ex_int) (ex_strc [116, 117, 114, 110] (by decide +kernel)) (nomark _)) ex_int ex_int) (nomark _))))) (sx_one (sx_ret ex_bl)) sx_nil)
    (sx_cons (sx_if (et_not (et_val (ex_callBl (s_all (by rfl)) (by rfl) z_all bt_all (esl_el (el_comp (own := [(("part" : PySem.Str), 3)]) (by rfl) sc__law_is_alignment.nd (ei_ex (ex_sl (xv 2) (eo_some ex_int) eo_none)) (blkOk_by (N := N__law_is_alignment) (sc := (defScope s__law_is_alignment)) (by decide +kernel)) (fun _ _ _ _ _ => (eg_name sc__law_is_alignment.nd)) (fun _ _ _ _ _ => ets_nil) (fun _ _ _ _ _ => (ex_and (ex_c1 c__law_is_int tk0 hr (by decide) (ea_cons (xv 3) ea_nil)) (ex_one (ex_chain m_le (m_lt hr.units65) ex_int (xv 3) (xv 1)))))))))) (sx_one (sx_ret ex_bl)) sx_nil)
    (sx_one (sx_if (Ew.et (ew_and (et_cmp (m_eq hr.units) (ex_ix (m_ix hr.units65) (xv 2) ex_int) (ex_strc [116, 117, 114, 110] (by decide +kernel)) (nomark _)) (ew_and1 (et_cmp (m_eq hr.units) (ex_ix (m_ix hr.units65) (xv 2) ex_int) (ex_ix (m_ix hr.units65) (xv 2) ex_int) (nomark _))))) (sx_one (sx_ret ex_bl)) sx_nil))))))
    (sx_one (sx_ret ex_bl))))
def N__law_ahead : List PySem.Str := ["step", "cost", "left"]
theorem sc__law_ahead : FnScope N__law_ahead ["step", "cost", "left"] (defScope s__law_ahead) := ⟨rfl, rfl, rfl, by decide +kernel, rfl, by decide +kernel, by decide +kernel⟩
def m__law_ahead : SM := (sRet (eIf (tBl (eBin oIs (eVar 2) (eC .non))) (eC .non) (eTup (aCons (eBin oAdd (eBin oIx (eVar 2) (eC (.int 0))) (eVar 1)) (aCons (eBin oAdd (eTup (aCons (eVar 0) aNil)) (eBin oIx (eVar 2) (eC (.int 1)))) aNil)))))
theorem ok__law_ahead {P : Program} {w : World} {K : PySem.W.Frag} {mg : PySem.Str → Option Value} {base : Heap} {f : Addr} {fd : FuncData} (F : FnP K "_law_ahead" s__law_ahead f fd) (gx : mg "_law_ahead" = some (.ref f))  :
    Cal P w K mg base "_law_ahead" 1 ["step", "cost", "left"] (runB 3 (m__law_ahead)) :=
  cal_mk (k := 0) F sc__law_ahead gx (fun _ _ _ _ _ _ us hl => match us, hl with | [_, _, _], _ => rfl) fun cdv A outer s H E hr tk hp =>
    (sx_one (sx_ret (ex_if (et_cmp m_is (xv 2) ex_non (nomark _)) ex_non (ex_tup (ea_cons (ex_op m_add (ex_ix (m_ix hr.units65) (xv 2) ex_int) (xv 1)) (ea_cons (ex_op m_add (ex_tup (ea_cons (xv 0) ea_nil)) (ex_ix (m_ix hr.units65) (xv 2) ex_int)) ea_nil))))))
def N__law_ways : List PySem.Str := ["known", "table", "other", "i", "j", "down", "right", "both", "found", "way"]
theorem sc__law_ways : FnScope N__law_ways ["known", "table", "other", "i", "j", "down", "right", "both"] (defScope s__law_ways) := ⟨rfl, rfl, rfl, by decide +kernel, rfl, by decide +kernel, by decide +kernel⟩
def m__law_ways (f__law_ahead : FM) : SM := (sSeq (sSet 8 (eLst aNil))
    (sSeq (sIf (tAnd (tBl (eBin oLt (eVar 3) (eCB fLen (aCons (eVar 1) aNil)))) (tBl (eBin oIn (eTup (aCons (eC (.str [99, 117, 116])) (aCons (eBin oIx (eVar 1) (eVar 3)) aNil))) (eVar 0)))) (sExpr (eM "list" mAppend (eVar 8) (aCons (eCall 3 f__law_ahead (aCons (eTup (aCons (eC (.str [99, 117, 116])) (aCons (eBin oIx (eVar 1) (eVar 3)) aNil))) (aCons (eC (.int 1)) (aCons (eVar 5) aNil)))) aNil))) sNil)
    (sSeq (sIf (tAnd (tBl (eBin oLt (eVar 3) (eCB fLen (aCons (eVar 1) aNil)))) (tAnd (tBl (eBin oLt (eVar 4) (eCB fLen (aCons (eVar 2) aNil)))) (tBl (eBin oEq (eBin oIx (eVar 1) (eVar 3)) (eBin oIx (eVar 2) (eVar 4)))))) (sExpr (eM "list" mAppend (eVar 8) (aCons (eCall 3 f__law_ahead (aCons (eTup (aCons (eC (.str [107, 101, 101, 112])) (aCons (eBin oIx (eVar 1) (eVar 3)) aNil))) (aCons (eC (.int 0)) (aCons (eVar 7) aNil)))) aNil))) sNil)
    (sSeq (sIf (tAnd (tBl (eBin oLt (eVar 4) (eCB fLen (aCons (eVar 2) aNil)))) (tBl (eBin oIn (eTup (aCons (eC (.str [112, 117, 116])) (aCons (eBin oIx (eVar 2) (eVar 4)) aNil))) (eVar 0)))) (sExpr (eM "list" mAppend (eVar 8) (aCons (eCall 3 f__law_ahead (aCons (eTup (aCons (eC (.str [112, 117, 116])) (aCons (eBin oIx (eVar 2) (eVar 4)) aNil))) (aCons (eC (.int 1)) (aCons (eVar 6) aNil)))) aNil))) sNil)
    (sSeq (sIf (tAnd (tBl (eBin oLt (eVar 3) (eCB fLen (aCons (eVar 1) aNil)))) (tAnd (tBl (eBin oLt (eVar 4) (eCB fLen (aCons (eVar 2) aNil)))) (tBl (eBin oIn (eTup (aCons (eC (.str [116, 117, 114, 110])) (aCons (eBin oIx (eVar 1) (eVar 3)) (aCons (eBin oIx (eVar 2) (eVar 4)) aNil)))) (eVar 0))))) (sExpr (eM "list" mAppend (eVar 8) (aCons (eCall 3 f__law_ahead (aCons (eTup (aCons (eC (.str [116, 117, 114, 110])) (aCons (eBin oIx (eVar 1) (eVar 3)) (aCons (eBin oIx (eVar 2) (eVar 4)) aNil)))) (aCons (eC (.int 1)) (aCons (eVar 7) aNil)))) aNil))) sNil)
    (sRet (eEl (lComp [9] (iEx (eVar 8)) (gN 9) (tBl (eBin oIsNot (eVar 9) (eC .non))) (eVar 9)))))))))
theorem ok__law_ways {P : Program} {w : World} {K : PySem.W.Frag} {mg : PySem.Str → Option Value} {base : Heap} {f : Addr} {fd : FuncData} {f__law_ahead : FM} (F : FnP K "_law_ways" s__law_ways f fd) (gx : mg "_law_ways" = some (.ref f)) (c__law_ahead : Cal P w K mg base "_law_ahead" 1 ["step", "cost", "left"] f__law_ahead) (z_len : mg "len" = none) :
    Cal P w K mg base "_law_ways" 2 ["known", "table", "other", "i", "j", "down", "right", "both"] (runB 10 (m__law_ways f__law_ahead)) :=
  cal_mk (k := 1) F sc__law_ways gx (fun _ _ _ _ _ _ us hl => match us, hl with | [_, _, _, _, _, _, _, _], _ => rfl) fun cdv A outer s H E hr tk hp =>
    (sx_cons (sx_set sc__law_ways.nd (ex_lst ea_nil))
    (sx_cons (sx_if (Ew.et (ew_and (et_cmp (m_lt hr.units65) (xv 3) (ex_callB c_len (by rfl) z_len bt_len (ea_cons (xv 1) ea_nil)) (nomark _)) (ew_and1 (et_cmp (m_in hr.units65) (ex_tup (ea_cons (ex_strc [99, 117, 116] (by decide +kernel)) (ea_cons (ex_ix (m_ix hr.units65) (xv 1) (xv 3)) ea_nil))) (xv 0) (by rfl))))) (sx_one (sx_expr (ex_m PySem.F.plainAttrs_list PySem.F.slot_list_append PySem.F.type_list_append me_append (xv 8) (ea_cons (ex_c1 c__law_ahead tk hr (by decide) (ea_cons (ex_tup (ea_cons (ex_strc [99, 117, 116] (by decide +kernel)) (ea_cons (ex_ix (m_ix hr.units65) (xv 1) (xv 3)) ea_nil))) (ea_cons ex_int (ea_cons (xv 5) ea_nil)))) ea_nil)))) sx_nil)
    (sx_cons (sx_if (Ew.et (ew_and (et_cmp (m_lt hr.units65) (xv 3) (ex_callB c_len (by rfl) z_len bt_len (ea_cons (xv 1) ea_nil)) (nomark _)) (ew_and (et_cmp (m_lt hr.units65) (xv 4) (ex_callB c_len (by rfl) z_len bt_len (ea_cons (xv 2) ea_nil)) (nomark _)) (ew_and1 (et_cmp (m_eq hr.units) (ex_ix (m_ix hr.units65) (xv 1) (xv 3)) (ex_ix (m_ix hr.units65) (xv 2) (xv 4)) (nomark _)))))) (sx_one (sx_expr (ex_m PySem.F.plainAttrs_list PySem.F.slot_list_append PySem.F.type_list_append me_append (xv 8) (ea_cons (ex_c1 c__law_ahead tk hr (by decide) (ea_cons (ex_tup (ea_cons (ex_strc [107, 101, 101, 112] (by decide +kernel)) (ea_cons (ex_ix (m_ix hr.units65) (xv 1) (xv 3)) ea_nil))) (ea_cons ex_int (ea_cons (xv 7) ea_nil)))) ea_nil)))) sx_nil)
    (sx_cons (sx_if (Ew.et (ew_and (et_cmp (m_lt hr.units65) (xv 4) (ex_callB c_len (by rfl) z_len bt_len (ea_cons (xv 2) ea_nil)) (nomark _)) (ew_and1 (et_cmp (m_in hr.units65) (ex_tup (ea_cons (ex_strc [112, 117, 116] (by decide +kernel)) (ea_cons (ex_ix (m_ix hr.units65) (xv 2) (xv 4)) ea_nil))) (xv 0) (by rfl))))) (sx_one (sx_expr (ex_m PySem.F.plainAttrs_list PySem.F.slot_list_append PySem.F.type_list_append me_append (xv 8) (ea_cons (ex_c1 c__law_ahead tk hr (by decide) (ea_cons (ex_tup (ea_cons (ex_strc [112, 117, 116] (by decide +kernel)) (ea_cons (ex_ix (m_ix hr.units65) (xv 2) (xv 4)) ea_nil))) (ea_cons ex_int (ea_cons (xv 6) ea_nil)))) ea_nil)))) sx_nil)
    (sx_cons (sx_if (Ew.et (ew_and (et_cmp (m_lt hr.units65) (xv 3) (ex_callB c_len (by rfl) z_len bt_len (ea_cons (xv 1) ea_nil)) (nomark _)) (ew_and (et_cmp (m_lt hr.units65) (xv 4) (ex_callB c_len (by rfl) z_len bt_len (ea_cons (xv 2) ea_nil)) (nomark _)) (ew_and1 (et_cmp (m_in hr.units65) (ex_tup (ea_cons (ex_strc [116, 117, 114, 110] (by decide +kernel)) (ea_cons (ex_ix (m_ix hr.units65) (xv 1) (xv 3)) (ea_cons (ex_ix (m_ix hr.units65) (xv 2) (xv 4)) ea_nil)))) (xv 0) (by rfl)))))) (sx_one (sx_expr (ex_m PySem.F.plainAttrs_list PySem.F.slot_list_append PySem.F.type_list_append me_append (xv 8) (ea_cons (ex_c1 c__law_ahead tk hr (by decide) (ea_cons (ex_tup (ea_cons (ex_strc [116, 117, 114, 110] (by decide +kernel)) (ea_cons (ex_ix (m_ix hr.units65) (xv 1) (xv 3)) (ea_cons (ex_ix (m_ix hr.units65) (xv 2) (xv 4)) ea_nil)))) (ea_cons ex_int (ea_cons (xv 7) ea_nil)))) ea_nil)))) sx_nil)
    (sx_one (sx_ret (ex_el (el_comp (own := [(("way" : PySem.Str), 9)]) (by rfl) sc__law_ways.nd (ei_ex (xv 8)) (blkOk_by (N := N__law_ways) (sc := (defScope s__law_ways)) (by decide +kernel)) (fun _ _ _ _ _ => (eg_name sc__law_ways.nd)) (fun _ _ _ _ _ => (ets_one (et_cmp m_isnot (xv 9) ex_non (nomark _)))) (fun _ _ _ _ _ => (xv 9)))))))))))
def N__law_best : List PySem.Str := ["near", "table", "other", "known", "edit", "below", "back", "i", "line", "behind", "j", "ways"]
theorem sc__law_best : FnScope N__law_best ["near", "table", "other"] (defScope s__law_best) := ⟨rfl, rfl, rfl, by decide +kernel, rfl, by decide +kernel, by decide +kernel⟩
def m__law_best (f__law_ways : FM) : SM := (sSeq (sSet 3 eDct)
    (sSeq (sFor (iEx (eVar 0)) (gN 4) (sSub (eVar 3) (eVar 4) (eC (.bl true))))
    (sSeq (sSet 5 (eEl (lComp [10] (iRg1 (eBin oAdd (eCB fLen (aCons (eVar 2) aNil)) (eC (.int 2)))) (gN 10) tYes (eC .non))))
    (sSeq (sFor (iRg1 (eBin oAdd (eCB fLen (aCons (eVar 1) aNil)) (eC (.int 1)))) (gN 6) (sSeq (sSet 7 (eBin oSub (eCB fLen (aCons (eVar 1) aNil)) (eVar 6)))
    (sSeq (sSet 8 (eEl (lComp [10] (iRg1 (eBin oAdd (eCB fLen (aCons (eVar 2) aNil)) (eC (.int 2)))) (gN 10) tYes (eC .non))))
    (sSeq (sFor (iRg1 (eBin oAdd (eCB fLen (aCons (eVar 2) aNil)) (eC (.int 1)))) (gN 9) (sSeq (sSet 10 (eBin oSub (eCB fLen (aCons (eVar 2) aNil)) (eVar 9)))
    (sSeq (sSet 11 (eCall 8 f__law_ways (aCons (eVar 3) (aCons (eVar 1) (aCons (eVar 2) (aCons (eVar 7) (aCons (eVar 10) (aCons (eBin oIx (eVar 5) (eVar 10)) (aCons (eBin oIx (eVar 8) (eBin oAdd (eVar 10) (eC (.int 1)))) (aCons (eBin oIx (eVar 5) (eBin oAdd (eVar 10) (eC (.int 1)))) aNil))))))))))
    (sSeq (sIf (tBl (eBin oEq (eBin oAdd (eVar 6) (eVar 9)) (eC (.int 0)))) (sExpr (eM "list" mAppend (eVar 11) (aCons (eTup (aCons (eC (.int 0)) (aCons (eTup aNil) aNil))) aNil))) sNil)
    (sIf (tBl (eBin oGt (eCB fLen (aCons (eVar 11) aNil)) (eC (.int 0)))) (sSub (eVar 8) (eVar 10) (eCS gMinT (sEx (eVar 11)))) sNil)))))
    (sSet 5 (eVar 8))))))
    (sRet (eBin oIx (eVar 5) (eC (.int 0))))))))
theorem ok__law_best {P : Program} {w : World} {K : PySem.W.Frag} {mg : PySem.Str → Option Value} {base : Heap} {f : Addr} {fd : FuncData} {f__law_ways : FM} (F : FnP K "_law_best" s__law_best f fd) (gx : mg "_law_best" = some (.ref f)) (c__law_ways : Cal P w K mg base "_law_ways" 2 ["known", "table", "other", "i", "j", "down", "right", "both"] f__law_ways) (z_range : mg "range" = none) (z_len : mg "len" = none) (z_min : mg "min" = none) :
    Cal P w K mg base "_law_best" 3 ["near", "table", "other"] (runB 12 (m__law_best f__law_ways)) :=
  cal_mk (k := 2) F sc__law_best gx (fun _ _ _ _ _ _ us hl => match us, hl with | [_, _, _], _ => rfl) fun cdv A outer s H E hr tk hp =>
    (sx_cons (sx_set sc__law_best.nd ex_dct)
    (sx_cons (sx_for hp (by rfl) (ei_ex (xv 0)) (eg_name sc__law_best.nd) (sx_one (sx_sub hr.units65 ex_bl (xv 3) (xv 4))))
    (sx_cons (sx_setLc (own := [(("j" : PySem.Str), 10)]) (by rfl) sc__law_best.nd (ei_range1 (by rfl) z_range (ex_op m_add (ex_callB c_len (by rfl) z_len bt_len (ea_cons (xv 2) ea_nil)) ex_int)) (blkOk_by (N := N__law_best) (sc := (defScope s__law_best)) (by decide +kernel)) (fun _ _ _ _ _ => (eg_name sc__law_best.nd)) (fun _ _ _ _ _ => ets_nil) (fun _ _ _ _ _ => ex_non))
    (sx_cons (sx_for hp (by rfl) (ei_range1 (by rfl) z_range (ex_op m_add (ex_callB c_len (by rfl) z_len bt_len (ea_cons (xv 1) ea_nil)) ex_int)) (eg_name sc__law_best.nd) (sx_cons (sx_set sc__law_best.nd (ex_op m_sub (ex_callB c_len (by rfl) z_len bt_len (ea_cons (xv 1) ea_nil)) (xv 6)))
    (sx_cons (sx_setLc (own := [(("j" : PySem.Str), 10)]) (by rfl) sc__law_best.nd (ei_range1 (by rfl) z_range (ex_op m_add (ex_callB c_len (by rfl) z_len bt_len (ea_cons (xv 2) ea_nil)) ex_int)) (blkOk_by (N := N__law_best) (sc := (defScope s__law_best)) (by decide +kernel)) (fun _ _ _ _ _ => (eg_name sc__law_best.nd)) (fun _ _ _ _ _ => ets_nil) (fun _ _ _ _ _ => ex_non))
    (sx_cons (sx_for hp (by rfl) (ei_range1 (by rfl) z_range (ex_op m_add (ex_callB c_len (by rfl) z_len bt_len (ea_cons (xv 2) ea_nil)) ex_int)) (eg_name sc__law_best.nd) (sx_cons (sx_set sc__law_best.nd (ex_op m_sub (ex_callB c_len (by rfl) z_len bt_len (ea_cons (xv 2) ea_nil)) (xv 9)))
    (sx_cons (sx_set sc__law_best.nd (ex_c1 c__law_ways tk hr (by decide) (ea_cons (xv 3) (ea_cons (xv 1) (ea_cons (xv 2) (ea_cons (xv 7) (ea_cons (xv 10) (ea_cons (ex_ix (m_ix hr.units65) (xv 5) (xv 10)) (ea_cons (ex_ix (m_ix hr.units65) (xv 8) (ex_op m_add (xv 10) ex_int)) (ea_cons (ex_ix (m_ix hr.units65) (xv 5) (ex_op m_add (xv 10) ex_int)) ea_nil))))))))))
    (sx_cons (sx_if (et_cmp (m_eq hr.units) (ex_op m_add (xv 6) (xv 9)) ex_int (nomark _)) (sx_one (sx_expr (ex_m PySem.F.plainAttrs_list PySem.F.slot_list_append PySem.F.type_list_append me_append (xv 11) (ea_cons (ex_tup (ea_cons ex_int (ea_cons (ex_tup ea_nil) ea_nil))) ea_nil)))) sx_nil)
    (sx_one (sx_if (et_cmp m_gt (ex_callB c_len (by rfl) z_len bt_len (ea_cons (xv 11) ea_nil)) ex_int (nomark _)) (sx_one (sx_sub hr.units65 (ex_callBs (sv_minD (by rfl) hr.units65) (by rfl) z_min bt_min (es_ex (xv 11))) (xv 8) (xv 10))) sx_nil))))))
    (sx_one (sx_set sc__law_best.nd (xv 8)))))))
    (sx_one (sx_ret (ex_ix (m_ix hr.units65) (xv 5) ex_int)))))))
def N__law_right : List PySem.Str := ["kinds", "near", "table", "other", "due", "many", "path"]
theorem sc__law_right : FnScope N__law_right ["kinds", "near", "table", "other", "due"] (defScope s__law_right) := ⟨rfl, rfl, rfl, by decide +kernel, rfl, by decide +kernel, by decide +kernel⟩
def m__law_right (f_distance : FM) (f_least_alignment : FM) (f__law_is_int : FM) (f__law_is_alignment : FM) : SM := (sSeq (sSet 5 (eCall 3 f_distance (aCons (eVar 1) (aCons (eVar 2) (aCons (eVar 3) aNil)))))
    (sSeq (sSet 6 (eCall 3 f_least_alignment (aCons (eVar 1) (aCons (eVar 2) (aCons (eVar 3) aNil)))))
    (sSeq (sIf (tBl (eBin oIs (eVar 4) (eC .non))) (sRet (eAnd (eBin oIs (eVar 5) (eC .non)) (eBin oIs (eVar 6) (eC .non)))) sNil)
    (sSeq (sIf (tOr (HM.tNot (tVal (eCall 1 f__law_is_int (aCons (eVar 5) aNil)))) (tBl (eBin oNe (eVar 5) (eBin oIx (eVar 4) (eC (.int 0)))))) (sRet (eC (.bl false))) sNil)
    (sRet (eAnd (eCall 2 f__law_is_alignment (aCons (eVar 6) (aCons (eVar 0) aNil))) (eBin oEq (eVar 6) (eBin oIx (eVar 4) (eC (.int 1))))))))))
theorem ok__law_right {P : Program} {w : World} {K : PySem.W.Frag} {mg : PySem.Str → Option Value} {base : Heap} {f : Addr} {fd : FuncData} {f_distance f_least_alignment f__law_is_int f__law_is_alignment : FM} (F : FnP K "_law_right" s__law_right f fd) (gx : mg "_law_right" = some (.ref f)) (c_distance : Cal P w K mg base "distance" 4 ["near", "table", "other"] f_distance) (c_least_alignment : Cal P w K mg base "least_alignment" 3 ["near", "table", "other"] f_least_alignment) (c__law_is_int : Cal P w K mg base "_law_is_int" 1 ["thing"] f__law_is_int) (c__law_is_alignment : Cal P w K mg base "_law_is_alignment" 2 ["thing", "kinds"] f__law_is_alignment) :
    Cal P w K mg base "_law_right" 5 ["kinds", "near", "table", "other", "due"] (runB 7 (m__law_right f_distance f_least_alignment f__law_is_int f__law_is_alignment)) :=
  cal_mk (k := 4) F sc__law_right gx (fun _ _ _ _ _ _ us hl => match us, hl with | [_, _, _, _, _], _ => rfl) fun cdv A outer s H E hr tk hp =>
    (sx_cons (sx_set sc__law_right.nd (ex_c1 c_distance tk hr (by decide) (ea_cons (xv 1) (ea_cons (xv 2) (ea_cons (xv 3) ea_nil)))))
    (sx_cons (sx_set sc__law_right.nd (ex_c1 c_least_alignment tk hr (by decide) (ea_cons (xv 1) (ea_cons (xv 2) (ea_cons (xv 3) ea_nil)))))
    (sx_cons (sx_if (et_cmp m_is (xv 4) ex_non (nomark _)) (sx_one (sx_ret (ex_and (ex_cmp m_is (xv 5) ex_non (nomark _)) (ex_one (ex_cmp m_is (xv 6) ex_non (nomark _)))))) sx_nil)
    (sx_cons (sx_if (Ew.et (ew_or (et_not (et_val (ex_c1 c__law_is_int tk hr (by decide) (ea_cons (xv 5) ea_nil)))) (ew_or1 (et_cmp (m_ne hr.units) (xv 5) (ex_ix (m_ix hr.units65) (xv 4) ex_int) (nomark _))))) (sx_one (sx_ret ex_bl)) sx_nil)
    (sx_one (sx_ret (ex_and (ex_c1 c__law_is_alignment tk hr (by decide) (ea_cons (xv 6) (ea_cons (xv 0) ea_nil))) (ex_one (ex_cmp (m_eq hr.units) (xv 6) (ex_ix (m_ix hr.units65) (xv 4) ex_int) (nomark _))))))))))
def N__law_some_near : List PySem.Str := ["d", "kinds", "whole", "style"]
theorem sc__law_some_near : FnScope N__law_some_near ["d", "kinds"] (defScope s__law_some_near) := ⟨rfl, rfl, rfl, by decide +kernel, rfl, by decide +kernel, by decide +kernel⟩
def m__law_some_near (f__law_all_edits : FM) (f__law_draw : FM) (f__law_pick : FM) (f__law_near : FM) : SM := (sSeq (sSet 2 (eCall 1 f__law_all_edits (aCons (eVar 1) aNil)))
    (sSeq (sSet 3 (eCall 2 f__law_draw (aCons (eVar 0) (aCons (eC (.int 6)) aNil))))
    (sSeq (sIf (tBl (eBin oEq (eVar 3) (eC (.int 1)))) (sRet (eTup (aCons (eCall 2 f__law_pick (aCons (eVar 0) (aCons (eVar 2) aNil))) aNil))) sNil)
    (sSeq (sIf (tBl (eBin oEq (eVar 3) (eC (.int 2)))) (sRet (eTup aNil)) sNil)
    (sRet (eCall 2 f__law_near (aCons (eVar 0) (aCons (eVar 1) aNil))))))))
theorem ok__law_some_near {P : Program} {w : World} {K : PySem.W.Frag} {mg : PySem.Str → Option Value} {base : Heap} {f : Addr} {fd : FuncData} {f__law_all_edits f__law_draw f__law_pick f__law_near : FM} (F : FnP K "_law_some_near" s__law_some_near f fd) (gx : mg "_law_some_near" = some (.ref f)) (c__law_all_edits : Cal P w K mg base "_law_all_edits" 1 ["kinds"] f__law_all_edits) (c__law_draw : Cal P w K mg base "_law_draw" 1 ["d", "many"] f__law_draw) (c__law_pick : Cal P w K mg base "_law_pick" 2 ["d", "row"] f__law_pick) (c__law_near : Cal P w K mg base "_law_near" 2 ["d", "kinds"] f__law_near) :
    Cal P w K mg base "_law_some_near" 3 ["d", "kinds"] (runB 4 (m__law_some_near f__law_all_edits f__law_draw f__law_pick f__law_near)) :=
  cal_mk (k := 2) F sc__law_some_near gx (fun _ _ _ _ _ _ us hl => match us, hl with | [_, _], _ => rfl) fun cdv A outer s H E hr tk hp =>
    (sx_cons (sx_set sc__law_some_near.nd (ex_c1 c__law_all_edits tk hr (by decide) (ea_cons (xv 1) ea_nil)))
    (sx_cons (sx_set sc__law_some_near.nd (ex_c1 c__law_draw tk hr (by decide) (ea_cons (xv 0) (ea_cons ex_int ea_nil))))
    (sx_cons (sx_if (et_cmp (m_eq hr.units) (xv 3) ex_int (nomark _)) (sx_one (sx_ret (ex_tup (ea_cons (ex_c1 c__law_pick tk hr (by decide) (ea_cons (xv 0) (ea_cons (xv 2) ea_nil))) ea_nil)))) sx_nil)
    (sx_cons (sx_if (et_cmp (m_eq hr.units) (xv 3) ex_int (nomark _)) (sx_one (sx_ret (ex_tup ea_nil))) sx_nil)
    (sx_one (sx_ret (ex_c1 c__law_near tk hr (by decide) (ea_cons (xv 0) (ea_cons (xv 1) ea_nil)))))))))
def N__law_runs : List PySem.Str := ["d", "kinds", "most", "found", "turn", "kind", "k"]
theorem sc__law_runs : FnScope N__law_runs ["d", "kinds", "most"] (defScope s__law_runs) := ⟨rfl, rfl, rfl, by decide +kernel, rfl, by decide +kernel, by decide +kernel⟩
def m__law_runs (f__law_draw : FM) : SM := (sSeq (sSet 3 (eLst aNil))
    (sSeq (sFor (iRg1 (eBin oAdd (eC (.int 1)) (eCall 2 f__law_draw (aCons (eVar 0) (aCons (eC (.int 8)) aNil))))) (gN 4) (sSeq (sSet 5 (eCall 2 f__law_draw (aCons (eVar 0) (aCons (eVar 1) aNil))))
    (sSet 3 (eBin oAdd (eVar 3) (eEl (lComp [6] (iRg1 (eCall 2 f__law_draw (aCons (eVar 0) (aCons (eC (.int 20)) aNil)))) (gN 6) tYes (eVar 5)))))))
    (sRet (eCB fTuple (aCons (eSl (eVar 3) oNone (oSome (eVar 2))) aNil)))))
theorem ok__law_runs {P : Program} {w : World} {K : PySem.W.Frag} {mg : PySem.Str → Option Value} {base : Heap} {f : Addr} {fd : FuncData} {f__law_draw : FM} (F : FnP K "_law_runs" s__law_runs f fd) (gx : mg "_law_runs" = some (.ref f)) (c__law_draw : Cal P w K mg base "_law_draw" 1 ["d", "many"] f__law_draw) (z_range : mg "range" = none) (z_tuple : mg "tuple" = none) :
    Cal P w K mg base "_law_runs" 2 ["d", "kinds", "most"] (runB 7 (m__law_runs f__law_draw)) :=
  cal_mk (k := 1) F sc__law_runs gx (fun _ _ _ _ _ _ us hl => match us, hl with | [_, _, _], _ => rfl) fun cdv A outer s H E hr tk hp =>
    (sx_cons (sx_set sc__law_runs.nd (ex_lst ea_nil))
    (sx_cons (sx_for hp (by rfl) (ei_range1 (by rfl) z_range (ex_op m_add ex_int (ex_c1 c__law_draw tk hr (by decide) (ea_cons (xv 0) (ea_cons ex_int ea_nil))))) (eg_name sc__law_runs.nd) (sx_cons (sx_set sc__law_runs.nd (ex_c1 c__law_draw tk hr (by decide) (ea_cons (xv 0) (ea_cons (xv 1) ea_nil))))
    (sx_one (sx_set sc__law_runs.nd (ex_op m_add (xv 3) (ex_el (el_comp (own := [(("k" : PySem.Str), 6)]) (by rfl) sc__law_runs.nd (ei_range1 (by rfl) z_range (ex_c1 c__law_draw tk hr (by decide) (ea_cons (xv 0) (ea_cons ex_int ea_nil)))) (blkOk_by (N := N__law_runs) (sc := (defScope s__law_runs)) (by decide +kernel)) (fun _ _ _ _ _ => (eg_name sc__law_runs.nd)) (fun _ _ _ _ _ => ets_nil) (fun _ _ _ _ _ => (xv 5)))))))))
    (sx_one (sx_ret (ex_callT c_tuple (by rfl) z_tuple bt_tuple (ea_cons (ex_sl (xv 3) eo_none (eo_some (xv 2))) ea_nil))))))
def N__law_other_table : List PySem.Str := ["d", "kinds", "near", "table", "is_large", "style"]
theorem sc__law_other_table : FnScope N__law_other_table ["d", "kinds", "near", "table", "is_large"] (defScope s__law_other_table) := ⟨rfl, rfl, rfl, by decide +kernel, rfl, by decide +kernel, by decide +kernel⟩
def m__law_other_table (f__law_draw : FM) (f__law_runs : FM) (f__law_table : FM) (f__law_shuffled : FM) (f__law_side : FM) (f__law_bent : FM) : SM := (sSeq (sSet 5 (eCall 2 f__law_draw (aCons (eVar 0) (aCons (eC (.int 5)) aNil))))
    (sSeq (sIf (tBl (eBin oEq (eVar 5) (eC (.int 0)))) (sRet (eIf (tVal (eVar 4)) (eCall 3 f__law_runs (aCons (eVar 0) (aCons (eVar 1) (aCons (eC (.int 60)) aNil)))) (eCall 3 f__law_table (aCons (eVar 0) (aCons (eVar 1) (aCons (eC (.int 7)) aNil)))))) sNil)
    (sSeq (sIf (tBl (eBin oEq (eVar 5) (eC (.int 1)))) (sRet (eCB fTuple (aCons (eCall 2 f__law_shuffled (aCons (eVar 0) (aCons (eVar 3) aNil))) aNil))) sNil)
    (sRet (eCall 2 f__law_side (aCons (eCall 4 f__law_bent (aCons (eVar 0) (aCons (eVar 2) (aCons (eVar 3) (aCons (eIf (tVal (eVar 4)) (eBin oSub (eC (.int 60)) (eCB fLen (aCons (eVar 3) aNil))) (eC (.int 5))) aNil))))) (aCons (eC (.bl true)) aNil)))))))
theorem ok__law_other_table {P : Program} {w : World} {K : PySem.W.Frag} {mg : PySem.Str → Option Value} {base : Heap} {f : Addr} {fd : FuncData} {f__law_draw f__law_runs f__law_table f__law_shuffled f__law_side f__law_bent : FM} (F : FnP K "_law_other_table" s__law_other_table f fd) (gx : mg "_law_other_table" = some (.ref f)) (c__law_draw : Cal P w K mg base "_law_draw" 1 ["d", "many"] f__law_draw) (c__law_runs : Cal P w K mg base "_law_runs" 2 ["d", "kinds", "most"] f__law_runs) (c__law_table : Cal P w K mg base "_law_table" 2 ["d", "kinds", "most"] f__law_table) (c__law_shuffled : Cal P w K mg base "_law_shuffled" 2 ["d", "row"] f__law_shuffled) (c__law_side : Cal P w K mg base "_law_side" 1 ["alignment", "second"] f__law_side) (c__law_bent : Cal P w K mg base "_law_bent" 3 ["d", "near", "table", "g"] f__law_bent) (z_tuple : mg "tuple" = none) (z_len : mg "len" = none) :
    Cal P w K mg base "_law_other_table" 4 ["d", "kinds", "near", "table", "is_large"] (runB 6 (m__law_other_table f__law_draw f__law_runs f__law_table f__law_shuffled f__law_side f__law_bent)) :=
  cal_mk (k := 3) F sc__law_other_table gx (fun _ _ _ _ _ _ us hl => match us, hl with | [_, _, _, _, _], _ => rfl) fun cdv A outer s H E hr tk hp =>
    (sx_cons (sx_set sc__law_other_table.nd (ex_c1 c__law_draw tk hr (by decide) (ea_cons (xv 0) (ea_cons ex_int ea_nil))))
    (sx_cons (sx_if (et_cmp (m_eq hr.units) (xv 5) ex_int (nomark _)) (sx_one (sx_ret (ex_if (et_val (xv 4)) (ex_c1 c__law_runs tk hr (by decide) (ea_cons (xv 0) (ea_cons (xv 1) (ea_cons ex_int ea_nil)))) (ex_c1 c__law_table tk hr (by decide) (ea_cons (xv 0) (ea_cons (xv 1) (ea_cons ex_int ea_nil))))))) sx_nil)
    (sx_cons (sx_if (et_cmp (m_eq hr.units) (xv 5) ex_int (nomark _)) (sx_one (sx_ret (ex_callT c_tuple (by rfl) z_tuple bt_tuple (ea_cons (ex_c1 c__law_shuffled tk hr (by decide) (ea_cons (xv 0) (ea_cons (xv 3) ea_nil))) ea_nil)))) sx_nil)
    (sx_one (sx_ret (ex_c1 c__law_side tk hr (by decide) (ea_cons (ex_c1 c__law_bent tk hr (by decide) (ea_cons (xv 0) (ea_cons (xv 2) (ea_cons (xv 3) (ea_cons (ex_if (et_val (xv 4)) (ex_op m_sub ex_int (ex_callB c_len (by rfl) z_len bt_len (ea_cons (xv 3) ea_nil))) ex_int) ea_nil))))) (ea_cons ex_bl ea_nil))))))))
def N_law : List PySem.Str := ["script", "d", "kinds", "near", "is_large", "table", "other", "due", "also", "keeps", "kind"]
theorem sc_law : FnScope N_law ["script"] (defScope s_law) := ⟨rfl, rfl, rfl, by decide +kernel, rfl, by decide +kernel, by decide +kernel⟩
def m_law (f__law_begin : FM) (f__law_draw : FM) (f__law_some_near : FM) (f__law_rare : FM) (f__law_runs : FM) (f__law_table : FM) (f__law_other_table : FM) (f__law_best : FM) (f__law_right : FM) : SM := (sSeq (sSet 1 (eCall 1 f__law_begin (aCons (eVar 0) aNil)))
    (sSeq (sSet 2 (eBin oAdd (eC (.int 1)) (eCB fMin2 (aCons (eCall 2 f__law_draw (aCons (eVar 1) (aCons (eC (.int 5)) aNil))) (aCons (eCall 2 f__law_draw (aCons (eVar 1) (aCons (eC (.int 5)) aNil))) aNil)))))
    (sSeq (sSet 3 (eCall 2 f__law_some_near (aCons (eVar 1) (aCons (eVar 2) aNil))))
    (sSeq (sSet 4 (eCall 2 f__law_rare (aCons (eVar 1) (aCons (eC (.int 19)) aNil))))
    (sSeq (sSet 5 (eIf (tVal (eVar 4)) (eCall 3 f__law_runs (aCons (eVar 1) (aCons (eVar 2) (aCons (eC (.int 60)) aNil)))) (eCall 3 f__law_table (aCons (eVar 1) (aCons (eVar 2) (aCons (eC (.int 7)) aNil))))))
    (sSeq (sSet 6 (eCall 5 f__law_other_table (aCons (eVar 1) (aCons (eVar 2) (aCons (eVar 3) (aCons (eVar 5) (aCons (eVar 4) aNil)))))))
    (sSeq (sSet 7 (eCall 3 f__law_best (aCons (eVar 3) (aCons (eVar 5) (aCons (eVar 6) aNil)))))
    (sSeq (sIf (HM.tNot (tVal (eCall 5 f__law_right (aCons (eVar 2) (aCons (eVar 3) (aCons (eVar 5) (aCons (eVar 6) (aCons (eVar 7) aNil)))))))) (sRet (eC (.bl false))) sNil)
    (sSeq (sIf (HM.tNot (tVal (eCall 5 f__law_right (aCons (eVar 2) (aCons (eVar 3) (aCons (eVar 6) (aCons (eVar 5) (aCons (eCall 3 f__law_best (aCons (eVar 3) (aCons (eVar 6) (aCons (eVar 5) aNil)))) aNil)))))))) (sRet (eC (.bl false))) sNil)
    (sSeq (sIf (tVal (eVar 4)) (sRet (eC (.bl true))) sNil)
    (sSeq (sSet 8 (eCall 2 f__law_some_near (aCons (eVar 1) (aCons (eVar 2) aNil))))
    (sSeq (sIf (HM.tNot (tVal (eCall 5 f__law_right (aCons (eVar 2) (aCons (eVar 8) (aCons (eVar 5) (aCons (eVar 6) (aCons (eCall 3 f__law_best (aCons (eVar 8) (aCons (eVar 5) (aCons (eVar 6) aNil)))) aNil)))))))) (sRet (eC (.bl false))) sNil)
    (sSeq (sSet 9 (eTup (aCons (eC (.int 0)) (aCons (eCS gTuple (lComp [10] (iEx (eVar 5)) (gN 10) tYes (eTup (aCons (eC (.str [107, 101, 101, 112])) (aCons (eVar 10) aNil))))) aNil))))
    (sSeq (sIf (HM.tNot (tVal (eCall 5 f__law_right (aCons (eVar 2) (aCons (eTup aNil) (aCons (eVar 5) (aCons (eVar 6) (aCons (eIf (tBl (eBin oEq (eVar 5) (eVar 6))) (eVar 9) (eC .non)) aNil)))))))) (sRet (eC (.bl false))) sNil)
    (sRet (eAnd (eCall 5 f__law_right (aCons (eVar 2) (aCons (eVar 3) (aCons (eVar 5) (aCons (eVar 5) (aCons (eVar 9) aNil)))))) (eCall 5 f__law_right (aCons (eVar 2) (aCons (eVar 3) (aCons (eVar 5) (aCons (eVar 6) (aCons (eVar 7) aNil))))))))))))))))))))))
theorem ok_law {P : Program} {w : World} {K : PySem.W.Frag} {mg : PySem.Str → Option Value} {base : Heap} {f : Addr} {fd : FuncData} {f__law_begin f__law_draw f__law_some_near f__law_rare f__law_runs f__law_table f__law_other_table f__law_best f__law_right : FM} (F : FnP K "law" s_law f fd) (c__law_begin : Cal P w K mg base "_law_begin" 1 ["script"] f__law_begin) (c__law_draw : Cal P w K mg base "_law_draw" 1 ["d", "many"] f__law_draw) (c__law_some_near : Cal P w K mg base "_law_some_near" 3 ["d", "kinds"] f__law_some_near) (c__law_rare : Cal P w K mg base "_law_rare" 2 ["d", "many"] f__law_rare) (c__law_runs : Cal P w K mg base "_law_runs" 2 ["d", "kinds", "most"] f__law_runs) (c__law_table : Cal P w K mg base "_law_table" 2 ["d", "kinds", "most"] f__law_table) (c__law_other_table : Cal P w K mg base "_law_other_table" 4 ["d", "kinds", "near", "table", "is_large"] f__law_other_table) (c__law_best : Cal P w K mg base "_law_best" 3 ["near", "table", "other"] f__law_best) (c__law_right : Cal P w K mg base "_law_right" 5 ["kinds", "near", "table", "other", "due"] f__law_right) (z_min : mg "min" = none) (z_tuple : mg "tuple" = none) :
    FnM P w K mg base 6 f fd ["script"] (runB 11 (m_law f__law_begin f__law_draw f__law_some_near f__law_rare f__law_runs f__law_table f__law_other_table f__law_best f__law_right)) :=
  fn_def (k := 5) F sc_law fun cdv A outer s H E hr tk hp =>
    (sx_cons (sx_set sc_law.nd (ex_c1 c__law_begin tk hr (by decide) (ea_cons (xv 0) ea_nil)))
    (sx_cons (sx_set sc_law.nd (ex_op m_add ex_int (ex_callB (c_min2 (by rfl)) (by rfl) z_min bt_min (ea_cons (ex_c1 c__law_draw tk hr (by decide) (ea_cons (xv 1) (ea_cons ex_int ea_nil))) (ea_cons (ex_c1 c__law_draw tk hr (by decide) (ea_cons (xv 1) (ea_cons ex_int ea_nil))) ea_nil)))))
    (sx_cons (sx_set sc_law.nd (ex_c1 c__law_some_near tk hr (by decide) (ea_cons (xv 1) (ea_cons (xv 2) ea_nil))))
    (sx_cons (sx_set sc_law.nd (ex_c1 c__law_rare tk hr (by decide) (ea_cons (xv 1) (ea_cons ex_int ea_nil))))
    (sx_cons (sx_set sc_law.nd (ex_if (et_val (xv 4)) (ex_c1 c__law_runs tk hr (by decide) (ea_cons (xv 1) (ea_cons (xv 2) (ea_cons ex_int ea_nil)))) (ex_c1 c__law_table tk hr (by decide) (ea_cons (xv 1) (ea_cons (xv 2) (ea_cons ex_int ea_nil))))))
    (sx_cons (sx_set sc_law.nd (ex_c1 c__law_other_table tk hr (by decide) (ea_cons (xv 1) (ea_cons (xv 2) (ea_cons (xv 3) (ea_cons (xv 5) (ea_cons (xv 4) ea_nil)))))))
    (sx_cons (sx_set sc_law.nd (ex_c1 c__law_best tk hr (by decide) (ea_cons (xv 3) (ea_cons (xv 5) (ea_cons (xv 6) ea_nil)))))
    (sx_cons (sx_if (et_not (et_val (ex_c1 c__law_right tk hr (by decide) (ea_cons (xv 2) (ea_cons (xv 3) (ea_cons (xv 5) (ea_cons (xv 6) (ea_cons (xv 7) ea_nil)))))))) (sx_one (sx_ret ex_bl)) sx_nil)
    (sx_cons (sx_if (et_not (et_val (ex_c1 c__law_right tk hr (by decide) (ea_cons (xv 2) (ea_cons (xv 3) (ea_cons (xv 6) (ea_cons (xv 5) (ea_cons (ex_c1 c__law_best tk hr (by decide) (ea_cons (xv 3) (ea_cons (xv 6) (ea_cons (xv 5) ea_nil)))) ea_nil)))))))) (sx_one (sx_ret ex_bl)) sx_nil)
    (sx_cons (sx_if (et_val (xv 4)) (sx_one (sx_ret ex_bl)) sx_nil)
    (sx_cons (sx_set sc_law.nd (ex_c1 c__law_some_near tk hr (by decide) (ea_cons (xv 1) (ea_cons (xv 2) ea_nil))))
    (sx_cons (sx_if (et_not (et_val (ex_c1 c__law_right tk hr (by decide) (ea_cons (xv 2) (ea_cons (xv 8) (ea_cons (xv 5) (ea_cons (xv 6) (ea_cons (ex_c1 c__law_best tk hr (by decide) (ea_cons (xv 8) (ea_cons (xv 5) (ea_cons (xv 6) ea_nil)))) ea_nil)))))))) (sx_one (sx_ret ex_bl)) sx_nil)
    (sx_cons (sx_set sc_law.nd (ex_tup (ea_cons ex_int (ea_cons (ex_callTs s_tuple (by rfl) z_tuple bt_tuple (es_el (el_comp (own := [(("kind" : PySem.Str), 10)]) (by rfl) sc_law.nd (ei_ex (xv 5)) (blkOk_by (N := N_law) (sc := (defScope s_law)) (by decide +kernel)) (fun _ _ _ _ _ => (eg_name sc_law.nd)) (fun _ _ _ _ _ => ets_nil) (fun _ _ _ _ _ => (ex_tup (ea_cons (ex_strc [107, 101, 101, 112] (by decide +kernel)) (ea_cons (xv 10) ea_nil))))))) ea_nil))))
    (sx_cons (sx_if (et_not (et_val (ex_c1 c__law_right tk hr (by decide) (ea_cons (xv 2) (ea_cons (ex_tup ea_nil) (ea_cons (xv 5) (ea_cons (xv 6) (ea_cons (ex_if (et_cmp (m_eq hr.units) (xv 5) (xv 6) (nomark _)) (xv 9) ex_non) ea_nil)))))))) (sx_one (sx_ret ex_bl)) sx_nil)
    (sx_one (sx_ret (ex_and (ex_c1 c__law_right tk hr (by decide) (ea_cons (xv 2) (ea_cons (xv 3) (ea_cons (xv 5) (ea_cons (xv 5) (ea_cons (xv 9) ea_nil)))))) (ex_one (ex_c1 c__law_right tk hr (by decide) (ea_cons (xv 2) (ea_cons (xv 3) (ea_cons (xv 5) (ea_cons (xv 6) (ea_cons (xv 7) ea_nil))))))))))))))))))))))))
end K06

namespace K06
open PySem PySem.Spec PyProof.Rows L2 HM

def f_lesser : FM := runB 2 (m_lesser)
theorem le_lesser : ∀ ds st, Le st (runB 2 (m_lesser) ds st) (f_lesser ds st) := fun _ _ => .refl _
def f_one_more : FM := runB 1 (m_one_more)
theorem le_one_more : ∀ ds st, Le st (runB 1 (m_one_more) ds st) (f_one_more ds st) := fun _ _ => .refl _
def f_cost_at : FM := runB 8 (m_cost_at f_one_more f_lesser)
theorem le_cost_at : ∀ ds st, Le st (runB 8 (m_cost_at f_one_more f_lesser) ds st) (f_cost_at ds st) := fun _ _ => .refl _
def f_cost_rows : FM := runB 7 (m_cost_rows f_cost_at)
theorem le_cost_rows : ∀ ds st, Le st (runB 7 (m_cost_rows f_cost_at) ds st) (f_cost_rows ds st) := fun _ _ => .refl _
def f_steps_from : FM := runB 6 (m_steps_from)
theorem le_steps_from : ∀ ds st, Le st (runB 6 (m_steps_from) ds st) (f_steps_from ds st) := fun _ _ => .refl _
def f_distance : FM := runB 3 (m_distance f_cost_rows)
theorem le_distance : ∀ ds st, Le st (runB 3 (m_distance f_cost_rows) ds st) (f_distance ds st) := fun _ _ => .refl _
def f_left_rows : FM := runB 12 (m_left_rows f_steps_from f_lesser)
theorem le_left_rows : ∀ ds st, Le st (runB 12 (m_left_rows f_steps_from f_lesser) ds st) (f_left_rows ds st) := fun _ _ => .refl _
def f_least_alignment : FM := runB 11 (m_least_alignment f_left_rows f_steps_from)
theorem le_least_alignment : ∀ ds st, Le st (runB 11 (m_least_alignment f_left_rows f_steps_from) ds st) (f_least_alignment ds st) := fun _ _ => .refl _
def f__law_begin : FM := runB 2 (m__law_begin)
theorem le__law_begin : ∀ ds st, Le st (runB 2 (m__law_begin) ds st) (f__law_begin ds st) := fun _ _ => .refl _
def f__law_draw : FM := runB 5 (m__law_draw)
theorem le__law_draw : ∀ ds st, Le st (runB 5 (m__law_draw) ds st) (f__law_draw ds st) := fun _ _ => .refl _
def f__law_pick : FM := runB 2 (m__law_pick f__law_draw)
theorem le__law_pick : ∀ ds st, Le st (runB 2 (m__law_pick f__law_draw) ds st) (f__law_pick ds st) := fun _ _ => .refl _
def f__law_rare : FM := runB 2 (m__law_rare f__law_draw)
theorem le__law_rare : ∀ ds st, Le st (runB 2 (m__law_rare f__law_draw) ds st) (f__law_rare ds st) := fun _ _ => .refl _
def f__law_shuffled : FM := runB 5 (m__law_shuffled f__law_draw)
theorem le__law_shuffled : ∀ ds st, Le st (runB 5 (m__law_shuffled f__law_draw) ds st) (f__law_shuffled ds st) := fun _ _ => .refl _
def f__law_is_int : FM := runB 1 (m__law_is_int)
theorem le__law_is_int : ∀ ds st, Le st (runB 1 (m__law_is_int) ds st) (f__law_is_int ds st) := fun _ _ => .refl _
def f__law_all_edits : FM := runB 4 (m__law_all_edits)
theorem le__law_all_edits : ∀ ds st, Le st (runB 4 (m__law_all_edits) ds st) (f__law_all_edits ds st) := fun _ _ => .refl _
def f__law_near : FM := runB 6 (m__law_near f__law_all_edits f__law_draw)
theorem le__law_near : ∀ ds st, Le st (runB 6 (m__law_near f__law_all_edits f__law_draw) ds st) (f__law_near ds st) := fun _ _ => .refl _
def f__law_table : FM := runB 5 (m__law_table f__law_draw)
theorem le__law_table : ∀ ds st, Le st (runB 5 (m__law_table f__law_draw) ds st) (f__law_table ds st) := fun _ _ => .refl _
def f__law_bent : FM := runB 10 (m__law_bent f__law_draw f__law_pick)
theorem le__law_bent : ∀ ds st, Le st (runB 10 (m__law_bent f__law_draw f__law_pick) ds st) (f__law_bent ds st) := fun _ _ => .refl _
def f__law_side : FM := runB 4 (m__law_side)
theorem le__law_side : ∀ ds st, Le st (runB 4 (m__law_side) ds st) (f__law_side ds st) := fun _ _ => .refl _
def f__law_is_alignment : FM := runB 4 (m__law_is_alignment f__law_is_int)
theorem le__law_is_alignment : ∀ ds st, Le st (runB 4 (m__law_is_alignment f__law_is_int) ds st) (f__law_is_alignment ds st) := fun _ _ => .refl _
def f__law_ahead : FM := runB 3 (m__law_ahead)
theorem le__law_ahead : ∀ ds st, Le st (runB 3 (m__law_ahead) ds st) (f__law_ahead ds st) := fun _ _ => .refl _
def f__law_ways : FM := runB 10 (m__law_ways f__law_ahead)
theorem le__law_ways : ∀ ds st, Le st (runB 10 (m__law_ways f__law_ahead) ds st) (f__law_ways ds st) := fun _ _ => .refl _
def f__law_best : FM := runB 12 (m__law_best f__law_ways)
theorem le__law_best : ∀ ds st, Le st (runB 12 (m__law_best f__law_ways) ds st) (f__law_best ds st) := fun _ _ => .refl _
def f__law_right : FM := runB 7 (m__law_right f_distance f_least_alignment f__law_is_int f__law_is_alignment)
theorem le__law_right : ∀ ds st, Le st (runB 7 (m__law_right f_distance f_least_alignment f__law_is_int f__law_is_alignment) ds st) (f__law_right ds st) := fun _ _ => .refl _
def f__law_some_near : FM := runB 4 (m__law_some_near f__law_all_edits f__law_draw f__law_pick f__law_near)
theorem le__law_some_near : ∀ ds st, Le st (runB 4 (m__law_some_near f__law_all_edits f__law_draw f__law_pick f__law_near) ds st) (f__law_some_near ds st) := fun _ _ => .refl _
def f__law_runs : FM := runB 7 (m__law_runs f__law_draw)
theorem le__law_runs : ∀ ds st, Le st (runB 7 (m__law_runs f__law_draw) ds st) (f__law_runs ds st) := fun _ _ => .refl _
def f__law_other_table : FM := runB 6 (m__law_other_table f__law_draw f__law_runs f__law_table f__law_shuffled f__law_side f__law_bent)
theorem le__law_other_table : ∀ ds st, Le st (runB 6 (m__law_other_table f__law_draw f__law_runs f__law_table f__law_shuffled f__law_side f__law_bent) ds st) (f__law_other_table ds st) := fun _ _ => .refl _
def f_law : FM := runB 11 (m_law f__law_begin f__law_draw f__law_some_near f__law_rare f__law_runs f__law_table f__law_other_table f__law_best f__law_right)
theorem le_law : ∀ ds st, Le st (runB 11 (m_law f__law_begin f__law_draw f__law_some_near f__law_rare f__law_runs f__law_table f__law_other_table f__law_best f__law_right) ds st) (f_law ds st) := fun _ _ => .refl _

/-! draws -/
theorem r_begin {ns : List Int} (hl : ns.length ≤ 63) : ∃ st', f__law_begin [.rol (ns.map D.int)] [] = .ok (.ref 1) st' ∧ DS ns st' ∧ st'.length = 2 := by
  obtain ⟨ys, st1, e, ⟨h1, h2⟩, hl2⟩ := comp_inv (q := .fix (ns.map D.int)) (set := gN 1) (fe := eCB fInt (aCons (eVar 1) aNil)) (τ := [some (.rol (ns.map D.int)), none]) (fun acc s => acc = (ns.map D.int).take acc.length ∧ s = ([] : Store)) (fun _ _ _ => rfl) (ns.map D.int) [] [] ⟨rfl, rfl⟩ fun i d acc s hi ha hp => by
    obtain ⟨h1, rfl⟩ := hp
    refine ⟨_, rfl, d, [], ?_, ?_, rfl⟩
    · have : ∃ k, d = .int k := by
        rw [List.getElem?_map] at hi
        cases hz : ns[i]? with
        | none => simp [hz] at hi
        | some k => exact ⟨k, by simpa [hz] using hi.symm⟩
      obtain ⟨k, rfl⟩ := this
      simp [gN]
    · simp only [List.length_nil, Nat.zero_add] at ha
      rw [List.length_append, List.length_singleton, ha, List.take_succ, hi, ← ha, ← h1]
      rfl
  have hy : ys = ns.map D.int := by
    rw [h1, List.take_of_length_le]
    simp at hl2
    simp [hl2]
  subst hy h2
  refine ⟨[.lst (ns.map D.int), .lst [.ref 0, .int 0, .int 0, .int 7]], ?_, ⟨rfl, 0, 0, 7, by decide, rfl⟩, rfl⟩
  have e : compL (.fix (ns.map D.int)) (gN 1) tYes (eCB fInt (aCons (eVar 1) aNil)) (wipeD [some (.rol (ns.map D.int)), none] [1]) (ns.map D.int) [] [] = .ok (ns.map D.int) [] := e
  have hs : ns.length ≤ 16777216 := by omega
  simp [f__law_begin, runB_e, m__law_begin, lComp_e, lc1, hs, e]
theorem r_draw {ns : List Int} {st : Store} {many : Int} (H : DS ns st) (h0 : 0 < many) (h1 : many.natAbs.log2 < 9000) :
    ∃ v st', f__law_draw [.ref 1, .int many] st = .ok (.int v) st' ∧ 0 ≤ v ∧ v < many ∧ DS ns st' ∧ Fr st st' := by
  obtain ⟨c0, p, h, q, hp, c1⟩ := H
  have set1 : ∀ p' h' q' : Int, 0 ≤ p' → ∀ s, s = st ∨ (∃ ys, s = st.set 1 (.lst ys)) ∨ (∃ ys zs, s = (st.set 1 (.lst ys)).set 1 (.lst zs)) → DS ns (s.set 1 (.lst [.ref 0, .int p', .int h', .int q'])) ∧ Fr st (s.set 1 (.lst [.ref 0, .int p', .int h', .int q'])) := by
    intro p' h' q' hp' s hs
    have e : s.set 1 (.lst [.ref 0, .int p', .int h', .int q']) = st.set 1 (.lst [.ref 0, .int p', .int h', .int q']) := by
      rcases hs with rfl | ⟨ys, rfl⟩ | ⟨ys, zs, rfl⟩ <;> simp [List.set_set]
    rw [e]
    refine ⟨⟨by rw [lstAt_ne (by decide)]; exact c0, p', h', q', hp', lstAt_set c1⟩, by simp, fun n hn _ => ?_⟩
    rw [List.getElem?_set_ne (Ne.symm hn)]
  have od : ∀ i, okDiv i many = true := fun i => okDiv_of (by omega) h1
  have om : ∀ i, okMod i many = true := fun i => okMod_of (by omega)
  have b0 : ∀ i : Int, 0 ≤ i.fmod many := fun i => Int.fmod_nonneg_of_pos i h0
  have b1 : ∀ i : Int, i.fmod many < many := fun i => Int.fmod_lt_of_pos i h0
  unfold f__law_draw
  rw [runB_e]
  unfold m__law_draw
  by_cases hh : 0 < h
  · obtain ⟨d1, d2⟩ := set1 p (h.fdiv many) q hp st (.inl rfl)
    refine ⟨h.fmod many, _, ?_, b0 _, b1 _, d1, d2⟩
    have x2 : ixN 4 2 = some 2 := rfl
    simp [oIx_ref c1, hh, od, om, oSet_ref c1, x2]
  · -- the size of the script's number here
    have main : ∀ (size : Int) (c : Option D), (0 ≤ size) → ∃ v st', ((sSeq (sAugS oIAdd (eVar 0) (eC (.int 1)) (eC (.int 1)))
        (sSeq (sIf (tBl (eBin oGe (eVar 3) (eBin oMul (eC (.int 2)) (eBin oPow (eC (.int 10)) (eC (.int 18)))))) (sSeq (sSet 2 (eBin oMod (eCB fInt (aCons (eBin oDiv (eVar 3) (eC (.int 2))) aNil)) (eBin oShl (eC (.int 1)) (eC (.int 6000)))))
        (sSeq (sSub (eVar 0) (eC (.int 2)) (eBin oDiv (eVar 2) (eVar 1)))
        (sRet (eBin oMod (eCB fInt (aCons (eVar 2) aNil)) (eVar 1))))) sNil)
        (sSeq (sSub (eVar 0) (eC (.int 3)) (eBin oMod (eCB fInt (aCons (eBin oAdd (eBin oAdd (eBin oAdd (eBin oMul (eBin oIx (eVar 0) (eC (.int 3))) (eC (.int 48271))) (eBin oMul (eBin oMod (eCB fInt (aCons (eVar 3) aNil)) (eC (.int 2147483629))) (eC (.int 16807)))) (eBin oMul (eBin oIx (eVar 0) (eC (.int 1))) (eC (.int 69621)))) (eC (.int 11))) aNil)) (eC (.int 2147483647))))
        (sRet (eBin oMod (eCB fInt (aCons (eBin oDiv (eBin oIx (eVar 0) (eC (.int 3))) (eC (.int 16))) aNil)) (eVar 1)))))) [some (.ref 1), some (.int many), none, some (.int size), c] st).fin = .ok (.int v) st' ∧ 0 ≤ v ∧ v < many ∧ DS ns st' ∧ Fr st st' := by
      intro size c hs
      have x1 : ixN 4 1 = some 1 := rfl
      have x2 : ixN 4 2 = some 2 := rfl
      have x3 : ixN 4 3 = some 3 := rfl
      obtain ⟨st1, e1⟩ : ∃ st1, st1 = st.set 1 (.lst [.ref 0, .int (p + 1), .int h, .int q]) := ⟨_, rfl⟩
      have l1 : lstAt st1 1 = some [.ref 0, .int (p + 1), .int h, .int q] := by
        rw [e1]
        exact lstAt_set c1
      have d48 : okMul q 48271 = true := okMul_r (by decide)
      have d16 : ∀ i, okMul i 16807 = true := fun i => okMul_r (by decide)
      have d69 : ∀ i, okMul i 69621 = true := fun i => okMul_r (by decide)
      have m1 : ∀ i, okMod i 2147483629 = true := fun i => okMod_of (by decide)
      have m2 : ∀ i, okMod i 2147483647 = true := fun i => okMod_of (by decide)
      have v16 : ∀ i, okDiv i 16 = true := fun i => okDiv_of (by decide) (by decide)
      have v2 : ∀ i, okDiv i 2 = true := fun i => okDiv_of (by decide) (by decide)
      by_cases hz : 2000000000000000000 ≤ size
      · have p1 : okPow 10 18 = true := by decide
        have p2 : okMul 2 1000000000000000000 = true := okMul_r (by decide)
        have p3 : okPow 1 6000 = true := by decide
        obtain ⟨M, eM⟩ : ∃ M : Int, M = 2 ^ 6000 := ⟨_, rfl⟩
        have hM : M ≠ 0 := by
          have : (0 : Int) < 2 ^ 6000 := Int.pow_pos (by decide)
          omega
        have om2 : ∀ i, okMod i M = true := fun i => okMod_of hM
        obtain ⟨d1, d2⟩ := set1 (p + 1) (((size.fdiv 2).fmod M).fdiv many) q (by omega) st1 (.inr (.inl ⟨_, e1⟩))
        refine ⟨((size.fdiv 2).fmod M).fmod many, _, ?_, b0 _, b1 _, d1, d2⟩
        simp [oGetL_ref c1, oSet_ref c1, x1, x2, ← e1, hz, p1, p2, p3, v2, od, om, ← eM, om2, oSet_ref l1]
      · have p1 : okPow 10 18 = true := by decide
        have p2 : okMul 2 1000000000000000000 = true := okMul_r (by decide)
        obtain ⟨q', eq'⟩ : ∃ q', q' = (q * 48271 + size.fmod 2147483629 * 16807 + (p + 1) * 69621 + 11).fmod 2147483647 := ⟨_, rfl⟩
        obtain ⟨d1, d2⟩ := set1 (p + 1) h q' (by omega) st1 (.inr (.inl ⟨_, e1⟩))
        have l2 : lstAt (st1.set 1 (.lst [.ref 0, .int (p + 1), .int h, .int q'])) 1 = some [.ref 0, .int (p + 1), .int h, .int q'] := lstAt_set l1
        refine ⟨(q'.fdiv 16).fmod many, _, ?_, b0 _, b1 _, d1, d2⟩
        simp [oGetL_ref c1, oSet_ref c1, x1, x2, x3, ← e1, hz, p1, p2, v2, v16, od, om, m1, m2, d48, d16, d69, oIx_ref l1, oSet_ref l1, oIx_ref l2, ← eq']
    by_cases hp2 : p < ns.length
    · have hc : ∃ c : Int, atI (ns.map D.int) p = some (.int c) := by
        have hp3 : p.toNat < ns.length := by omega
        refine ⟨ns[p.toNat], ?_⟩
        have := atI_nat (xs := ns.map D.int) (j := p.toNat) (v := D.int ns[p.toNat]) (by simp [hp3])
        rwa [Int.toNat_of_nonneg hp] at this
      obtain ⟨c, hc⟩ := hc
      obtain ⟨v, st', e, r⟩ := main (2 * (c.natAbs : Nat) + (if c < 0 then 1 else 0)) (some (.int c)) (by split <;> omega)
      refine ⟨v, st', ?_, r⟩
      rw [← e]
      have k2 : okMul 2 (c.natAbs : Nat) = true := okMul_l (by decide)
      simp [oIx_ref c1, hh, oIx_ref c0, fLen_ref c0, hp2, hc, k2]
    · obtain ⟨v, st', e, r⟩ := main 0 none (by omega)
      refine ⟨v, st', ?_, r⟩
      rw [← e]
      simp [oIx_ref c1, hh, oIx_ref c0, fLen_ref c0, hp2]

/-- a draw, as a natural number -/
theorem r_drawN {ns : List Int} {st : Store} {many : Nat} (H : DS ns st) (h0 : 0 < many) (h1 : many < 2 ^ 60) :
    ∃ (v : Nat) (st' : Store), f__law_draw [.ref 1, .int (many : Nat)] st = .ok (.int (v : Nat)) st' ∧ v < many ∧ DS ns st' ∧ Fr st st' := by
  obtain ⟨v, s1, e, v0, v1, D1, F1⟩ := r_draw (many := (many : Nat)) H (by omega) (by
    rw [Int.natAbs_natCast]
    have := log2_le h1
    omega)
  refine ⟨v.toNat, s1, ?_, by omega, D1, F1⟩
  rw [Int.toNat_of_nonneg v0]
  exact e
theorem ixN_of {n j : Nat} (h : j < n) : ixN n (j : Nat) = some j := by
  unfold ixN
  rw [if_pos (by omega), if_pos (by simpa using h)]
  simp
theorem atI_of {xs : List D} {j : Nat} (h : j < xs.length) : atI xs (j : Nat) = some xs[j] := atI_nat (by simp [h])
theorem r_drawZ {ns : List Int} {st : Store} {many : Int} (H : DS ns st) (h0 : 0 < many) (h1 : many ≤ 1000) :
    ∃ v st', f__law_draw [.ref 1, .int many] st = .ok (.int v) st' ∧ 0 ≤ v ∧ v < many ∧ DS ns st' ∧ Fr st st' :=
  r_draw H h0 (Nat.lt_of_le_of_lt (log2_le (k := 10) (by omega)) (by decide))

theorem r_pick {ns : List Int} {st : Store} {m : Nat} {xs : List D} (H : DS ns st) (hx : lstAt st m = some xs) (hm : m ≠ 1) (h0 : 0 < xs.length) (h1 : xs.length < 2 ^ 60) :
    ∃ v st', f__law_pick [.ref 1, .ref m] st = .ok v st' ∧ v ∈ xs ∧ DS ns st' ∧ Fr st st' := by
  obtain ⟨v, s1, e, v0, v1, D1, F1⟩ := r_draw (many := (xs.length : Nat)) H (by omega) (by
    rw [Int.natAbs_natCast]
    have := log2_le h1
    omega)
  have hv : v.toNat < xs.length := by omega
  refine ⟨xs[v.toNat], s1, ?_, List.getElem_mem _, D1, F1⟩
  have ha : atI xs v = some xs[v.toNat] := by
    have := atI_nat (xs := xs) (j := v.toNat) (v := xs[v.toNat]) (by simp [hv])
    rwa [Int.toNat_of_nonneg v0] at this
  simp [f__law_pick, runB_e, m__law_pick, fLen_ref hx, e, oIx_ref (F1.lst hx hm), ha]

theorem r_rare {ns : List Int} {st : Store} {many : Int} (H : DS ns st) (h0 : 0 < many) (h1 : many.natAbs.log2 < 9000) :
    ∃ b st', f__law_rare [.ref 1, .int many] st = .ok (.bl b) st' ∧ DS ns st' ∧ Fr st st' := by
  obtain ⟨v, s1, e, v0, v1, D1, F1⟩ := r_draw H h0 h1
  have v2 : okDiv many 2 = true := okDiv_of (by decide) (by decide)
  exact ⟨decide (v = many.fdiv 2), s1, by simp [f__law_rare, runB_e, m__law_rare, e, v2], D1, F1⟩

/-- a loop that returns False at the first that fails -/
theorem for_all {α : Type} {q : Sq} {set : D → Sl → Option Sl} {u : SM} {st : Store} (hq : q.chk st = true) (g : α → D) (p : α → Bool) (I : Sl → Prop) : ∀ (xs : List α) (τ : Sl), I τ →
    (∀ a ∈ xs, ∀ τ, I τ → ∃ τ1, set (g a) τ = some τ1 ∧ (p a = true → ∃ τ2, u τ1 st = .nx τ2 st ∧ I τ2) ∧ (p a = false → u τ1 st = .rt (.bl false) st)) →
    (xs.all p = true ∧ ∃ τ', forL q set u (xs.map g) τ st = .nx τ' st ∧ I τ') ∨ (xs.all p = false ∧ forL q set u (xs.map g) τ st = .rt (.bl false) st)
  | [], τ, h0, _ => .inl ⟨rfl, τ, forL_nil hq, h0⟩
  | a :: xs, τ, h0, hs => by
    obtain ⟨τ1, e1, h1, h2⟩ := hs a (List.mem_cons_self ..) τ h0
    cases hp : p a with
    | true =>
      obtain ⟨τ2, e2, h3⟩ := h1 hp
      rcases for_all hq g p I xs τ2 h3 fun b hb => hs b (List.mem_cons_of_mem _ hb) with ⟨ha, τ', e3, h4⟩ | ⟨ha, e3⟩
      · exact .inl ⟨by rw [List.all_cons, hp, ha]; rfl, τ', by rw [List.map_cons, forL_nx hq e1 e2, e3], h4⟩
      · exact .inr ⟨by rw [List.all_cons, hp, ha]; rfl, by rw [List.map_cons, forL_nx hq e1 e2, e3]⟩
    | false => exact .inr ⟨by rw [List.all_cons, hp]; rfl, by rw [List.map_cons, forL_rt hq e1 (h2 hp)]⟩
theorem ch_le {fa fb fc : EM D} {τ : Sl} {st : Store} {a b c : Int} (ha : fa τ st = .ok (.int a) st) (hb : fb τ st = .ok (.int b) st) (hc : fc τ st = .ok (.int c) st) : eChain oLe oLe fa fb fc τ st = .ok (.bl (decide (a ≤ b) && decide (b ≤ c))) st := by
  by_cases h : a ≤ b <;> simp [ha, hb, hc, oLe, h]
theorem ch_lt {fa fb fc : EM D} {τ : Sl} {st : Store} {a b c : Int} (ha : fa τ st = .ok (.int a) st) (hb : fb τ st = .ok (.int b) st) (hc : fc τ st = .ok (.int c) st) : eChain oLe oLt fa fb fc τ st = .ok (.bl (decide (a ≤ b) && decide (b < c))) st := by
  by_cases h : a ≤ b <;> simp [ha, hb, hc, oLe, oLt, h]
theorem gAllB_map {α : Type} {f : α → Bool} {xs : List α} {st : Store} : gAllB (xs.map fun a => D.bl (f a)) st = .ok (.bl (xs.all f)) st := by
  have := gAllB_bls (bs := xs.map f) (st := st)
  rw [List.map_map, List.all_map] at this
  exact this

theorem r_is_int {st : Store} {i : Int} : f__law_is_int [.int i] st = .ok (.bl true) st := by
  simp [f__law_is_int, runB_e, m__law_is_int]

/-! draws, by what holds behind them -/
section
variable {ns : List Int} {st : Store}
theorem w_draw {many : Nat} {Q : D → Store → Prop} (H : DS ns st) (h0 : 0 < many) (h1 : many < 2 ^ 60) (hQ : ∀ (v : Nat) s, v < many → DS ns s → Fr st s → Q (.int (v : Nat)) s) : W (f__law_draw [.ref 1, .int (many : Nat)] st) Q := by
  obtain ⟨v, s, e, hv, D1, F1⟩ := r_drawN H h0 h1
  exact .of e (hQ v s hv D1 F1)
end

section
variable {ns : List Int} {st : Store}
theorem w_pick {m : Nat} {xs : List D} {Q : D → Store → Prop} (H : DS ns st) (hx : lstAt st m = some xs) (hm : m ≠ 1) (h0 : 0 < xs.length) (h1 : xs.length < 2 ^ 60) (hQ : ∀ v s, v ∈ xs → DS ns s → Fr st s → Q v s) : W (f__law_pick [.ref 1, .ref m] st) Q := by
  obtain ⟨v, s, e, hv, D1, F1⟩ := r_pick H hx hm h0 h1
  exact .of e (hQ v s hv D1 F1)
end

section
variable {ns : List Int} {st : Store}
theorem w_rare {many : Nat} {Q : D → Store → Prop} (H : DS ns st) (h0 : 0 < many) (h1 : many < 2 ^ 60) (hQ : ∀ b s, DS ns s → Fr st s → Q (.bl b) s) : W (f__law_rare [.ref 1, .int (many : Nat)] st) Q := by
  obtain ⟨b, s, e, D1, F1⟩ := r_rare (many := (many : Nat)) H (by omega) (by
    rw [Int.natAbs_natCast]
    have := log2_le h1
    omega)
  exact .of e (hQ b s D1 F1)
end

/-! edits -/
inductive Ed where
  | cut (k : Int) | put (k : Int) | turn (k o : Int)
  deriving DecidableEq
def Ed.d : Ed → D
  | .cut k => .tup [.str [99, 117, 116], .int k]
  | .put k => .tup [.str [112, 117, 116], .int k]
  | .turn k o => .tup [.str [116, 117, 114, 110], .int k, .int o]
theorem Ed.d_inj {a b : Ed} (h : a.d = b.d) : a = b := by
  cases a <;> cases b <;> simp [Ed.d] at h <;> simp [h]
def eds (es : List Ed) : D := .tup (es.map Ed.d)
/-- of so many kinds -/
def Ed.ok (n : Nat) : Ed → Prop
  | .cut k => 0 ≤ k ∧ k < n
  | .put k => 0 ≤ k ∧ k < n
  | .turn k o => (0 ≤ k ∧ k < n) ∧ (0 ≤ o ∧ o < n) ∧ k ≠ o
def turnsOf (n : Nat) (k : Nat) : List Ed := ((List.range n).filter fun j : Nat => !(decide ((j : Int) = (k : Int)))).map fun j : Nat => Ed.turn (k : Nat) (j : Nat)
def allE (n : Nat) : List Ed := (List.range n).map (fun k : Nat => Ed.cut (k : Nat)) ++ (List.range n).map (fun k : Nat => Ed.put (k : Nat)) ++ (List.range n).flatMap (turnsOf n)
theorem turnsOf_len {n k : Nat} : (turnsOf n k).length ≤ n := by
  unfold turnsOf
  rw [List.length_map]
  exact Nat.le_trans (List.length_filter_le _ _) (by simp)
theorem flat_len {n : Nat} : ∀ k, ((List.range k).flatMap (turnsOf n)).length ≤ k * n
  | 0 => by simp
  | k + 1 => by
    rw [List.range_succ, List.flatMap_append, List.length_append, List.flatMap_singleton, Nat.succ_mul]
    have := flat_len (n := n) k
    have := turnsOf_len (n := n) (k := k)
    omega
theorem allE_len {n : Nat} (h : n ≤ 5) : (allE n).length ≤ 35 := by
  unfold allE
  have := flat_len (n := n) n
  have : n * n ≤ 5 * 5 := Nat.mul_le_mul h h
  simp only [List.length_append, List.length_map, List.length_range]
  omega
theorem allE_pos {n : Nat} (h : 0 < n) : 0 < (allE n).length := by
  unfold allE
  simp only [List.length_append, List.length_map, List.length_range]
  omega
theorem allE_mem {n : Nat} {e : Ed} : e ∈ allE n ↔ e.ok n := by
  unfold allE turnsOf
  cases e with
  | cut k =>
    simp [Ed.ok]
    constructor
    · rintro ⟨a, ha, rfl⟩
      omega
    · intro h
      exact ⟨k.toNat, by omega, by omega⟩
  | put k =>
    simp [Ed.ok]
    constructor
    · rintro ⟨a, ha, rfl⟩
      omega
    · intro h
      exact ⟨k.toNat, by omega, by omega⟩
  | turn k o =>
    simp [Ed.ok]
    constructor
    · rintro ⟨a, ha, b, ⟨hb, hc⟩, rfl, rfl⟩
      omega
    · intro h
      exact ⟨k.toNat, by omega, o.toNat, by omega, by omega, by omega⟩
section
variable {ns : List Int} {st : Store}
theorem w_all_edits {n : Nat} {Q : D → Store → Prop} (h5 : n ≤ 5) (hQ : ∀ s, Gr st s → Q (eds (allE n)) s) : W (f__law_all_edits [.int (n : Nat)] st) Q := by
  unfold f__law_all_edits
  rw [runB_e]
  unfold m__law_all_edits
  have hr : ∀ s, rg1 (.int (n : Nat)) s = .ok (.fix (rng 0 n)) s := fun s => rg1_int (by omega)
  simp [List.replicate, lComp_e, hr]
  refine w_lc (by simp [rng_len]; omega) ?_
  refine w_map (fun k : Nat => D.int k) (fun k : Nat => (Ed.cut k).d) (List.range n) (by rw [items_fix, rng_eq]) rfl (fun k _ => ⟨_, rfl, by simp [wipeD, Ed.d]⟩) ?_
  refine w_lc (by simp [rng_len]; omega) ?_
  refine w_map (fun k : Nat => D.int k) (fun k : Nat => (Ed.put k).d) (List.range n) (by rw [items_fix, rng_eq]) rfl (fun k _ => ⟨_, rfl, by simp [wipeD, Ed.d]⟩) ?_
  obtain ⟨A, eA⟩ : ∃ A, A = (List.range n).map fun k : Nat => Ed.cut (k : Nat) := ⟨_, rfl⟩
  obtain ⟨B, eB⟩ : ∃ B, B = (List.range n).map fun k : Nat => Ed.put (k : Nat) := ⟨_, rfl⟩
  have eA2 : ((List.range n).map fun k : Nat => (Ed.cut k).d) = A.map Ed.d := by rw [eA, List.map_map]; rfl
  have eB2 : ((List.range n).map fun k : Nat => (Ed.put k).d) = B.map Ed.d := by rw [eB, List.map_map]; rfl
  have lA : A.length = n := by rw [eA]; simp
  have lB : B.length = n := by rw [eB]; simp
  rw [eA2, eB2]
  obtain ⟨s2, es2⟩ : ∃ s2, s2 = st ++ [.lst (A.map Ed.d), .lst (B.map Ed.d)] := ⟨_, rfl⟩
  have g1 : lstAt s2 st.length = some (A.map Ed.d) := by rw [es2]; simp [lstAt]
  have g2 : lstAt s2 (st.length + 1) = some (B.map Ed.d) := by rw [es2]; simp [lstAt]
  have g3 := oAdd_ref g1 g2 (by simp [lA, lB]; omega)
  have es3 : st ++ ([.lst (A.map Ed.d)] ++ [.lst (B.map Ed.d)]) = s2 := by rw [es2]; rfl
  simp only [List.append_assoc, es3, List.length_append, List.length_singleton, g3, W_ok]
  have G2 : Gr st s2 := ⟨_, es2⟩
  simp [sFor_e, hr]
  rw [← List.map_append]
  obtain ⟨P, hP⟩ : ∃ P : Nat → Sl → Store → Prop, P = fun k τ s => (∃ a b, τ = [some (.int (n : Nat)), some (.ref s2.length), a, b]) ∧ lstAt s s2.length = some ((A ++ B ++ (List.range k).flatMap (turnsOf n)).map Ed.d) ∧ Gr st s := ⟨_, rfl⟩
  refine ws_rng P (fun _ _ _ _ => rfl) (by rw [hP]; exact ⟨⟨none, none, rfl⟩, by simp [lstAt], G2.trans .app⟩) ?_ ?_
  · intro i τ s hin hp
    rw [hP] at hp
    obtain ⟨⟨a, b, rfl⟩, g, G⟩ := hp
    refine ⟨_, rfl, ?_⟩
    have lX : (A ++ B ++ (List.range i).flatMap (turnsOf n)).length ≤ 35 := by
      have := flat_len (n := n) i
      have : i * n ≤ 5 * 5 := Nat.mul_le_mul (by omega) h5
      simp only [List.length_append, lA, lB]
      omega
    obtain ⟨X, eX⟩ : ∃ X, X = A ++ B ++ (List.range i).flatMap (turnsOf n) := ⟨_, rfl⟩
    rw [← eX] at g lX
    simp [lComp_e, hr, okT_ref g]
    refine w_lc (by simp [rng_len]; omega) ?_
    refine w_fil (fun k : Nat => D.int k) (fun j : Nat => (Ed.turn (i : Nat) j).d) (fun j : Nat => !(decide ((j : Int) = (i : Int)))) (List.range n) (by rw [items_fix, rng_eq]) rfl (fun k _ => ⟨_, rfl, by simp [wipeD, Ed.d]⟩) ?_
    have eC : (((List.range n).filter fun j : Nat => !(decide ((j : Int) = (i : Int)))).map fun j : Nat => (Ed.turn (i : Nat) j).d) = (turnsOf n i).map Ed.d := by rw [turnsOf, List.map_map]; rfl
    rw [eC]
    have g' : lstAt (s ++ [.lst ((turnsOf n i).map Ed.d)]) s2.length = some (X.map Ed.d) := (Gr.app (c := Cell.lst ((turnsOf n i).map Ed.d))).lst g
    have lT := turnsOf_len (n := n) (k := i)
    have g3 := mExtend_ref g' (lstAt_new (a := s) (xs := (turnsOf n i).map Ed.d)) (by simp; omega)
    rw [g3, W_ok, hP]
    refine ⟨⟨_, _, rfl⟩, ?_, (G.trans .app).put G2.len⟩
    rw [lstAt_set g', ← List.map_append, eX, List.range_succ, List.flatMap_append, List.flatMap_singleton, List.append_assoc]
  · intro τ s hp
    rw [hP] at hp
    obtain ⟨⟨a, b, rfl⟩, g, G⟩ := hp
    simp [fTuple_ref g]
    have := hQ s G
    rw [eds, allE, ← eA, ← eB] at this
    simpa using this
end

section
variable {ns : List Int} {st : Store}
theorem w_near {n : Nat} {Q : D → Store → Prop} (H : DS ns st) (hn : 0 < n) (h5 : n ≤ 5) (hQ : ∀ es s, es.Sublist (allE n) → DS ns s → Fr st s → Q (eds es) s) : W (f__law_near [.ref 1, .int (n : Nat)] st) Q := by
  have lA := allE_len h5
  have lm : ((allE n).map Ed.d).length ≤ 16777216 := by rw [List.length_map]; omega
  have ee : ∀ s, dSq s (eds (allE n)) = some (.fix ((allE n).map Ed.d)) := fun _ => rfl
  unfold f__law_near
  rw [runB_e]
  unfold m__law_near
  simp [List.replicate]
  refine w_all_edits h5 fun s1 G1 => ?_
  refine w_draw (many := 5) (G1.ds H) (by decide) (by decide) fun v s2 hv D2 F2 => ?_
  have F12 := G1.fr.trans F2
  have v3 : v = 0 ∨ v = 1 ∨ v = 2 ∨ (v ≠ 0 ∧ v ≠ 1 ∧ v ≠ 2) := by omega
  rcases v3 with rfl | rfl | rfl | ⟨n0, n1, n2⟩
  · simp
    exact hQ _ s2 (List.Sublist.refl _) D2 F12
  · simp [lComp_e, ee]
    refine w_lc lm ?_
    refine w_fil Ed.d Ed.d (fun e : Ed => match e with | .turn _ _ => false | _ => true) (allE n) rfl rfl (fun e _ => ⟨_, rfl, by cases e <;> simp [Ed.d, wipeD]⟩) ?_
    exact hQ _ s2 List.filter_sublist D2 F12
  · simp [lComp_e, ee]
    refine w_lc lm ?_
    refine w_fil Ed.d Ed.d (fun e : Ed => match e with | .turn _ _ => true | _ => false) (allE n) rfl rfl (fun e _ => ⟨_, rfl, by cases e <;> simp [Ed.d, wipeD]⟩) ?_
    exact hQ _ s2 List.filter_sublist D2 F12
  · have m0 : ¬ ((v : Int) = 0) := by omega
    have m1 : ¬ ((v : Int) = 1) := by omega
    have m2 : ¬ ((v : Int) = 2) := by omega
    have hm0 : 2 ≤ s2.length := D2.len
    simp [n0, m1, m2, sFor_e, ee]
    obtain ⟨P, hP⟩ : ∃ P : Nat → Sl → Store → Prop, P = fun k τ s => ∃ fs : List Ed, (∃ a, τ = [some (.ref 1), some (.int (n : Nat)), some (eds (allE n)), some (.int (v : Nat)), some (.ref s2.length), a]) ∧ lstAt s s2.length = some (fs.map Ed.d) ∧ fs.Sublist ((allE n).take k) ∧ DS ns s ∧ Fr s2 s := ⟨_, rfl⟩
    refine ws_map Ed.d (allE n) rfl P (fun _ _ _ _ => rfl) (by rw [hP]; exact ⟨[], ⟨none, rfl⟩, lstAt_new, by simp, D2.app, .app⟩) ?_ ?_
    · intro i a τ s hi hp
      rw [hP] at hp
      obtain ⟨fs, ⟨b, rfl⟩, g, l2, D, F⟩ := hp
      refine ⟨_, rfl, ?_⟩
      have tk : (allE n).take (i + 1) = (allE n).take i ++ [a] := by rw [List.take_succ, hi]; rfl
      simp
      refine w_draw (many := 3) D (by decide) (by decide) fun w s3 hw D3 F3 => ?_
      have g3 := F3.lst g (by omega)
      have lf : fs.length ≤ 35 := by
        have := l2.length_le
        rw [List.length_take] at this
        omega
      by_cases hw2 : w < 2
      · have g5 := mAppend_ref (x := a.d) g3 (by simp; omega)
        have c : (w : Int) < 2 := by omega
        simp [c, okT_ref g3, g5]
        rw [hP]
        refine ⟨fs ++ [a], ⟨_, rfl⟩, by rw [lstAt_set g3]; simp, ?_, D3.put2 (by omega) (by omega), (F.trans F3).put2 (Nat.le_refl _)⟩
        rw [tk]
        exact l2.append (List.Sublist.refl _)
      · have c : ¬ ((w : Int) < 2) := by omega
        simp [c]
        rw [hP]
        refine ⟨fs, ⟨_, rfl⟩, g3, ?_, D3, F.trans F3⟩
        rw [tk]
        exact l2.trans (List.sublist_append_left _ _)
    · intro τ s hp
      rw [hP] at hp
      obtain ⟨fs, ⟨b, rfl⟩, g, l2, D, F⟩ := hp
      rw [List.take_length] at l2
      simp [fTuple_ref g]
      exact hQ fs s l2 D (F12.trans F)
end

section
variable {st : Store} {es : List Ed}
theorem Ed.plain {e : Ed} {n : Nat} : e.d.plain (n + 1) = true := by cases e <;> simp [Ed.d]
theorem in_ed {e : Ed} : dIn e.d (eds es) st = some (decide (e ∈ es)) := by
  have h1 : e.d.flat = false := by cases e <;> rfl
  have h2 : (es.map Ed.d).all (D.plain 59) = true := by
    rw [List.all_eq_true]
    intro x hx
    obtain ⟨a, _, rfl⟩ := List.mem_map.mp hx
    exact Ed.plain
  have h3 : (e.d ∈ es.map Ed.d) = (e ∈ es) := propext ⟨fun h => by
    obtain ⟨a, ha, e⟩ := List.mem_map.mp h
    rw [← Ed.d_inj e]
    exact ha, fun h => List.mem_map_of_mem h⟩
  rw [dIn_S rfl]
  cases e <;> simp only [dInS, Ed.d, eds, dSeq] <;> simp only [Ed.d] at h1 h3 <;> simp [D.flat, h2, h3]
theorem in_cut {k : Int} : dIn (.tup [.str [99, 117, 116], .int k]) (eds es) st = some (decide (Ed.cut k ∈ es)) := in_ed (e := .cut k)
theorem in_put {k : Int} : dIn (.tup [.str [112, 117, 116], .int k]) (eds es) st = some (decide (Ed.put k ∈ es)) := in_ed (e := .put k)
theorem in_turn {k o : Int} : dIn (.tup [.str [116, 117, 114, 110], .int k, .int o]) (eds es) st = some (decide (Ed.turn k o ∈ es)) := in_ed (e := .turn k o)
end

/-! marks -/
abbrev OI := Option Int
def mkD : OI → D
  | none => .non
  | some i => .int i
def lsr : OI → OI → OI
  | none, y => y
  | some x, none => some x
  | some x, some y => if x < y then some x else some y
def mor (o : OI) : OI := o.map (· + 1)
def atm (o : OI) (b : Int) : Bool := match o with
  | none => false
  | some x => decide (x ≤ b)
def tb (t : List Int) : D := .tup (t.map D.int)
section
variable {st : Store} {a b : OI}
theorem r_lesser : f_lesser [mkD a, mkD b] st = .ok (mkD (lsr a b)) st := by
  unfold f_lesser
  rw [runB_e]
  unfold m_lesser
  cases a with
  | none => simp [mkD, lsr]
  | some x =>
    cases b with
    | none => simp [mkD, lsr]
    | some y => by_cases h : x < y <;> simp [mkD, lsr, h]
theorem r_one_more : f_one_more [mkD a] st = .ok (mkD (mor a)) st := by
  unfold f_one_more
  rw [runB_e]
  unfold m_one_more
  cases a <;> simp [mkD, mor]
end
/-- one mark -/
def cstep (es : List Ed) (i j : Nat) (ti oj : Int) (up left diag : OI) : OI :=
  if i = 0 ∧ j = 0 then some 0 else
    let b1 := if 0 < i ∧ Ed.cut ti ∈ es then mor up else none
    let b2 := if 0 < j ∧ Ed.put oj ∈ es then lsr b1 (mor left) else b1
    if 0 < i ∧ 0 < j then if ti = oj then lsr b2 diag else if Ed.turn ti oj ∈ es then lsr b2 (mor diag) else b2 else b2
theorem r_cost_at {es : List Ed} {t o : List Int} {st : Store} {a r i j q : Nat} {AL RL X : List D} {ti oj : Int} {up left diag : OI} (hA : lstAt st a = some AL) (hR : lstAt st r = some RL)
    (h1 : 0 < i → atI AL ((i : Int) - 1) = some (.ref q) ∧ lstAt st q = some X ∧ atI X (j : Int) = some (mkD up) ∧ atI (t.map D.int) ((i : Int) - 1) = some (.int ti))
    (h2 : 0 < j → atI RL ((j : Int) - 1) = some (mkD left) ∧ atI (o.map D.int) ((j : Int) - 1) = some (.int oj))
    (h3 : 0 < i → 0 < j → atI X ((j : Int) - 1) = some (mkD diag)) :
    f_cost_at [eds es, tb t, tb o, .ref a, .ref r, .int (i : Nat), .int (j : Nat)] st = .ok (mkD (cstep es i j ti oj up left diag)) st := by
  unfold f_cost_at
  rw [runB_e]
  unfold m_cost_at
  have nn : mkD none = D.non := rfl
  by_cases hi : 0 < i
  · obtain ⟨a1, a2, a3, a4⟩ := h1 hi
    have ii : ¬ ((i : Int) = 0) := by omega
    have i0 : ¬ i = 0 := by omega
    have ip : (0 : Int) < i := by omega
    by_cases hj : 0 < j
    · obtain ⟨b1, b2⟩ := h2 hj
      have c1 := h3 hi hj
      have jj : ¬ ((j : Int) = 0) := by omega
      have jp : (0 : Int) < j := by omega
      by_cases e3 : ti = oj
      · subst e3
        by_cases e1 : Ed.cut ti ∈ es <;> by_cases e2 : Ed.put ti ∈ es <;>
          simp [List.replicate, cstep, tb, hi, hj, ii, i0, ip, jp, oIx_ref hA, oIx_ref hR, oIx_ref a2, a1, a3, a4, b1, b2, c1, in_cut, in_put, in_turn, e1, e2, r_one_more, r_lesser, ← nn]
      · by_cases e1 : Ed.cut ti ∈ es <;> by_cases e2 : Ed.put oj ∈ es <;> by_cases e4 : Ed.turn ti oj ∈ es <;>
        simp [List.replicate, cstep, tb, hi, hj, ii, i0, ip, jp, oIx_ref hA, oIx_ref hR, oIx_ref a2, a1, a3, a4, b1, b2, c1, in_cut, in_put, in_turn, e1, e2, e3, e4, r_one_more, r_lesser, ← nn]
    · have j0 : j = 0 := by omega
      subst j0
      by_cases e1 : Ed.cut ti ∈ es <;> simp [List.replicate, cstep, tb, hi, ii, i0, ip, oIx_ref hA, oIx_ref a2, a1, a4, in_cut, e1, r_one_more, r_lesser, ← nn]
      rw [show atI X 0 = some (mkD up) from a3]
      simp [r_one_more]
  · have i0 : i = 0 := by omega
    subst i0
    by_cases hj : 0 < j
    · obtain ⟨b1, b2⟩ := h2 hj
      have jj : ¬ ((j : Int) = 0) := by omega
      have j0 : ¬ j = 0 := by omega
      have jp : (0 : Int) < j := by omega
      by_cases e2 : Ed.put oj ∈ es <;> simp [List.replicate, cstep, tb, hj, jj, j0, jp, oIx_ref hR, b1, b2, in_put, e2, r_one_more, r_lesser, ← nn]
    · have j0 : j = 0 := by omega
      subst j0
      simp [List.replicate, cstep, mkD]

/-- a table of marks -/
def gcnt (F : Nat → Nat → OI → OI → OI → OI) (i j : Nat) : OI :=
  F i j (if _h : 0 < i then gcnt F (i - 1) j else none) (if _h : 0 < j then gcnt F i (j - 1) else none) (if _h : 0 < i ∧ 0 < j then gcnt F (i - 1) (j - 1) else none)
termination_by i + j
decreasing_by all_goals omega
theorem gcnt_eq {F : Nat → Nat → OI → OI → OI → OI} {i j : Nat} : gcnt F i j = F i j (if 0 < i then gcnt F (i - 1) j else none) (if 0 < j then gcnt F i (j - 1) else none) (if 0 < i ∧ 0 < j then gcnt F (i - 1) (j - 1) else none) := by
  rw [gcnt]
  simp only [dite_eq_ite]
def cnt (es : List Ed) (t o : List Int) : Nat → Nat → OI := gcnt fun i j u l d => cstep es i j (t.getD (i - 1) 0) (o.getD (j - 1) 0) u l d
theorem cnt_eq {es : List Ed} {t o : List Int} {i j : Nat} : cnt es t o i j = cstep es i j (t.getD (i - 1) 0) (o.getD (j - 1) 0) (if 0 < i then cnt es t o (i - 1) j else none) (if 0 < j then cnt es t o i (j - 1) else none) (if 0 < i ∧ 0 < j then cnt es t o (i - 1) (j - 1) else none) := gcnt_eq
def mrow (c : Nat → Nat → OI) (m i : Nat) : List D := (List.range (m + 1)).map fun j => mkD (c i j)
theorem atI_pred {α : Type} {xs : List α} {i : Nat} {x : α} (h : 0 < i) (e : xs[i - 1]? = some x) : atI xs ((i : Int) - 1) = some x := by
  have : ((i : Int) - 1) = ((i - 1 : Nat) : Int) := by omega
  rw [this]
  exact atI_nat e
theorem atI_int {t : List Int} {i : Nat} (h : 0 < i) (hi : i ≤ t.length) : atI (t.map D.int) ((i : Int) - 1) = some (.int (t.getD (i - 1) 0)) := by
  refine atI_pred h ?_
  have : i - 1 < t.length := by omega
  rw [List.getElem?_map, List.getElem?_eq_getElem this, List.getD_eq_getElem?_getD, List.getElem?_eq_getElem this]
  rfl
theorem atI_row {f : Nat → D} {n i : Nat} (h : i < n) : atI ((List.range n).map f) (i : Int) = some (f i) := by
  refine atI_nat ?_
  rw [List.getElem?_map, List.getElem?_range h]
  rfl
theorem w_cost_rows {es : List Ed} {t o : List Int} {st : Store} {Q : D → Store → Prop} (ht : t.length < 1000) (ho : o.length < 1000)
    (hQ : ∀ (s : Store) (m : Nat) (qs : List Nat), Gr st s → lstAt s m = some (qs.map D.ref) → qs.length = t.length + 1 → (∀ i q, qs[i]? = some q → lstAt s q = some (mrow (cnt es t o) o.length i)) → Q (.ref m) s) : W (f_cost_rows [eds es, tb t, tb o] st) Q := by
  unfold f_cost_rows
  rw [runB_e]
  unfold m_cost_rows
  have h1 : ∀ s, rg1 (.int ((t.length : Int) + 1)) s = .ok (.fix (rng 0 (t.length + 1 : Nat))) s := fun s => rg1_int (j := (t.length : Int) + 1) (by omega)
  have h2 : ∀ s, rg1 (.int ((o.length : Int) + 1)) s = .ok (.fix (rng 0 (o.length + 1 : Nat))) s := fun s => rg1_int (j := (o.length : Int) + 1) (by omega)
  simp [List.replicate, sFor_e, tb, h1]
  obtain ⟨P, hP⟩ : ∃ P : Nat → Sl → Store → Prop, P = fun k τ s => ∃ (qs : List Nat), (∃ a b c, τ = [some (eds es), some (tb t), some (tb o), some (.ref st.length), a, b, c]) ∧ lstAt s st.length = some (qs.map D.ref) ∧ qs.length = k ∧ (∀ i q, qs[i]? = some q → st.length < q ∧ q < s.length ∧ lstAt s q = some (mrow (cnt es t o) o.length i)) ∧ Gr st s := ⟨_, rfl⟩
  refine ws_rng (n := t.length + 1) P (fun _ _ _ _ => rfl) (by rw [hP]; exact ⟨[], ⟨none, none, none, rfl⟩, lstAt_new, rfl, fun i q h => by simp at h, .app⟩) ?_ ?_
  · intro i τ s hi hp
    rw [hP] at hp
    obtain ⟨qs, ⟨a, b, c, rfl⟩, g, lq, rows, G⟩ := hp
    refine ⟨_, rfl, ?_⟩
    have hsl : st.length < s.length := lstAt_lt g
    simp [sFor_e, tb, h2]
    obtain ⟨P2, hP2⟩ : ∃ P : Nat → Sl → Store → Prop, P = fun k τ s1 => (∃ b, τ = [some (eds es), some (tb t), some (tb o), some (.ref st.length), some (.int (i : Nat)), some (.ref s.length), b]) ∧ lstAt s1 st.length = some (qs.map D.ref) ∧ lstAt s1 s.length = some ((List.range k).map fun j => mkD (cnt es t o i j)) ∧ (∀ i q, qs[i]? = some q → lstAt s1 q = some (mrow (cnt es t o) o.length i)) ∧ Gr s s1 := ⟨_, rfl⟩
    refine ws_rng (n := o.length + 1) P2 (fun _ _ _ _ => rfl) (by rw [hP2]; exact ⟨⟨c, rfl⟩, (Gr.app (a := s)).lst g, lstAt_new, fun i q h => (Gr.app (a := s)).lst (rows i q h).2.2, .app⟩) ?_ ?_
    · intro j τ s1 hj hp
      rw [hP2] at hp
      obtain ⟨⟨b, rfl⟩, g1, g2, rw1, G1⟩ := hp
      refine ⟨_, rfl, ?_⟩
      obtain ⟨q, X, hq⟩ : ∃ q X, (0 < i → qs[i - 1]? = some q ∧ X = mrow (cnt es t o) o.length (i - 1)) := by
        by_cases h : 0 < i
        · have : i - 1 < qs.length := by omega
          exact ⟨qs[i - 1], _, fun _ => ⟨List.getElem?_eq_getElem this, rfl⟩⟩
        · exact ⟨0, [], fun z => absurd z h⟩
      have e := r_cost_at (es := es) (t := t) (o := o) (st := s1) (a := st.length) (r := s.length) (i := i) (j := j) (q := q) (X := X) (ti := t.getD (i - 1) 0) (oj := o.getD (j - 1) 0) (up := if 0 < i then cnt es t o (i - 1) j else none) (left := if 0 < j then cnt es t o i (j - 1) else none) (diag := if 0 < i ∧ 0 < j then cnt es t o (i - 1) (j - 1) else none) g1 g2
        (fun h => by
          obtain ⟨e1, rfl⟩ := hq h
          refine ⟨atI_pred h (by rw [List.getElem?_map, e1]; rfl), rw1 _ _ e1, ?_, atI_int h (by omega)⟩
          rw [if_pos h]
          exact atI_row hj)
        (fun h => by
          refine ⟨?_, atI_int h (by omega)⟩
          rw [if_pos h]
          refine atI_pred h ?_
          rw [List.getElem?_map, List.getElem?_range (by omega)]
          rfl)
        (fun h h' => by
          obtain ⟨e1, rfl⟩ := hq h
          rw [if_pos ⟨h, h'⟩]
          refine atI_pred h' ?_
          unfold mrow
          rw [List.getElem?_map, List.getElem?_range (by omega)]
          rfl)
      rw [← cnt_eq] at e
      have g3 := mAppend_ref (x := mkD (cnt es t o i j)) g2 (by simp; omega)
      have hn : st.length ≠ s.length := by omega
      simp only [tb] at e
      simp [tb, okT_ref g2, e, g3]
      rw [hP2]
      refine ⟨⟨_, rfl⟩, by rw [lstAt_ne hn]; exact g1, by rw [lstAt_set g2, List.range_succ, List.map_append]; rfl, fun i' q' h => ?_, G1.put (Nat.le_refl _)⟩
      have := (rows i' q' h).2.1
      rw [lstAt_ne (by omega)]
      exact rw1 i' q' h
    · intro τ s1 hp
      rw [hP2] at hp
      obtain ⟨⟨b, rfl⟩, g1, g2, rw1, G1⟩ := hp
      have g3 := mAppend_ref (x := D.ref s.length) g1 (by simp; omega)
      simp [okT_ref g1, g3]
      rw [hP]
      have hsl1 : s.length < s1.length := lstAt_lt g2
      refine ⟨qs ++ [s.length], ⟨_, _, _, rfl⟩, by rw [lstAt_set g1]; simp, by simp [lq], fun i' q' h => ?_, (G.trans G1).put (Nat.le_refl _)⟩
      rw [List.getElem?_append] at h
      split at h
      · have := rows i' q' h
        exact ⟨this.1, by rw [List.length_set]; omega, by rw [lstAt_ne (by omega)]; exact rw1 i' q' h⟩
      · rename_i hl
        have e0 : i' = qs.length ∧ q' = s.length := by
          cases hz : i' - qs.length with
          | zero => rw [hz] at h; simp at h; omega
          | succ z => rw [hz] at h; simp at h
        obtain ⟨rfl, rfl⟩ := e0
        refine ⟨hsl, by rw [List.length_set]; exact hsl1, ?_⟩
        rw [lstAt_ne (by omega), lq]
        exact g2
  · intro τ s hp
    rw [hP] at hp
    obtain ⟨qs, ⟨a, b, c, rfl⟩, g, lq, rows, G⟩ := hp
    simp
    exact hQ s st.length qs G g lq fun i q h => (rows i q h).2.2

/-! steps -/
inductive Stp where
  | keep (k : Int) | ed (e : Ed)
  deriving DecidableEq
def Stp.d : Stp → D
  | .keep k => .tup [.str [107, 101, 101, 112], .int k]
  | .ed e => e.d
abbrev SQ := Stp × Int × Nat × Nat
def stD (s : SQ) : D := .tup [s.1.d, .int s.2.1, .int (s.2.2.1 : Nat), .int (s.2.2.2 : Nat)]
def stps1 (es : List Ed) (t o : List Int) (i j : Nat) : List SQ := if i < t.length ∧ Ed.cut (t.getD i 0) ∈ es then [(.ed (.cut (t.getD i 0)), 1, i + 1, j)] else []
def stps2 (es : List Ed) (t o : List Int) (i j : Nat) : List SQ := if i < t.length ∧ j < o.length ∧ t.getD i 0 = o.getD j 0 then [(.keep (t.getD i 0), 0, i + 1, j + 1)] else []
def stps3 (es : List Ed) (t o : List Int) (i j : Nat) : List SQ := if j < o.length ∧ Ed.put (o.getD j 0) ∈ es then [(.ed (.put (o.getD j 0)), 1, i, j + 1)] else []
def stps4 (es : List Ed) (t o : List Int) (i j : Nat) : List SQ := if i < t.length ∧ j < o.length ∧ Ed.turn (t.getD i 0) (o.getD j 0) ∈ es then [(.ed (.turn (t.getD i 0) (o.getD j 0)), 1, i + 1, j + 1)] else []
def stps (es : List Ed) (t o : List Int) (i j : Nat) : List SQ := stps1 es t o i j ++ (stps2 es t o i j ++ (stps3 es t o i j ++ stps4 es t o i j))
theorem stps_len {es : List Ed} {t o : List Int} {i j : Nat} : (stps1 es t o i j).length ≤ 1 ∧ (stps2 es t o i j).length ≤ 1 ∧ (stps3 es t o i j).length ≤ 1 ∧ (stps4 es t o i j).length ≤ 1 := by
  refine ⟨?_, ?_, ?_, ?_⟩
  · unfold stps1; split <;> simp
  · unfold stps2; split <;> simp
  · unfold stps3; split <;> simp
  · unfold stps4; split <;> simp
theorem atI_at {t : List Int} {i : Nat} (h : i < t.length) : atI (t.map D.int) (i : Int) = some (.int (t.getD i 0)) := by
  refine atI_nat ?_
  rw [List.getElem?_map, List.getElem?_eq_getElem h, List.getD_eq_getElem?_getD, List.getElem?_eq_getElem h]
  rfl
theorem w_steps_from {es : List Ed} {t o : List Int} {st : Store} {i j : Nat} {Q : D → Store → Prop} (hQ : ∀ s m, Gr st s → lstAt s m = some ((stps es t o i j).map stD) → Q (.ref m) s) : W (f_steps_from [eds es, tb t, tb o, .int (i : Nat), .int (j : Nat)] st) Q := by
  obtain ⟨l1, l2, l3, l4⟩ := stps_len (es := es) (t := t) (o := o) (i := i) (j := j)
  unfold f_steps_from
  rw [runB_e]
  unfold m_steps_from
  rw [W_fin, sSeq_e, WS_seq]
  obtain ⟨T, hT⟩ : ∃ T : Sl, T = [some (eds es), some (tb t), some (tb o), some (.int (i : Nat)), some (.int (j : Nat)), some (.ref st.length)] := ⟨_, rfl⟩
  obtain ⟨P, hP⟩ : ∃ P : List SQ → Sl → Store → Prop, P = fun l τ s => τ = T ∧ lstAt s st.length = some (l.map stD) ∧ Gr st s := ⟨_, rfl⟩
  have add : ∀ (l : List SQ) (x : SQ) (s : Store) (d : D), d = stD x → l.length ≤ 10 → lstAt s st.length = some (l.map stD) → Gr st s → ∃ s', mAppend (.ref st.length) [d] s = .ok .non s' ∧ P (l ++ [x]) T s' := fun l x s d hd hl g G => by
    subst hd
    have := mAppend_ref (x := stD x) g (by simp; omega)
    rw [hP]
    refine ⟨_, this, rfl, by rw [lstAt_set g]; simp, G.put (Nat.le_refl _)⟩
  refine WS.cut (N' := P []) (by rw [hP, hT]; simp [List.replicate, Gr.app]) fun τ s hp => ?_
  rw [sSeq_e, WS_seq]
  refine WS.cut (N' := P (stps1 es t o i j)) ?_ fun τ s hp => ?_
  · rw [hP] at hp
    obtain ⟨rfl, g, G⟩ := hp
    simp only [sSeq_e, sIf_e, sSet_e, sExpr_e, sRet_e, sRetN_e, sNil_e, sFor_e, sBrk_e, sCnt_e, sSub_e, sAsg_e, W_fin, WS_seq, WS_bindE, WS_nx, WS_rt, WS_bk, WS_ct]
    unfold stps1
    by_cases c1 : i < t.length
    · have e1 := atI_at c1
      by_cases c2 : Ed.cut (t.getD i 0) ∈ es
      · skip
        obtain ⟨s', a1, a2⟩ := add ([]) (.ed (.cut (t.getD i 0)), 1, i + 1, j) _ (.tup [.tup [.str [99, 117, 116], .int (t.getD i 0)], .int 1, .int ((i : Int) + 1), .int (j : Nat)]) rfl (by first | omega | (simp only [List.length_append, List.length_nil]; omega) | simp) g G
        rw [if_pos ⟨c1, c2⟩]
        simp only [List.nil_append, hT] at a2 ⊢
        simp [-List.getD_eq_getElem?_getD, tb, c1, c2, e1, in_cut, in_put, in_turn, okT_ref g, a1]
        simpa [tb] using a2
      · rw [if_neg (fun z => c2 z.2), hP]
        simp only [hT]
        simp [-List.getD_eq_getElem?_getD, tb, c1, c2, e1, in_cut, in_put, in_turn, g, G]
    · rw [if_neg (fun z => c1 z.1), hP]
      simp only [hT]
      simp [-List.getD_eq_getElem?_getD, tb, c1, in_cut, in_put, in_turn, g, G]
  rw [sSeq_e, WS_seq]
  refine WS.cut (N' := P (stps1 es t o i j ++ stps2 es t o i j)) ?_ fun τ s hp => ?_
  · rw [hP] at hp
    obtain ⟨rfl, g, G⟩ := hp
    simp only [sSeq_e, sIf_e, sSet_e, sExpr_e, sRet_e, sRetN_e, sNil_e, sFor_e, sBrk_e, sCnt_e, sSub_e, sAsg_e, W_fin, WS_seq, WS_bindE, WS_nx, WS_rt, WS_bk, WS_ct]
    unfold stps2
    by_cases c1 : i < t.length
    · have e1 := atI_at c1
      by_cases c2 : j < o.length
      · have e2 := atI_at c2
        by_cases c3 : t.getD i 0 = o.getD j 0
        · skip
          obtain ⟨s', a1, a2⟩ := add (stps1 es t o i j) (.keep (t.getD i 0), 0, i + 1, j + 1) _ (.tup [.tup [.str [107, 101, 101, 112], .int (t.getD i 0)], .int 0, .int ((i : Int) + 1), .int ((j : Int) + 1)]) rfl (by first | omega | (simp only [List.length_append, List.length_nil]; omega) | simp) g G
          rw [if_pos ⟨c1, c2, c3⟩]
          simp only [List.nil_append, hT] at a2 ⊢
          rw [c3] at a1 e1 a2 ⊢
          simp [-List.getD_eq_getElem?_getD, tb, c1, c2, e1, e2, in_cut, in_put, in_turn, okT_ref g, a1]
          simpa [tb] using a2
        · rw [if_neg (fun z => c3 z.2.2), hP]
          simp only [hT]
          simp [-List.getD_eq_getElem?_getD, tb, c1, c2, c3, e1, e2, in_cut, in_put, in_turn, g, G]
      · rw [if_neg (fun z => c2 z.2.1), hP]
        simp only [hT]
        simp [-List.getD_eq_getElem?_getD, tb, c1, c2, e1, in_cut, in_put, in_turn, g, G]
    · rw [if_neg (fun z => c1 z.1), hP]
      simp only [hT]
      simp [-List.getD_eq_getElem?_getD, tb, c1, in_cut, in_put, in_turn, g, G]
  rw [sSeq_e, WS_seq]
  refine WS.cut (N' := P (stps1 es t o i j ++ stps2 es t o i j ++ stps3 es t o i j)) ?_ fun τ s hp => ?_
  · rw [hP] at hp
    obtain ⟨rfl, g, G⟩ := hp
    simp only [sSeq_e, sIf_e, sSet_e, sExpr_e, sRet_e, sRetN_e, sNil_e, sFor_e, sBrk_e, sCnt_e, sSub_e, sAsg_e, W_fin, WS_seq, WS_bindE, WS_nx, WS_rt, WS_bk, WS_ct]
    unfold stps3
    by_cases c1 : j < o.length
    · have e2 := atI_at c1
      by_cases c2 : Ed.put (o.getD j 0) ∈ es
      · skip
        obtain ⟨s', a1, a2⟩ := add (stps1 es t o i j ++ stps2 es t o i j) (.ed (.put (o.getD j 0)), 1, i, j + 1) _ (.tup [.tup [.str [112, 117, 116], .int (o.getD j 0)], .int 1, .int (i : Nat), .int ((j : Int) + 1)]) rfl (by first | omega | (simp only [List.length_append, List.length_nil]; omega) | simp) g G
        rw [if_pos ⟨c1, c2⟩]
        simp only [List.nil_append, hT] at a2 ⊢
        simp [-List.getD_eq_getElem?_getD, tb, c1, c2, e2, in_cut, in_put, in_turn, okT_ref g, a1]
        simpa [tb] using a2
      · rw [if_neg (fun z => c2 z.2), hP]
        simp only [hT]
        simp [-List.getD_eq_getElem?_getD, tb, c1, c2, e2, in_cut, in_put, in_turn, g, G]
    · rw [if_neg (fun z => c1 z.1), hP]
      simp only [hT]
      simp [-List.getD_eq_getElem?_getD, tb, c1, in_cut, in_put, in_turn, g, G]
  rw [sSeq_e, WS_seq]
  refine WS.cut (N' := P (stps1 es t o i j ++ stps2 es t o i j ++ stps3 es t o i j ++ stps4 es t o i j)) ?_ fun τ s hp => ?_
  · rw [hP] at hp
    obtain ⟨rfl, g, G⟩ := hp
    simp only [sSeq_e, sIf_e, sSet_e, sExpr_e, sRet_e, sRetN_e, sNil_e, sFor_e, sBrk_e, sCnt_e, sSub_e, sAsg_e, W_fin, WS_seq, WS_bindE, WS_nx, WS_rt, WS_bk, WS_ct]
    unfold stps4
    by_cases c1 : i < t.length
    · have e1 := atI_at c1
      by_cases c2 : j < o.length
      · have e2 := atI_at c2
        by_cases c3 : Ed.turn (t.getD i 0) (o.getD j 0) ∈ es
        · skip
          obtain ⟨s', a1, a2⟩ := add (stps1 es t o i j ++ stps2 es t o i j ++ stps3 es t o i j) (.ed (.turn (t.getD i 0) (o.getD j 0)), 1, i + 1, j + 1) _ (.tup [.tup [.str [116, 117, 114, 110], .int (t.getD i 0), .int (o.getD j 0)], .int 1, .int ((i : Int) + 1), .int ((j : Int) + 1)]) rfl (by first | omega | (simp only [List.length_append, List.length_nil]; omega) | simp) g G
          rw [if_pos ⟨c1, c2, c3⟩]
          simp only [List.nil_append, hT] at a2 ⊢
          simp [-List.getD_eq_getElem?_getD, tb, c1, c2, c3, e1, e2, in_cut, in_put, in_turn, okT_ref g, a1]
          simpa [tb] using a2
        · rw [if_neg (fun z => c3 z.2.2), hP]
          simp only [hT]
          simp [-List.getD_eq_getElem?_getD, tb, c1, c2, c3, e1, e2, in_cut, in_put, in_turn, g, G]
      · rw [if_neg (fun z => c2 z.2.1), hP]
        simp only [hT]
        simp [-List.getD_eq_getElem?_getD, tb, c1, c2, e1, in_cut, in_put, in_turn, g, G]
    · rw [if_neg (fun z => c1 z.1), hP]
      simp only [hT]
      simp [-List.getD_eq_getElem?_getD, tb, c1, in_cut, in_put, in_turn, g, G]
  rw [hP] at hp
  obtain ⟨rfl, g, G⟩ := hp
  rw [hT]
  simp
  exact hQ s _ G (by rw [g, stps, List.append_assoc, List.append_assoc])

/-! the law's own counts -/
/-- a dict of edits -/
structure Kn (es : List Ed) (s : Store) (n : Nat) : Prop where
  ex : ∃ kvs, dctAt s n = some kvs ∧ (kvs.all fun q => q.1.tupQ) = true ∧ ∀ e : Ed, (dGet kvs e.d).isSome = decide (e ∈ es)
theorem Ed.tupQ {e : Ed} : e.d.tupQ = true := by cases e <;> simp [Ed.d, D.tupQ]
theorem Kn.gr {es : List Ed} {s s' : Store} {n : Nat} (h : Kn es s n) (G : Gr s s') : Kn es s' n := by
  obtain ⟨kvs, h1, h2, h3⟩ := h.ex
  exact ⟨kvs, G.dct h1, h2, h3⟩
theorem Kn.fr {es : List Ed} {s s' : Store} {n : Nat} (h : Kn es s n) (F : Fr s s') (hn : n ≠ 1) : Kn es s' n := by
  obtain ⟨kvs, h1, h2, h3⟩ := h.ex
  exact ⟨kvs, F.dct h1 hn, h2, h3⟩
theorem Kn.lt {es : List Ed} {s : Store} {n : Nat} (h : Kn es s n) : n < s.length := by
  obtain ⟨kvs, h1, h2, h3⟩ := h.ex
  exact dctAt_lt h1
theorem Kn.ne {es : List Ed} {s : Store} {n m : Nat} {c : Cell} (h : Kn es s n) (hn : n ≠ m) : Kn es (s.set m c) n := by
  obtain ⟨kvs, h1, h2, h3⟩ := h.ex
  exact ⟨kvs, by rw [dctAt_ne hn]; exact h1, h2, h3⟩
section
variable {es : List Ed} {s : Store} {n : Nat}
theorem kn_ed (h : Kn es s n) {e : Ed} : dIn e.d (.ref n) s = some (decide (e ∈ es)) := by
  obtain ⟨kvs, h1, h2, h3⟩ := h.ex
  rw [dIn_dct h1 (keyFit_tup h2 Ed.tupQ), h3]
theorem kn_cut (h : Kn es s n) {k : Int} : dIn (.tup [.str [99, 117, 116], .int k]) (.ref n) s = some (decide (Ed.cut k ∈ es)) := kn_ed h (e := .cut k)
theorem kn_put (h : Kn es s n) {k : Int} : dIn (.tup [.str [112, 117, 116], .int k]) (.ref n) s = some (decide (Ed.put k ∈ es)) := kn_ed h (e := .put k)
theorem kn_turn (h : Kn es s n) {k o : Int} : dIn (.tup [.str [116, 117, 114, 110], .int k, .int o]) (.ref n) s = some (decide (Ed.turn k o ∈ es)) := kn_ed h (e := .turn k o)
end
def als (A : List Stp) : D := .tup (A.map Stp.d)
def isEd : Stp → Bool
  | .keep _ => false
  | .ed _ => true
def edn (A : List Stp) : Nat := (A.filter isEd).length
def sd2 : Stp → List Int
  | .keep k => [k]
  | .ed (.cut _) => []
  | .ed (.put k) => [k]
  | .ed (.turn _ o) => [o]
def sd1 : Stp → List Int
  | .keep k => [k]
  | .ed (.cut k) => [k]
  | .ed (.put _) => []
  | .ed (.turn k _) => [k]
theorem r_isn {a : OI} {st : Store} : oIsNot (mkD a) .non st = .ok (.bl a.isSome) st := by cases a <;> simp [mkD]
theorem r_is {a : OI} {st : Store} : oIs (mkD a) .non st = .ok (.bl (!a.isSome)) st := by cases a <;> simp [mkD]
section
variable {ns : List Int} {st : Store}
theorem w_table {k most : Nat} {Q : D → Store → Prop} (H : DS ns st) (hk : 0 < k) (hk' : k ≤ 5) (hm : most ≤ 60) (hQ : ∀ (t : List Int) s, t.length ≤ most → (∀ x ∈ t, 0 ≤ x ∧ x < k) → DS ns s → Fr st s → Q (tb t) s) : W (f__law_table [.ref 1, .int (k : Nat), .int (most : Nat)] st) Q := by
  unfold f__law_table
  rw [runB_e]
  unfold m__law_table
  rw [W_fin, sSeq_e, WS_seq]
  refine WS.cut (N' := fun τ s => ∃ v : Nat, v < most + 1 ∧ τ = [some (.ref 1), some (.int (k : Nat)), some (.int (most : Nat)), some (.int (v : Nat)), none] ∧ DS ns s ∧ Fr st s) ?_ fun τ s1 hp => ?_
  · simp only [sSeq_e, sIf_e, sSet_e, sExpr_e, sRet_e, sRetN_e, sNil_e, sFor_e, sBrk_e, sCnt_e, sSub_e, sAsg_e, W_fin, WS_seq, WS_bindE, WS_nx, WS_rt, WS_bk, WS_ct]
    simp [List.replicate]
    refine w_draw (many := most + 1) H (by omega) (by omega) fun v s1 hv D1 F1 => ?_
    exact ⟨v, hv, rfl, D1, F1⟩
  obtain ⟨v, hv, rfl, D1, F1⟩ := hp
  have hr : ∀ s, rg1 (.int (v : Nat)) s = .ok (.fix (rng 0 v)) s := fun s => rg1_int (by omega)
  simp only [sSeq_e, sIf_e, sSet_e, sExpr_e, sRet_e, sRetN_e, sNil_e, sFor_e, sBrk_e, sCnt_e, sSub_e, sAsg_e, W_fin, WS_seq, WS_bindE, WS_nx, WS_rt, WS_bk, WS_ct]
  simp [lComp_e, hr]
  refine w_lc (by simp [rng_len]; omega) ?_
  obtain ⟨P, hP⟩ : ∃ P : Nat → List D → Store → Prop, P = fun i acc s => ∃ t : List Int, acc = t.map D.int ∧ t.length = i ∧ (∀ x ∈ t, 0 ≤ x ∧ x < k) ∧ DS ns s ∧ Fr st s := ⟨_, rfl⟩
  refine w_rng P (fun _ _ _ _ => rfl) (by rw [hP]; exact ⟨[], rfl, rfl, (fun _ h => nomatch h), D1, F1⟩) ?_ ?_
  · intro i acc s hi hp
    rw [hP] at hp
    obtain ⟨t, rfl, lt, ht, D, F⟩ := hp
    refine ⟨_, rfl, ?_⟩
    simp [wipeD]
    refine w_draw (many := k) D hk (by omega) fun x s2 hx D2 F2 => ?_
    rw [hP]
    refine ⟨t ++ [(x : Int)], by simp, by simp [lt], fun y hy => ?_, D2, F.trans F2⟩
    rcases List.mem_append.mp hy with h | h
    · exact ht y h
    · have : y = (x : Int) := by simpa using h
      omega
  · intro acc s hp
    rw [hP] at hp
    obtain ⟨t, rfl, lt, ht, D, F⟩ := hp
    exact hQ t s (by omega) ht D F
theorem w_side {A : List Stp} {Q : D → Store → Prop} (hl : A.length < 1000) (hQ : ∀ s, Gr st s → Q (tb (A.flatMap sd2)) s) : W (f__law_side [als A, .bl true] st) Q := by
  unfold f__law_side
  rw [runB_e]
  unfold m__law_side
  have dA : ∀ s, dSq s (als A) = some (.fix (A.map Stp.d)) := fun s => rfl
  simp [List.replicate, sFor_e, dA]
  obtain ⟨P, hP⟩ : ∃ P : Nat → Sl → Store → Prop, P = fun k τ s => (∃ a, τ = [some (als A), some (.bl true), some (.ref st.length), a]) ∧ lstAt s st.length = some (((A.take k).flatMap sd2).map D.int) ∧ Gr st s := ⟨_, rfl⟩
  refine ws_map Stp.d A rfl P (fun _ _ _ _ => rfl) (by rw [hP]; exact ⟨⟨none, rfl⟩, lstAt_new, .app⟩) ?_ ?_
  · intro i a τ s hi hp
    rw [hP] at hp
    obtain ⟨⟨b, rfl⟩, g, G⟩ := hp
    refine ⟨_, rfl, ?_⟩
    have tk : (A.take (i + 1)).flatMap sd2 = (A.take i).flatMap sd2 ++ sd2 a := by rw [List.take_succ, hi]; simp
    have il : i < A.length := (List.getElem?_eq_some_iff.mp hi).1
    have lX : ((A.take i).flatMap sd2).length ≤ i := by
      have : ∀ B : List Stp, (B.flatMap sd2).length ≤ B.length := fun B => by
        induction B with
        | nil => simp
        | cons x B ih =>
          have : (sd2 x).length ≤ 1 := by cases x with | keep k => simp [sd2] | ed e => cases e <;> simp [sd2]
          simp only [List.flatMap_cons, List.length_append, List.length_cons]
          omega
      have := this (A.take i)
      rw [List.length_take] at this
      omega
    obtain ⟨X, eX⟩ : ∃ X, X = (A.take i).flatMap sd2 := ⟨_, rfl⟩
    rw [← eX] at g lX tk
    have app : ∀ x : Int, mAppend (.ref st.length) [.int x] s = .ok .non (s.set st.length (.lst (X.map D.int ++ [.int x]))) := fun x => mAppend_ref g (by simp; omega)
    have done : ∀ x : Int, sd2 a = [x] → P (i + 1) [some (als A), some (.bl true), some (.ref st.length), some a.d] (s.set st.length (.lst (X.map D.int ++ [.int x]))) := fun x e => by
      rw [hP]
      exact ⟨⟨_, rfl⟩, by rw [lstAt_set g, tk, e]; simp, G.put (Nat.le_refl _)⟩
    have none : sd2 a = [] → P (i + 1) [some (als A), some (.bl true), some (.ref st.length), some a.d] s := fun e => by
      rw [hP]
      exact ⟨⟨_, rfl⟩, by rw [g, tk, e]; simp, G⟩
    cases a with
    | keep k =>
      simp [Stp.d, okT_ref g, app]
      exact done k rfl
    | ed e =>
      cases e with
      | cut k =>
        simp [Stp.d, Ed.d, okT_ref g, app]
        exact none rfl
      | put k =>
        simp [Stp.d, Ed.d, okT_ref g, app]
        exact done k rfl
      | turn k o =>
        simp [Stp.d, Ed.d, okT_ref g, app]
        exact done o rfl
  · intro τ s hp
    rw [hP] at hp
    obtain ⟨⟨b, rfl⟩, g, G⟩ := hp
    rw [List.take_length] at g
    simp [fTuple_ref g]
    exact hQ s G
end
section
variable {ns : List Int} {st : Store}
def isPut : Ed → Bool
  | .put _ => true
  | _ => false
def isWay (k : Int) : Ed → Bool
  | .put _ => false
  | .cut a => decide (a = k)
  | .turn a _ => decide (a = k)
theorem sd1_put {e : Ed} (h : isPut e = true) : sd1 (.ed e) = [] := by cases e <;> simp [isPut] at h; rfl
theorem sd1_way {e : Ed} {k : Int} (h : isWay k e = true) : sd1 (.ed e) = [k] := by cases e <;> simp [isWay] at h <;> simp [sd1, h]
def fcell (A : List Stp) : Cell := .lst (A.map Stp.d)
theorem w_bent {es : List Ed} {t : List Int} {g : Nat} {Q : D → Store → Prop} (H : DS ns st) (le : es.length ≤ 35) (lt : t.length ≤ 60) (tp : ∀ x ∈ t, 0 ≤ x) (hg : g ≤ 60)
    (hQ : ∀ (A : List Stp) s, A.flatMap sd1 = t → (∀ e, Stp.ed e ∈ A → e ∈ es) → A.length ≤ t.length + g → DS ns s → Fr st s → Q (als A) s) : W (f__law_bent [.ref 1, eds es, tb t, .int (g : Nat)] st) Q := by
  unfold f__law_bent
  rw [runB_e]
  unfold m__law_bent
  have two := H.len
  have l1 : lstAt (st ++ [.lst []] ++ [.lst (t.map D.int)] ++ [.lst [.int (-1)]]) (st.length + 1) = some (t.map D.int) := by simp [lstAt]
  have l2 : lstAt (st ++ [.lst []] ++ [.lst (t.map D.int)] ++ [.lst [.int (-1)]]) (st.length + 2) = some [.int (-1)] := by simp [lstAt]
  have a1 := oAdd_ref l1 l2 (by simp; omega)
  obtain ⟨s0, hs0⟩ : ∃ s0, s0 = st ++ [.lst []] ++ [.lst (t.map D.int)] ++ [.lst [.int (-1)]] := ⟨_, rfl⟩
  have G0 : Gr st s0 := ⟨_, by rw [hs0, List.append_assoc, List.append_assoc]⟩
  have n0 : s0.length = st.length + 3 := by rw [hs0]; simp
  have f0 : lstAt s0 st.length = some ([] : List D) := by rw [hs0]; simp [lstAt]
  rw [← hs0] at a1
  have ef : ∀ s, fList [tb t] s = .ok (.ref s.length) (s ++ [.lst (t.map D.int)]) := fun s => fList_tup
  rw [W_fin, sSeq_e, WS_seq]
  simp only [sSeq_e, sIf_e, sSet_e, sExpr_e, sRet_e, sRetN_e, sNil_e, sFor_e, sBrk_e, sCnt_e, sSub_e, sAsg_e, W_fin, WS_seq, WS_bindE, WS_nx, WS_rt, WS_bk, WS_ct]
  simp [List.replicate, ef, sFor_e]
  simp only [List.append_assoc, List.singleton_append, List.cons_append, List.nil_append] at hs0
  rw [← hs0, a1]
  obtain ⟨s1, hs1⟩ : ∃ s1, s1 = s0 ++ [.lst (t.map D.int ++ [.int (-1)])] := ⟨_, rfl⟩
  rw [← hs1]
  have G1 : Gr s0 s1 := by rw [hs1]; exact .app
  have q1 : lstAt s1 s0.length = some ((t ++ [-1]).map D.int) := by rw [hs1, lstAt_new]; simp
  have f1 := G1.lst f0
  have dq := dSq_ref q1
  obtain ⟨P, hP⟩ : ∃ P : Nat → List Stp → Nat → Store → Prop, P = fun k A l s => lstAt s st.length = some (A.map Stp.d) ∧ A.flatMap sd1 = t.take k ∧ (∀ e, Stp.ed e ∈ A → e ∈ es) ∧ A.length + l ≤ (t.take k).length + g ∧ lstAt s s0.length = some ((t ++ [-1]).map D.int) ∧ DS ns s ∧ Fr st s := ⟨_, rfl⟩
  have hd : ∀ {k A l s}, P k A l s → DS ns s := fun h => by
    rw [hP] at h
    exact h.2.2.2.2.2.1
  have next : ∀ {k A l s s'}, P k A l s → DS ns s' → Fr s s' → P k A l s' := fun h D F => by
    rw [hP] at h ⊢
    exact ⟨F.lst h.1 (by omega), h.2.1, h.2.2.1, h.2.2.2.1, F.lst h.2.2.2.2.1 (by omega), D, h.2.2.2.2.2.2.trans F⟩
  have gf : ∀ {k A l s}, P k A l s → lstAt s st.length = some (A.map Stp.d) ∧ A.length ≤ 120 := fun h => by
    rw [hP] at h
    have := h.2.2.2.1
    rw [List.length_take] at this
    exact ⟨h.1, by omega⟩
  have fl : ∀ {k A l s}, P k A l s → A.flatMap sd1 = t.take k ∧ A.length + l ≤ (t.take k).length + g := fun h => by
    rw [hP] at h
    exact ⟨h.2.1, h.2.2.2.1⟩
  have app : ∀ {k A l s}, P k A l s → ∀ x : Stp, mAppend (.ref st.length) [x.d] s = .ok .non (s.set st.length (fcell (A ++ [x]))) := fun h x => by
    have := mAppend_ref (x := x.d) (gf h).1 (by rw [List.length_map]; have := (gf h).2; omega)
    rw [this, ← List.map_singleton (f := Stp.d), ← List.map_append]
    rfl
  have upd : ∀ {k A l s}, P k A l s → ∀ (x : Stp) (k' l' : Nat), A.flatMap sd1 ++ sd1 x = t.take k' → (∀ e, x = .ed e → e ∈ es) → A.length + 1 + l' ≤ (t.take k').length + g → P k' (A ++ [x]) l' (s.set st.length (fcell (A ++ [x]))) := fun h x k' l' h1 h2 h3 => by
    have hgf := gf h
    have h0 := h
    rw [hP] at h ⊢
    refine ⟨lstAt_set hgf.1, by simpa using h1, fun e he => ?_, by simpa using h3, by rw [lstAt_ne (by omega)]; exact h.2.2.2.2.1, (hd h0).put2 (by omega) (by omega), h.2.2.2.2.2.2.put2 (Nat.le_refl _)⟩
    rcases List.mem_append.mp he with h' | h'
    · exact h.2.2.1 e h'
    · have hx : Stp.ed e = x := by simpa using h'
      exact h2 e hx.symm
  have sq : ∀ {k A l s}, P k A l s → lstAt s s0.length = some ((t ++ [-1]).map D.int) := fun h => by
    rw [hP] at h
    exact h.2.2.2.2.1
  have dE : ∀ s, dSq s (eds es) = some (.fix (es.map Ed.d)) := fun s => rfl
  rw [W_ok]
  simp only [dq, ofQ_some, W_ok]
  obtain ⟨I, hI⟩ : ∃ I : Nat → Sl → Store → Prop, I = fun k τ s => ∃ (A : List Stp) (l : Nat) (b6 b7 b8 : Option D), τ = [some (.ref 1), some (eds es), some (tb t), some (.int (g : Nat)), some (.ref st.length), some (.int (l : Nat)), b6, b7, b8, none] ∧ P k A l s := ⟨_, rfl⟩
  refine ws_map D.int (t ++ [-1]) rfl I (fun k τ s h => ?_) ?_ ?_ ?_
  · rw [hI] at h
    obtain ⟨A, l, _, _, _, _, h⟩ := h
    simp [Sq.chk, sq h]
  · rw [hI]
    refine ⟨[], g, none, none, none, rfl, ?_⟩
    rw [hP]
    exact ⟨f1, by simp, (fun _ h => nomatch h), by simp, q1, (G0.trans G1).ds H, (G0.trans G1).fr⟩
  · intro i x τ s hi hp
    rw [hI] at hp
    obtain ⟨A, l, b6, b7, b8, rfl, hp⟩ := hp
    refine ⟨_, rfl, ?_⟩
    rw [sSeq_e, WS_seq]
    refine WS.cut (N' := fun τ s => ∃ (m : Nat), τ = [some (.ref 1), some (eds es), some (tb t), some (.int (g : Nat)), some (.ref st.length), some (.int (l : Nat)), some (.int x), some (.ref m), b8, none] ∧ m ≠ 1 ∧ lstAt s m = some ((es.filter isPut).map Ed.d) ∧ P i A l s) ?_ fun τ s2 hp2 => ?_
    · simp only [sSeq_e, sIf_e, sSet_e, sExpr_e, sRet_e, sRetN_e, sNil_e, sFor_e, sBrk_e, sCnt_e, sSub_e, sAsg_e, W_fin, WS_seq, WS_bindE, WS_nx, WS_rt, WS_bk, WS_ct]
      simp [lComp_e, dE]
      refine w_lc (by show (es.map Ed.d).length ≤ _; rw [List.length_map]; omega) ?_
      refine w_fil Ed.d Ed.d isPut es rfl rfl (fun e _ => ⟨_, rfl, by cases e <;> simp [Ed.d, wipeD, isPut]⟩) ?_
      have := (hd hp).len
      exact ⟨by omega, by simp, next hp (hd hp).app .app⟩
    obtain ⟨m, rfl, m1, gm, hp2⟩ := hp2
    have lf := List.length_filter_le isPut es
    rw [sSeq_e, WS_seq]
    refine WS.cut (N' := fun τ s => ∃ (A : List Stp) (l : Nat), τ = [some (.ref 1), some (eds es), some (tb t), some (.int (g : Nat)), some (.ref st.length), some (.int (l : Nat)), some (.int x), some (.ref m), b8, none] ∧ P i A l s) ?_ fun τ s3 hp3 => ?_
    · simp only [sSeq_e, sIf_e, sSet_e, sExpr_e, sRet_e, sRetN_e, sNil_e, sFor_e, sBrk_e, sCnt_e, sSub_e, sAsg_e, W_fin, WS_seq, WS_bindE, WS_nx, WS_rt, WS_bk, WS_ct]
      by_cases c1 : 0 < l
      · by_cases c2 : 0 < (es.filter isPut).length
        · have c1' : (0 : Int) < (l : Int) := by omega
          have c2' : (0 : Int) < (((es.filter isPut).length : Nat) : Int) := by omega
          have el : fLen [.ref m] s2 = .ok (.int ((es.filter isPut).length : Nat)) s2 := by rw [fLen_ref gm]; simp
          simp [c1, c2, el, -List.length_filter_pos_iff]
          refine w_draw (many := 3) (hd hp2) (by decide) (by decide) fun v s3 hv D3 F3 => ?_
          have hp3 := next hp2 D3 F3
          by_cases hv1 : v = 1
          · subst hv1
            simp [okT_ref (gf hp3).1]
            refine w_pick D3 (F3.lst gm m1) m1 (by simpa using c2) (by rw [List.length_map]; omega) fun d s4 hd4 D4 F4 => ?_
            obtain ⟨e, he, rfl⟩ := List.mem_map.mp hd4
            have he' := List.mem_filter.mp he
            have hp4 := next hp3 D4 F4
            have := app hp4 (.ed e)
            rw [show (Stp.ed e).d = e.d from rfl] at this
            simp [this]
            refine ⟨A ++ [.ed e], l - 1, (by simp; omega), upd hp4 (.ed e) i (l - 1) ?_ (fun e' h => by cases h; exact he'.1) ?_⟩
            · rw [sd1_put he'.2, (fl hp4).1]
              simp
            · have := (fl hp4).2
              omega
          · have : ¬ ((v : Int) = 1) := by omega
            simp [this]
            exact ⟨A, l, by simp, hp3⟩
        · have c2' : (es.filter isPut).length = 0 := by omega
          have el : fLen [.ref m] s2 = .ok (.int 0) s2 := by rw [fLen_ref gm]; simp [c2']
          simp [c1, el]
          exact ⟨A, l, by simp, hp2⟩
      · have : l = 0 := by omega
        subst this
        simp
        exact ⟨A, 0, by simp, hp2⟩
    obtain ⟨A, l, rfl, hp3⟩ := hp3
    by_cases hx : 0 ≤ x
    · have hit : i < t.length ∧ t[i]? = some x := by
        by_cases c : i < t.length
        · exact ⟨c, by rw [List.getElem?_append_left c] at hi; exact hi⟩
        · rw [List.getElem?_append_right (by omega)] at hi
          have := List.mem_of_getElem? hi
          have : x = -1 := by simpa using this
          omega
      have tk : t.take (i + 1) = t.take i ++ [x] := by rw [List.take_succ, hit.2]; rfl
      have tl : (t.take (i + 1)).length = (t.take i).length + 1 := by rw [tk]; simp
      simp only [sSeq_e, sIf_e, sSet_e, sExpr_e, sRet_e, sRetN_e, sNil_e, sFor_e, sBrk_e, sCnt_e, sSub_e, sAsg_e, W_fin, WS_seq, WS_bindE, WS_nx, WS_rt, WS_bk, WS_ct]
      simp [hx, lComp_e, dE]
      refine w_lc (by show (es.map Ed.d).length ≤ _; rw [List.length_map]; omega) ?_
      refine w_fil Ed.d Ed.d (isWay x) es rfl rfl (fun e _ => ⟨_, rfl, by cases e <;> simp [Ed.d, wipeD, isWay]⟩) ?_
      obtain ⟨s4, hs4⟩ : ∃ s4, s4 = s3 ++ [Cell.lst ((es.filter (isWay x)).map Ed.d)] := ⟨_, rfl⟩
      have m2 := (hd hp3).len
      have hp4 : P i A l s4 := by rw [hs4]; exact next hp3 (hd hp3).app .app
      have g4 : lstAt s4 s3.length = some ((es.filter (isWay x)).map Ed.d) := by rw [hs4]; exact lstAt_new
      have lf := List.length_filter_le (isWay x) es
      rw [← hs4]
      have kp : ∀ {s' : Store}, P i A l s' → I (i + 1) [some (.ref 1), some (eds es), some (tb t), some (.int (g : Nat)), some (.ref st.length), some (.int (l : Nat)), some (.int x), some (.ref m), some (.ref s3.length), none] (s'.set st.length (fcell (A ++ [Stp.keep x]))) := fun h => by
        rw [hI]
        refine ⟨_, _, _, _, _, rfl, upd h (.keep x) (i + 1) l ?_ (fun e' h => nomatch h) ?_⟩
        · rw [(fl h).1, tk]
          rfl
        · have := (fl h).2
          omega
      have apk : ∀ {s' : Store}, P i A l s' → mAppend (.ref st.length) [.tup [.str [107, 101, 101, 112], .int x]] s' = .ok .non (s'.set st.length (fcell (A ++ [Stp.keep x]))) := fun h => app h (.keep x)
      by_cases c1 : 0 < l
      · by_cases c2 : 0 < (es.filter (isWay x)).length
        · have c1' : (0 : Int) < (l : Int) := by omega
          have c2' : (0 : Int) < (((es.filter (isWay x)).length : Nat) : Int) := by omega
          have el : fLen [.ref s3.length] s4 = .ok (.int ((es.filter (isWay x)).length : Nat)) s4 := by rw [fLen_ref g4]; simp
          simp [c1, c2, el, -List.length_filter_pos_iff]
          refine w_draw (many := 2) (hd hp4) (by decide) (by decide) fun v s5 hv D5 F5 => ?_
          have hp5 := next hp4 D5 F5
          by_cases hv1 : v = 1
          · subst hv1
            simp [okT_ref (gf hp5).1]
            refine w_pick D5 (F5.lst g4 (by omega)) (by omega) (by simpa using c2) (by rw [List.length_map]; omega) fun d s6 hd6 D6 F6 => ?_
            obtain ⟨e, he, rfl⟩ := List.mem_map.mp hd6
            have he' := List.mem_filter.mp he
            have hp6 := next hp5 D6 F6
            have := app hp6 (.ed e)
            rw [show (Stp.ed e).d = e.d from rfl] at this
            simp [this]
            rw [hI]
            refine ⟨A ++ [.ed e], l - 1, some (.int x), some (.ref m), some (.ref s3.length), (by simp; omega), upd hp6 (.ed e) (i + 1) (l - 1) ?_ (fun e' h => by cases h; exact he'.1) ?_⟩
            · rw [sd1_way he'.2, (fl hp6).1, tk]
            · have := (fl hp6).2
              omega
          · have : ¬ ((v : Int) = 1) := by omega
            simp [this, okT_ref (gf hp5).1, apk hp5]
            simpa using kp hp5
        · have c2' : (es.filter (isWay x)).length = 0 := by omega
          have el : fLen [.ref s3.length] s4 = .ok (.int 0) s4 := by rw [fLen_ref g4]; simp [c2']
          simp [c1, el, okT_ref (gf hp4).1, apk hp4]
          simpa using kp hp4
      · have : l = 0 := by omega
        subst this
        simp [okT_ref (gf hp4).1, apk hp4]
        simpa using kp hp4
    · simp only [sSeq_e, sIf_e, sSet_e, sExpr_e, sRet_e, sRetN_e, sNil_e, sFor_e, sBrk_e, sCnt_e, sSub_e, sAsg_e, W_fin, WS_seq, WS_bindE, WS_nx, WS_rt, WS_bk, WS_ct]
      simp [hx]
      rw [hI]
      refine ⟨A, l, _, _, _, rfl, ?_⟩
      have hit : t.length ≤ i := by
        by_cases c : i < t.length
        · rw [List.getElem?_append_left c] at hi
          exact absurd (tp x (List.mem_of_getElem? hi)) hx
        · omega
      have : t.take (i + 1) = t.take i := by rw [List.take_of_length_le hit, List.take_of_length_le (by omega)]
      rw [hP] at hp3 ⊢
      simpa only [this] using hp3
  · intro τ s hp
    rw [hI] at hp
    obtain ⟨A, l, b6, b7, b8, rfl, hp⟩ := hp
    have hp0 := hp
    rw [hP] at hp
    have tk : t.take (t ++ [-1]).length = t := List.take_of_length_le (by simp)
    rw [tk] at hp
    simp [fTuple_ref hp.1]
    exact hQ A s hp.2.1 hp.2.2.1 (by have := hp.2.2.2.1; omega) hp.2.2.2.2.2.1 hp.2.2.2.2.2.2
end
theorem mPopAt_ref {n : Nat} {st : Store} {xs : List D} {k : Nat} {x : D} (hh : lstAt st n = some xs) (hx : xs[k]? = some x) (hk : k < 9223372036854775808) : mPopAt (.ref n) [.int k] st = .ok x (st.set n (.lst (xs.eraseIdx k))) := by
  have h2 : okIx (k : Int) = true := decide_eq_true (by omega)
  have h3 : seqIndex? (k : Int) xs.length = some k := by
    have : k < xs.length := (List.getElem?_eq_some_iff.mp hx).1
    simp [seqIndex?]
    omega
  simp [mPopAt, hh, h2, h3, hx]
section
variable {ns : List Int} {st : Store}
theorem w_shuffled {t : List Int} {Q : D → Store → Prop} (H : DS ns st) (lt : t.length ≤ 60) (hQ : ∀ (t' : List Int) m s, lstAt s m = some (t'.map D.int) → t'.length = t.length → (∀ x ∈ t', x ∈ t) → DS ns s → Fr st s → Q (.ref m) s) : W (f__law_shuffled [.ref 1, tb t] st) Q := by
  unfold f__law_shuffled
  rw [runB_e]
  unfold m__law_shuffled
  have two := H.len
  have ef : ∀ s, fList [tb t] s = .ok (.ref s.length) (s ++ [.lst (t.map D.int)]) := fun s => fList_tup
  have g0 : lstAt (st ++ [.lst (t.map D.int)] ++ [.lst []]) st.length = some (t.map D.int) := (Gr.app (a := st ++ [.lst (t.map D.int)])).lst lstAt_new
  have g1 : lstAt (st ++ [.lst (t.map D.int)] ++ [.lst []]) (st.length + 1) = some ([] : List D) := by simp [lstAt]
  obtain ⟨s0, hs0⟩ : ∃ s0, s0 = st ++ [.lst (t.map D.int)] ++ [.lst []] := ⟨_, rfl⟩
  rw [← hs0] at g0 g1
  have G0 : Gr st s0 := ⟨_, by rw [hs0, List.append_assoc]⟩
  have l0 : fLen [.ref st.length] s0 = .ok (.int (t.length : Nat)) s0 := by rw [fLen_ref g0]; simp
  have hr : rg1 (.int (t.length : Nat)) s0 = .ok (.fix (rng 0 t.length)) s0 := rg1_int (by omega)
  rw [W_fin, sSeq_e, WS_seq]
  refine WS.cut (N' := fun τ s => τ = [some (.ref 1), some (tb t), some (.ref st.length), none, none] ∧ s = st ++ [.lst (t.map D.int)]) (by simp only [sSeq_e, sIf_e, sSet_e, sExpr_e, sRet_e, sRetN_e, sNil_e, sFor_e, sBrk_e, sCnt_e, sSub_e, sAsg_e, W_fin, WS_seq, WS_bindE, WS_nx, WS_rt, WS_bk, WS_ct]; simp [List.replicate, ef]) fun τ s hp => ?_
  obtain ⟨rfl, rfl⟩ := hp
  rw [sSeq_e, WS_seq]
  refine WS.cut (N' := fun τ s => τ = [some (.ref 1), some (tb t), some (.ref st.length), some (.ref (st.length + 1)), none] ∧ s = s0) (by simp only [sSeq_e, sIf_e, sSet_e, sExpr_e, sRet_e, sRetN_e, sNil_e, sFor_e, sBrk_e, sCnt_e, sSub_e, sAsg_e, W_fin, WS_seq, WS_bindE, WS_nx, WS_rt, WS_bk, WS_ct]; simp [hs0]) fun τ s hp => ?_
  obtain ⟨rfl, rfl⟩ := hp
  rw [sSeq_e, WS_seq, sFor_e]
  simp [l0, hr]
  obtain ⟨I, hI⟩ : ∃ I : Nat → Sl → Store → Prop, I = fun i τ s => ∃ (a : Option D) (L F : List Int), τ = [some (.ref 1), some (tb t), some (.ref st.length), some (.ref (st.length + 1)), a] ∧ lstAt s st.length = some (L.map D.int) ∧ lstAt s (st.length + 1) = some (F.map D.int) ∧ L.length + i = t.length ∧ F.length = i ∧ (∀ x ∈ L, x ∈ t) ∧ (∀ x ∈ F, x ∈ t) ∧ DS ns s ∧ Fr st s := ⟨_, rfl⟩
  refine ws_rng I (fun _ _ _ _ => rfl) (by rw [hI]; exact ⟨none, t, [], rfl, g0, g1, by omega, rfl, fun x h => h, (fun _ h => nomatch h), G0.ds H, G0.fr⟩) ?_ ?_
  · intro i τ s hi hp
    rw [hI] at hp
    obtain ⟨a, L, F, rfl, h1, h2, h3, h4, h5, h6, D0, F0⟩ := hp
    refine ⟨_, rfl, ?_⟩
    have ll : fLen [.ref st.length] s = .ok (.int (L.length : Nat)) s := by rw [fLen_ref h1]; simp
    simp only [sSeq_e, sIf_e, sSet_e, sExpr_e, sRet_e, sRetN_e, sNil_e, sFor_e, sBrk_e, sCnt_e, sSub_e, sAsg_e, W_fin, WS_seq, WS_bindE, WS_nx, WS_rt, WS_bk, WS_ct]
    simp [okT_ref h1, okT_ref h2, ll]
    refine w_draw (many := L.length) D0 (by omega) (by omega) fun v s2 hv D2 F2 => ?_
    have k1 := F2.lst h1 (by omega)
    have k2 := F2.lst h2 (by omega)
    have hx : (L.map D.int)[v]? = some (.int (L[v])) := by simp [hv]
    have pp := mPopAt_ref k1 hx (by omega)
    have n1 : st.length + 1 ≠ st.length := by omega
    have k3 : lstAt (s2.set st.length (.lst ((L.map D.int).eraseIdx v))) (st.length + 1) = some (F.map D.int) := by rw [lstAt_ne n1]; exact k2
    have ap := mAppend_ref (x := D.int L[v]) k3 (by simp; omega)
    simp [pp, ap]
    rw [hI]
    refine ⟨_, L.eraseIdx v, F ++ [L[v]], rfl, ?_, ?_, ?_, by simp [h4], fun x hx => h5 x (List.mem_of_mem_eraseIdx hx), fun x hx => ?_, ?_, ?_⟩
    · rw [lstAt_ne (by omega), lstAt_set k1]
      simp [List.eraseIdx_eq_take_drop_succ]
    · rw [lstAt_set k3]
      simp
    · rw [List.length_eraseIdx_of_lt hv]
      omega
    · rcases List.mem_append.mp hx with h | h
      · exact h6 x h
      · rw [List.mem_singleton.mp h]
        exact h5 _ (List.getElem_mem hv)
    · exact (D2.put2 (by omega) (by omega)).put2 (by omega) (by omega)
    · exact ((F0.trans F2).put2 (Nat.le_refl _)).put2 (by omega)
  · intro τ s hp
    rw [hI] at hp
    obtain ⟨a, L, F, rfl, h1, h2, h3, h4, h5, h6, D0, F0⟩ := hp
    simp
    exact hQ F _ s h2 h4 h6 D0 F0
end

section
variable {ns : List Int} {st : Store}
theorem w_runs {k most : Nat} {Q : D → Store → Prop} (H : DS ns st) (hk : 0 < k) (hk' : k ≤ 5) (hQ : ∀ (t : List Int) s, t.length ≤ most → (∀ x ∈ t, 0 ≤ x ∧ x < k) → DS ns s → Fr st s → Q (tb t) s) : W (f__law_runs [.ref 1, .int (k : Nat), .int (most : Nat)] st) Q := by
  unfold f__law_runs
  rw [runB_e]
  unfold m__law_runs
  have two := H.len
  obtain ⟨J, hJ⟩ : ∃ J : Nat → Sl → Store → Prop, J = fun i τ s => ∃ (m : Nat) (a b : Option D) (X : List Int), τ = [some (.ref 1), some (.int (k : Nat)), some (.int (most : Nat)), some (.ref m), a, b, none] ∧ lstAt s m = some (X.map D.int) ∧ m ≠ 1 ∧ X.length ≤ 20 * i ∧ (∀ x ∈ X, 0 ≤ x ∧ x < k) ∧ DS ns s ∧ Fr st s := ⟨_, rfl⟩
  rw [W_fin, sSeq_e, WS_seq]
  refine WS.cut (N' := fun τ s => τ = [some (.ref 1), some (.int (k : Nat)), some (.int (most : Nat)), some (.ref st.length), none, none, none] ∧ s = st ++ [.lst []]) (by simp only [sSeq_e, sIf_e, sSet_e, sExpr_e, sRet_e, sRetN_e, sNil_e, sFor_e, sBrk_e, sCnt_e, sSub_e, sAsg_e, W_fin, WS_seq, WS_bindE, WS_nx, WS_rt, WS_bk, WS_ct]; simp [List.replicate]) fun τ s hp => ?_
  obtain ⟨rfl, rfl⟩ := hp
  rw [sSeq_e, WS_seq]
  refine WS.cut (N' := J 8) ?_ fun τ s hp => ?_
  · rw [sFor_e]
    simp
    refine w_draw (many := 8) H.app (by decide) (by decide) fun v s1 hv D1 F1 => ?_
    have hr : rg1 (.int (1 + (v : Int))) s1 = .ok (.fix (rng 0 (v + 1 : Nat))) s1 := by
      have := rg1_int (st := s1) (j := ((v + 1 : Nat) : Int)) (by omega)
      rw [show (1 + (v : Int)) = ((v + 1 : Nat) : Int) by omega]
      exact this
    simp [hr]
    refine ws_rng (n := v + 1) J (fun _ _ _ _ => rfl) (by rw [hJ]; exact ⟨st.length, none, none, [], rfl, F1.lst lstAt_new (by omega), by omega, by simp, (fun _ h => nomatch h), D1, Fr.app.trans F1⟩) ?_ ?_
    · intro i τ s hi hp
      rw [hJ] at hp
      obtain ⟨m, a, b, X, rfl, g, m1, lX, hX, D0, F0⟩ := hp
      refine ⟨_, rfl, ?_⟩
      rw [sSeq_e, WS_seq]
      refine WS.cut (N' := fun τ s' => ∃ w : Nat, w < k ∧ τ = [some (.ref 1), some (.int (k : Nat)), some (.int (most : Nat)), some (.ref m), some (.int (i : Nat)), some (.int (w : Nat)), none] ∧ DS ns s' ∧ Fr s s') ?_ fun τ s2 hp => ?_
      · simp only [sSeq_e, sIf_e, sSet_e, sExpr_e, sRet_e, sRetN_e, sNil_e, sFor_e, sBrk_e, sCnt_e, sSub_e, sAsg_e, W_fin, WS_seq, WS_bindE, WS_nx, WS_rt, WS_bk, WS_ct]
        simp
        exact w_draw (many := k) D0 hk (by omega) fun w s2 hw D2 F2 => ⟨w, hw, rfl, D2, F2⟩
      obtain ⟨w, hw, rfl, D2, F2⟩ := hp
      have g2 := F2.lst g m1
      simp only [sSeq_e, sIf_e, sSet_e, sExpr_e, sRet_e, sRetN_e, sNil_e, sFor_e, sBrk_e, sCnt_e, sSub_e, sAsg_e, W_fin, WS_seq, WS_bindE, WS_nx, WS_rt, WS_bk, WS_ct]
      simp [lComp_e]
      refine w_draw (many := 20) D2 (by decide) (by decide) fun u s3 hu D3 F3 => ?_
      have hr : rg1 (.int (u : Nat)) s3 = .ok (.fix (rng 0 u)) s3 := rg1_int (by omega)
      simp [hr]
      refine w_lc (by simp [rng_len]; omega) ?_
      refine w_map (fun i : Nat => D.int i) (fun _ => D.int w) (List.range u) (by rw [items_fix, rng_eq]) rfl (fun i _ => ⟨_, rfl, by simp [wipeD]⟩) ?_
      have e : ((List.range u).map fun _ => D.int (w : Nat)) = (List.replicate u (w : Int)).map D.int := by
        rw [List.map_replicate]
        refine List.ext_getElem (by simp) fun i h1 h2 => by simp
      rw [e]
      have g3 := (Gr.app (a := s3) (c := Cell.lst ((List.replicate u (w : Int)).map D.int))).lst (F3.lst g2 m1)
      have ad := oAdd_ref g3 (lstAt_new (a := s3) (xs := (List.replicate u (w : Int)).map D.int)) (by simp; omega)
      have l3 := D3.len
      rw [ad]
      simp only [WS_bindE, W_ok, WS_nx]
      rw [hJ]
      refine ⟨_, _, _, X ++ List.replicate u (w : Int), rfl, ?_, ?_, ?_, fun x hx => ?_, D3.app.app, (F0.trans (F2.trans F3)).trans (Fr.app.trans .app)⟩
      · rw [lstAt_new]
        simp
      · rw [List.length_append]
        omega
      · simp
        omega
      · rcases List.mem_append.mp hx with h | h
        · exact hX x h
        · have := List.eq_of_mem_replicate h
          omega
    · intro τ s hp
      rw [hJ] at hp ⊢
      obtain ⟨m, a, b, X, rfl, g, m1, lX, r⟩ := hp
      exact ⟨m, a, b, X, rfl, g, m1, by omega, r⟩
  rw [hJ] at hp
  obtain ⟨m, a, b, X, rfl, g, m1, lX, hX, D0, F0⟩ := hp
  simp only [sSeq_e, sIf_e, sSet_e, sExpr_e, sRet_e, sRetN_e, sNil_e, sFor_e, sBrk_e, sCnt_e, sSub_e, sAsg_e, W_fin, WS_seq, WS_bindE, WS_nx, WS_rt, WS_bk, WS_ct]
  simp [dCut_ref g, fTuple_ref (lstAt_new (a := s) (xs := cutD (X.map D.int) none (some (most : Int))))]
  have e : cutD (X.map D.int) none (some (most : Int)) = (X.take most).map D.int := by rw [cutD_to, List.map_take]
  have := hQ (X.take most) (s ++ [.lst ((X.take most).map D.int)]) (by rw [List.length_take]; omega) (fun x hx => hX x (List.mem_of_mem_take hx)) D0.app (F0.trans .app)
  rw [e]
  exact this
end
section
variable {ns : List Int} {st : Store}
theorem sd2_len {A : List Stp} : (A.flatMap sd2).length ≤ A.length := by
  induction A with
  | nil => simp
  | cons x B ih =>
    have : (sd2 x).length ≤ 1 := by cases x with | keep k => simp [sd2] | ed e => cases e <;> simp [sd2]
    simp only [List.flatMap_cons, List.length_append, List.length_cons]
    omega
theorem sd_bd {k : Nat} {es : List Ed} {A : List Stp} {t : List Int} (he : ∀ e ∈ es, e.ok k) (ht : ∀ x ∈ t, 0 ≤ x ∧ x < k) (h1 : A.flatMap sd1 = t) (h2 : ∀ e, Stp.ed e ∈ A → e ∈ es) : ∀ x ∈ A.flatMap sd2, 0 ≤ x ∧ x < k := by
  intro x hx
  obtain ⟨a, ha, hxa⟩ := List.mem_flatMap.mp hx
  cases a with
  | keep c =>
    have : x = c := by simpa [sd2] using hxa
    subst this
    exact ht x (by rw [← h1]; exact List.mem_flatMap.mpr ⟨_, ha, by simp [sd1]⟩)
  | ed e =>
    have := he e (h2 e ha)
    cases e with
    | cut c => cases hxa
    | put c =>
      have : x = c := by simpa [sd2] using hxa
      subst this
      assumption
    | turn c o =>
      have h : x = o := by simpa [sd2] using hxa
      subst h
      exact this.2.1
theorem w_pickT {xs : List D} {Q : D → Store → Prop} (H : DS ns st) (h0 : 0 < xs.length) (h1 : xs.length < 2 ^ 60) (hQ : ∀ v s, v ∈ xs → DS ns s → Fr st s → Q v s) : W (f__law_pick [.ref 1, .tup xs] st) Q := by
  unfold f__law_pick
  rw [runB_e]
  unfold m__law_pick
  simp [List.replicate]
  refine w_draw (many := xs.length) H h0 h1 fun v s hv D1 F1 => ?_
  have ha : atI xs (v : Int) = some xs[v] := atI_nat (by simp [hv])
  simp [ha]
  exact hQ _ s (List.getElem_mem hv) D1 F1
theorem w_other {k : Nat} {es : List Ed} {t : List Int} {b : Bool} {Q : D → Store → Prop} (H : DS ns st) (hk : 0 < k) (hk' : k ≤ 5) (le : es.length ≤ 35) (he : ∀ e ∈ es, e.ok k) (lt : t.length ≤ if b then 60 else 7) (ht : ∀ x ∈ t, 0 ≤ x ∧ x < k)
    (hQ : ∀ (o : List Int) s, o.length ≤ 60 → (∀ x ∈ o, 0 ≤ x ∧ x < k) → DS ns s → Fr st s → Q (tb o) s) : W (f__law_other_table [.ref 1, .int (k : Nat), eds es, tb t, .bl b] st) Q := by
  unfold f__law_other_table
  rw [runB_e]
  unfold m__law_other_table
  have two := H.len
  have lt60 : t.length ≤ 60 := by cases b <;> simp at lt <;> omega
  rw [W_fin, sSeq_e, WS_seq]
  refine WS.cut (N' := fun τ s => ∃ v : Nat, τ = [some (.ref 1), some (.int (k : Nat)), some (eds es), some (tb t), some (.bl b), some (.int (v : Nat))] ∧ DS ns s ∧ Fr st s) ?_ fun τ s1 hp => ?_
  · simp only [sSeq_e, sIf_e, sSet_e, sExpr_e, sRet_e, sRetN_e, sNil_e, sFor_e, sBrk_e, sCnt_e, sSub_e, sAsg_e, W_fin, WS_seq, WS_bindE, WS_nx, WS_rt, WS_bk, WS_ct]
    simp [List.replicate]
    exact w_draw (many := 5) H (by decide) (by decide) fun v s1 hv D1 F1 => ⟨⟨v, rfl⟩, D1, F1⟩
  obtain ⟨v, rfl, D1, F1⟩ := hp
  by_cases h0 : v = 0
  · subst h0
    refine ws_take (by simp) ?_
    simp only [sSeq_e, sIf_e, sSet_e, sExpr_e, sRet_e, sRetN_e, sNil_e, sFor_e, sBrk_e, sCnt_e, sSub_e, sAsg_e, W_fin, WS_seq, WS_bindE, WS_nx, WS_rt, WS_bk, WS_ct]
    cases b with
    | true =>
      simp
      exact w_runs (most := 60) D1 hk hk' fun t s h1 h2 D2 F2 => hQ t s h1 h2 D2 (F1.trans F2)
    | false =>
      simp
      exact w_table (most := 7) D1 hk hk' (by decide) fun t s h1 h2 D2 F2 => hQ t s (by omega) h2 D2 (F1.trans F2)
  · have n0 : ¬ ((v : Int) = 0) := by omega
    refine ws_skip (by simp [h0]) ?_
    by_cases h1 : v = 1
    · subst h1
      refine ws_take (by simp) ?_
      simp only [sSeq_e, sIf_e, sSet_e, sExpr_e, sRet_e, sRetN_e, sNil_e, sFor_e, sBrk_e, sCnt_e, sSub_e, sAsg_e, W_fin, WS_seq, WS_bindE, WS_nx, WS_rt, WS_bk, WS_ct]
      simp
      refine w_shuffled D1 lt60 fun t' m s h1 h2 h3 D2 F2 => ?_
      simp [fTuple_ref h1]
      exact hQ t' s (by omega) (fun x hx => ht x (h3 x hx)) D2 (F1.trans F2)
    · have n1 : ¬ ((v : Int) = 1) := by omega
      refine ws_skip (by simp [n1]) ?_
      obtain ⟨g, hg⟩ : ∃ g : Nat, g = if b then 60 - t.length else 5 := ⟨_, rfl⟩
      have g60 : g ≤ 60 := by rw [hg]; cases b <;> simp
      have fin : ∀ A s, A.flatMap sd1 = t → (∀ e, Stp.ed e ∈ A → e ∈ es) → A.length ≤ t.length + g → DS ns s → Fr s1 s → W (f__law_side [als A, .bl true] s) Q := fun A s h1 h2 h3 D8 F8 => by
        refine w_side (by omega) fun s' G => hQ _ s' ?_ (sd_bd he ht h1 h2) (G.ds D8) ((F1.trans F8).trans G.fr)
        have := sd2_len (A := A)
        cases b with
        | true => simp at hg; omega
        | false => simp at hg lt; omega
      simp only [sSeq_e, sIf_e, sSet_e, sExpr_e, sRet_e, sRetN_e, sNil_e, sFor_e, sBrk_e, sCnt_e, sSub_e, sAsg_e, W_fin, WS_seq, WS_bindE, WS_nx, WS_rt, WS_bk, WS_ct]
      cases b with
      | true =>
        have e1 : fLen [tb t] s1 = .ok (.int (t.length : Nat)) s1 := by simp [tb]
        have e2 : (60 : Int) - (t.length : Int) = (g : Nat) := by rw [hg]; simp; omega
        simp [e1, e2]
        exact w_bent D1 le (by omega) (fun x hx => (ht x hx).1) g60 fun A s h1 h2 h3 D8 F8 => fin A s h1 h2 h3 D8 F8
      | false =>
        have e2 : g = 5 := by rw [hg]; rfl
        subst e2
        simp
        exact w_bent (g := 5) D1 le (by omega) (fun x hx => (ht x hx).1) g60 fun A s h1 h2 h3 D8 F8 => fin A s h1 h2 h3 D8 F8
theorem w_some_near {n : Nat} {Q : D → Store → Prop} (H : DS ns st) (hn : 0 < n) (h5 : n ≤ 5) (hQ : ∀ es s, es.length ≤ 35 → (∀ e ∈ es, e.ok n) → DS ns s → Fr st s → Q (eds es) s) : W (f__law_some_near [.ref 1, .int (n : Nat)] st) Q := by
  unfold f__law_some_near
  rw [runB_e]
  unfold m__law_some_near
  have two := H.len
  have lA := allE_len h5
  have pA := allE_pos hn
  rw [W_fin, sSeq_e, WS_seq]
  refine WS.cut (N' := fun τ s => τ = [some (.ref 1), some (.int (n : Nat)), some (eds (allE n)), none] ∧ DS ns s ∧ Fr st s) ?_ fun τ s1 hp => ?_
  · simp only [sSeq_e, sIf_e, sSet_e, sExpr_e, sRet_e, sRetN_e, sNil_e, sFor_e, sBrk_e, sCnt_e, sSub_e, sAsg_e, W_fin, WS_seq, WS_bindE, WS_nx, WS_rt, WS_bk, WS_ct]
    simp [List.replicate]
    exact w_all_edits h5 fun s G => ⟨rfl, G.ds H, G.fr⟩
  obtain ⟨rfl, D1, F1⟩ := hp
  rw [sSeq_e, WS_seq]
  refine WS.cut (N' := fun τ s => ∃ v : Nat, τ = [some (.ref 1), some (.int (n : Nat)), some (eds (allE n)), some (.int (v : Nat))] ∧ DS ns s ∧ Fr st s) ?_ fun τ s2 hp => ?_
  · simp only [sSeq_e, sIf_e, sSet_e, sExpr_e, sRet_e, sRetN_e, sNil_e, sFor_e, sBrk_e, sCnt_e, sSub_e, sAsg_e, W_fin, WS_seq, WS_bindE, WS_nx, WS_rt, WS_bk, WS_ct]
    simp
    exact w_draw (many := 6) D1 (by decide) (by decide) fun v s1 hv D2 F2 => ⟨⟨v, rfl⟩, D2, F1.trans F2⟩
  obtain ⟨v, rfl, D2, F2⟩ := hp
  by_cases h1 : v = 1
  · subst h1
    refine ws_take (by simp) ?_
    simp only [sSeq_e, sIf_e, sSet_e, sExpr_e, sRet_e, sRetN_e, sNil_e, sFor_e, sBrk_e, sCnt_e, sSub_e, sAsg_e, W_fin, WS_seq, WS_bindE, WS_nx, WS_rt, WS_bk, WS_ct]
    simp
    refine w_pickT D2 (xs := (allE n).map Ed.d) (by rw [List.length_map]; exact pA) (by rw [List.length_map]; omega) fun d s hd D3 F3 => ?_
    obtain ⟨e, he, rfl⟩ := List.mem_map.mp hd
    exact hQ [e] s (by simp) (fun x hx => by rw [List.mem_singleton.mp hx]; exact allE_mem.mp he) D3 (F2.trans F3)
  · have n1 : ¬ ((v : Int) = 1) := by omega
    refine ws_skip (by simp [n1]) ?_
    by_cases h2 : v = 2
    · subst h2
      refine ws_take (by simp) ?_
      simp only [sSeq_e, sIf_e, sSet_e, sExpr_e, sRet_e, sRetN_e, sNil_e, sFor_e, sBrk_e, sCnt_e, sSub_e, sAsg_e, W_fin, WS_seq, WS_bindE, WS_nx, WS_rt, WS_bk, WS_ct]
      simp
      exact hQ [] _ (by simp) (fun _ h => nomatch h) D2 F2
    · have n2 : ¬ ((v : Int) = 2) := by omega
      refine ws_skip (by simp [n2]) ?_
      simp only [sSeq_e, sIf_e, sSet_e, sExpr_e, sRet_e, sRetN_e, sNil_e, sFor_e, sBrk_e, sCnt_e, sSub_e, sAsg_e, W_fin, WS_seq, WS_bindE, WS_nx, WS_rt, WS_bk, WS_ct]
      simp
      exact w_near D2 hn h5 fun es s h D3 F3 => hQ es s (Nat.le_trans h.length_le lA) (fun e he => allE_mem.mp (h.subset he)) D3 (F2.trans F3)
end

theorem stps_bd {es : List Ed} {t o : List Int} {i j : Nat} (hi : i < t.length + 1) (hj : j < o.length + 1) : ∀ s ∈ stps es t o i j, s.2.2.1 < t.length + 1 ∧ s.2.2.2 < o.length + 1 := by
  intro s hs
  unfold stps stps1 stps2 stps3 stps4 at hs
  simp only [List.mem_append] at hs
  rcases hs with hs | hs | hs | hs <;> split at hs <;> simp only [List.mem_singleton, List.not_mem_nil] at hs <;> subst hs <;> simp only <;> omega
/-- what may come next, told apart -/
theorem stps_cases {es : List Ed} {t o : List Int} {i j : Nat} {s : SQ} (h : s ∈ stps es t o i j) :
    (i < t.length ∧ Ed.cut (t.getD i 0) ∈ es ∧ s.2 = (1, i + 1, j)) ∨ (i < t.length ∧ j < o.length ∧ t.getD i 0 = o.getD j 0 ∧ s.2 = (0, i + 1, j + 1)) ∨
    (j < o.length ∧ Ed.put (o.getD j 0) ∈ es ∧ s.2 = (1, i, j + 1)) ∨ (i < t.length ∧ j < o.length ∧ Ed.turn (t.getD i 0) (o.getD j 0) ∈ es ∧ s.2 = (1, i + 1, j + 1)) := by
  unfold stps stps1 stps2 stps3 stps4 at h
  simp only [List.mem_append] at h
  rcases h with h | h | h | h <;> split at h <;> simp only [List.mem_singleton, List.not_mem_nil] at h <;> subst h
  · rename_i c; exact .inl ⟨c.1, c.2, rfl⟩
  · rename_i c; exact .inr (.inl ⟨c.1, c.2.1, c.2.2, rfl⟩)
  · rename_i c; exact .inr (.inr (.inl ⟨c.1, c.2, rfl⟩))
  · rename_i c; exact .inr (.inr (.inr ⟨c.1, c.2.1, c.2.2, rfl⟩))
/-! ways, by count and steps -/
abbrev Wy := Int × List Stp
def wyD (w : Wy) : D := .tup [.int w.1, als w.2]
def owD : Option Wy → D
  | none => .non
  | some w => wyD w
/-- the first of the least -/
def fmS (b : Option Wy) (w : Wy) : Option Wy := match b with
  | none => some w
  | some v => if w.1 < v.1 then some w else some v
def fm (ws : List Wy) : Option Wy := ws.foldl fmS none
def ah (s : Stp) (c : Int) (o : Option Wy) : List Wy := match o with
  | none => []
  | some w => [(w.1 + c, s :: w.2)]
def ways (es : List Ed) (t o : List Int) (i j : Nat) (dn rt bo : Option Wy) : List Wy :=
  (if i < t.length ∧ Ed.cut (t.getD i 0) ∈ es then ah (.ed (.cut (t.getD i 0))) 1 dn else []) ++
  ((if i < t.length ∧ j < o.length ∧ t.getD i 0 = o.getD j 0 then ah (.keep (t.getD i 0)) 0 bo else []) ++
  ((if j < o.length ∧ Ed.put (o.getD j 0) ∈ es then ah (.ed (.put (o.getD j 0))) 1 rt else []) ++
  (if i < t.length ∧ j < o.length ∧ Ed.turn (t.getD i 0) (o.getD j 0) ∈ es then ah (.ed (.turn (t.getD i 0) (o.getD j 0))) 1 bo else [])))
def wend (t o : List Int) (i j : Nat) : List Wy := if i = t.length ∧ j = o.length then [(0, [])] else []
/-- by what is left -/
def grec {α : Type} (F : Nat → Nat → Option α → Option α → Option α → Option α) (i j : Nat) : Option α :=
  F i j (if _h : 0 < i then grec F (i - 1) j else none) (if _h : 0 < j then grec F i (j - 1) else none) (if _h : 0 < i ∧ 0 < j then grec F (i - 1) (j - 1) else none)
termination_by i + j
decreasing_by all_goals omega
theorem grec_eq {α : Type} {F : Nat → Nat → Option α → Option α → Option α → Option α} {i j : Nat} : grec F i j = F i j (if 0 < i then grec F (i - 1) j else none) (if 0 < j then grec F i (j - 1) else none) (if 0 < i ∧ 0 < j then grec F (i - 1) (j - 1) else none) := by
  rw [grec]
  simp only [dite_eq_ite]
def bk (es : List Ed) (t o : List Int) : Nat → Nat → Option Wy := grec fun a b d r c => fm (ways es t o (t.length - a) (o.length - b) d r c ++ wend t o (t.length - a) (o.length - b))
def best (es : List Ed) (t o : List Int) (i j : Nat) : Option Wy := bk es t o (t.length - i) (o.length - j)
section
variable {es : List Ed} {t o : List Int}
theorem ways_if {i j : Nat} {d r c : Option Wy} : ways es t o i j (if 0 < t.length - i then d else none) (if 0 < o.length - j then r else none) (if 0 < t.length - i ∧ 0 < o.length - j then c else none) = ways es t o i j d r c := by
  unfold ways
  have e1 : (i < t.length) = (0 < t.length - i) := by rw [eq_iff_iff]; omega
  have e2 : (j < o.length) = (0 < o.length - j) := by rw [eq_iff_iff]; omega
  simp only [e1, e2]
  by_cases h1 : 0 < t.length - i <;> by_cases h2 : 0 < o.length - j <;> simp [h1, h2]
theorem best_eq {i j : Nat} (hi : i ≤ t.length) (hj : j ≤ o.length) : best es t o i j = fm (ways es t o i j (best es t o (i + 1) j) (best es t o i (j + 1)) (best es t o (i + 1) (j + 1)) ++ wend t o i j) := by
  conv => lhs; unfold best bk; rw [grec_eq]
  have e1 : t.length - (t.length - i) = i := by omega
  have e2 : o.length - (o.length - j) = j := by omega
  rw [e1, e2, ways_if]
  rfl
theorem ways_mem {i j : Nat} {d r c : Option Wy} : ways es t o i j d r c = (stps es t o i j).flatMap fun s => ah s.1 s.2.1 (if s.2.2 = (i + 1, j) then d else if s.2.2 = (i, j + 1) then r else c) := by
  unfold ways stps stps1 stps2 stps3 stps4
  simp only [List.flatMap_append]
  congr 1
  · split <;> simp
  congr 1
  · split <;> simp
  congr 1
  · split <;> simp
  · split <;> simp
end
theorem flatMap_congr' {α β : Type} {l : List α} {f g : α → List β} (h : ∀ x ∈ l, f x = g x) : l.flatMap f = l.flatMap g := by
  rw [List.flatMap_def, List.flatMap_def, List.map_congr_left h]
/-- what is told of a place -/
def nx (es : List Ed) (t o : List Int) (s : SQ) : Option Wy := best es t o s.2.2.1 s.2.2.2
section
variable {es : List Ed} {t o : List Int}
theorem best_st {i j : Nat} (hi : i ≤ t.length) (hj : j ≤ o.length) : best es t o i j = fm (((stps es t o i j).flatMap fun s => ah s.1 s.2.1 (nx es t o s)) ++ wend t o i j) := by
  rw [best_eq hi hj, ways_mem]
  congr 2
  refine flatMap_congr' fun s hs => ?_
  congr 1
  unfold nx
  rcases stps_cases hs with ⟨_, _, e⟩ | ⟨_, _, _, e⟩ | ⟨_, _, e⟩ | ⟨_, _, _, e⟩ <;> rw [e] <;> simp
end
theorem fm_app {ws : List Wy} {w : Wy} : fm (ws ++ [w]) = fmS (fm ws) w := by
  unfold fm
  rw [List.foldl_append]
  rfl
theorem fm_none {ws : List Wy} : fm ws = none ↔ ws = [] := by
  constructor
  · intro h
    rcases List.eq_nil_or_concat ws with e | ⟨l, a, e⟩
    · exact e
    · rw [e, List.concat_eq_append, fm_app] at h
      unfold fmS at h
      split at h
      · cases h
      · split at h <;> cases h
  · rintro rfl
    rfl
theorem fm_mem : ∀ {n : Nat} {ws : List Wy} {w : Wy}, ws.length = n → fm ws = some w → w ∈ ws ∧ (∀ v ∈ ws, w.1 ≤ v.1) ∧ ws.find? (fun v => decide (v.1 = w.1)) = some w
  | 0, ws, w, hn, h => by
    have : ws = [] := List.length_eq_zero_iff.mp hn
    subst this
    cases h
  | n + 1, ws, w, hn, h => by
    rcases List.eq_nil_or_concat ws with e | ⟨l, a, e⟩
    · rw [e] at hn
      cases hn
    · rw [List.concat_eq_append] at e
      subst e
      rw [fm_app] at h
      have hl : l.length = n := by simpa using hn
      cases hv : fm l with
      | none =>
        rw [hv] at h
        have hw : a = w := Option.some.inj h
        subst hw
        have := fm_none.mp hv
        subst this
        simp
      | some v =>
        obtain ⟨h1, h2, h3⟩ := fm_mem hl hv
        rw [hv] at h
        unfold fmS at h
        simp only at h
        split at h
        · rename_i hc
          have hw : a = w := Option.some.inj h
          subst hw
          refine ⟨by simp, fun x hx => ?_, ?_⟩
          · rcases List.mem_append.mp hx with hx | hx
            · have := h2 x hx
              omega
            · rw [List.mem_singleton.mp hx]
              exact Int.le_refl _
          · rw [List.find?_append]
            have : l.find? (fun v => decide (v.1 = a.1)) = none := by
              rw [List.find?_eq_none]
              intro x hx
              have := h2 x hx
              simp
              omega
            rw [this]
            simp
        · rename_i hc
          cases h
          refine ⟨List.mem_append_left _ h1, fun x hx => ?_, ?_⟩
          · rcases List.mem_append.mp hx with hx | hx
            · exact h2 x hx
            · rw [List.mem_singleton.mp hx]
              omega
          · rw [List.find?_append, h3]
            rfl
/-- the first step that keeps the count -/
theorem first_step {f : SQ → List Wy} {c : Int} {w : Wy} (hf : ∀ s, (f s).length ≤ 1) : ∀ {l : List SQ}, (l.flatMap f).find? (fun v => decide (v.1 = c)) = some w → ∃ pre s post, l = pre ++ s :: post ∧ f s = [w] ∧ w.1 = c ∧ ∀ x ∈ pre, ∀ v ∈ f x, v.1 ≠ c
  | [], h => by cases h
  | s :: l, h => by
    rw [List.flatMap_cons, List.find?_append] at h
    cases hs : (f s).find? fun v => decide (v.1 = c) with
    | some v =>
      rw [hs] at h
      cases h
      have h1 := List.mem_of_find?_eq_some hs
      have h2 := List.find?_some hs
      refine ⟨[], s, l, rfl, ?_, of_decide_eq_true h2, (fun _ h => nomatch h)⟩
      have := hf s
      match hfs : f s with
      | [] => rw [hfs] at h1; cases h1
      | [a] => rw [hfs] at h1; rw [List.mem_singleton.mp h1]
      | a :: b :: r => rw [hfs] at this; simp at this
    | none =>
      rw [hs] at h
      obtain ⟨pre, s', post, h1, h2, h3, h4⟩ := first_step hf (l := l) h
      refine ⟨s :: pre, s', post, by rw [h1]; rfl, h2, h3, fun x hx v hv => ?_⟩
      rcases List.mem_cons.mp hx with rfl | hx
      · have := List.find?_eq_none.mp hs v hv
        simpa using this
      · exact h4 x hx v hv
theorem ah_len {s : Stp} {c : Int} {o : Option Wy} : (ah s c o).length ≤ 1 := by
  unfold ah
  split <;> simp
section
variable {es : List Ed} {t o : List Int}
theorem best_end : best es t o t.length o.length = some (0, []) := by
  rw [best_eq (Nat.le_refl _) (Nat.le_refl _)]
  simp [ways, wend, fm, fmS]
/-- how the least one goes on -/
theorem best_step {i j : Nat} {c : Int} {p : List Stp} (hi : i ≤ t.length) (hj : j ≤ o.length) (hne : i < t.length ∨ j < o.length) (h : best es t o i j = some (c, p)) :
    ∃ pre s post p', stps es t o i j = pre ++ s :: post ∧ p = s.1 :: p' ∧ nx es t o s = some (c - s.2.1, p') ∧ ∀ x ∈ pre, ∀ w, nx es t o x = some w → w.1 + x.2.1 ≠ c := by
  rw [best_st hi hj] at h
  have e : wend t o i j = [] := by
    unfold wend
    rw [if_neg (by omega)]
  rw [e, List.append_nil] at h
  obtain ⟨_, _, h3⟩ := fm_mem rfl h
  obtain ⟨pre, s, post, h4, h5, h6, h7⟩ := first_step (fun s => ah_len) h3
  cases hn : nx es t o s with
  | none => rw [hn] at h5; cases h5
  | some w =>
    rw [hn] at h5
    unfold ah at h5
    simp only [List.cons.injEq, and_true, Prod.mk.injEq] at h5
    refine ⟨pre, s, post, w.2, h4, h5.2.symm, by rw [hn, ← h5.1]; simp, fun x hx w' hw' => ?_⟩
    have := h7 x hx (w'.1 + x.2.1, x.1 :: w'.2) (by rw [hw']; simp [ah])
    exact this
end
/-- marks: the counts alone -/
def lft (es : List Ed) (t o : List Int) (i j : Nat) : OI := (best es t o i j).map (·.1)
def lstp (es : List Ed) (t o : List Int) (b : OI) (s : SQ) : OI := match lft es t o s.2.2.1 s.2.2.2 with
  | none => b
  | some x => lsr b (some (x + s.2.1))
theorem fmS_cnt {b : Option Wy} {w : Wy} : (fmS b w).map (·.1) = lsr (b.map (·.1)) (some w.1) := by
  cases b with
  | none => rfl
  | some v =>
    unfold fmS lsr
    simp only [Option.map_some]
    by_cases h : w.1 < v.1
    · rw [if_pos h]
      have : ¬ v.1 < w.1 := by omega
      rw [if_neg this]
      rfl
    · rw [if_neg h]
      by_cases h2 : v.1 < w.1
      · rw [if_pos h2]
        rfl
      · rw [if_neg h2]
        simp
        omega
theorem fm_cnt {es : List Ed} {t o : List Int} : ∀ (l : List SQ) (b : Option Wy), ((l.flatMap fun s => ah s.1 s.2.1 (nx es t o s)).foldl fmS b).map (·.1) = l.foldl (lstp es t o) (b.map (·.1))
  | [], b => rfl
  | s :: l, b => by
    rw [List.flatMap_cons, List.foldl_append, List.foldl_cons, fm_cnt l]
    congr 1
    unfold ah lstp lft nx
    cases best es t o s.2.2.1 s.2.2.2 with
    | none => rfl
    | some w => exact fmS_cnt
theorem lft_eq {es : List Ed} {t o : List Int} {i j : Nat} (hi : i ≤ t.length) (hj : j ≤ o.length) (hne : i < t.length ∨ j < o.length) : lft es t o i j = (stps es t o i j).foldl (lstp es t o) none := by
  unfold lft
  rw [best_st hi hj]
  have e : wend t o i j = [] := by
    unfold wend
    rw [if_neg (by omega)]
  rw [e, List.append_nil]
  exact fm_cnt _ none
theorem lft_end {es : List Ed} {t o : List Int} : lft es t o t.length o.length = some 0 := by
  unfold lft
  rw [best_end]
  rfl

theorem lsr_none {a : OI} : lsr a none = a := by cases a <;> rfl
theorem none_lsr {a : OI} : lsr none a = a := rfl
theorem lsr_comm {a b : OI} : lsr a b = lsr b a := by
  cases a with
  | none => rw [none_lsr, lsr_none]
  | some x =>
    cases b with
    | none => rfl
    | some y =>
      unfold lsr
      simp only
      split <;> split <;> simp <;> omega
theorem lsr_l {a b : OI} {y : Int} (h : atm a y = true) : atm (lsr a b) y = true := by
  cases a with
  | none => cases h
  | some x =>
    cases b with
    | none => exact h
    | some z =>
      have : x ≤ y := by simpa [atm] using h
      unfold lsr
      simp only
      split <;> simp [atm] <;> omega
theorem lsr_r {a b : OI} {y : Int} (h : atm b y = true) : atm (lsr a b) y = true := by
  rw [lsr_comm]
  exact lsr_l h
theorem mor_atm {a : OI} {x : Int} (h : a = some x) : atm (mor a) (x + 1) = true := by
  subst h
  simp [mor, atm]
theorem edn_ed {e : Ed} {A : List Stp} : edn (.ed e :: A) = edn A + 1 := rfl
theorem edn_keep {k : Int} {A : List Stp} : edn (.keep k :: A) = edn A := rfl
theorem lsr_or {a b : OI} {x : Int} (h : lsr a b = some x) : a = some x ∨ b = some x := by
  cases a with
  | none => exact .inr h
  | some y =>
    cases b with
    | none => exact .inl h
    | some z =>
      unfold lsr at h
      simp only at h
      split at h
      · exact .inl h
      · exact .inr h
theorem atm_ex {a : OI} {y : Int} (h : atm a y = true) : ∃ x, a = some x ∧ x ≤ y := by
  cases a with
  | none => cases h
  | some x => exact ⟨x, rfl, by simpa [atm] using h⟩
theorem stpsC {es : List Ed} {t o : List Int} {i j : Nat} {s : SQ} (h : s ∈ stps es t o i j) :
    (i < t.length ∧ Ed.cut (t.getD i 0) ∈ es ∧ s = (.ed (.cut (t.getD i 0)), 1, i + 1, j)) ∨ (i < t.length ∧ j < o.length ∧ t.getD i 0 = o.getD j 0 ∧ s = (.keep (t.getD i 0), 0, i + 1, j + 1)) ∨
    (j < o.length ∧ Ed.put (o.getD j 0) ∈ es ∧ s = (.ed (.put (o.getD j 0)), 1, i, j + 1)) ∨ (i < t.length ∧ j < o.length ∧ Ed.turn (t.getD i 0) (o.getD j 0) ∈ es ∧ s = (.ed (.turn (t.getD i 0) (o.getD j 0)), 1, i + 1, j + 1)) := by
  unfold stps stps1 stps2 stps3 stps4 at h
  simp only [List.mem_append] at h
  rcases h with h | h | h | h <;> split at h <;> simp only [List.mem_singleton, List.not_mem_nil] at h <;> subst h
  · rename_i c; exact .inl ⟨c.1, c.2, rfl⟩
  · rename_i c; exact .inr (.inl ⟨c.1, c.2.1, c.2.2, rfl⟩)
  · rename_i c; exact .inr (.inr (.inl ⟨c.1, c.2, rfl⟩))
  · rename_i c; exact .inr (.inr (.inr ⟨c.1, c.2.1, c.2.2, rfl⟩))
theorem drop_at {l : List Int} {i : Nat} (h : i < l.length) : l.drop i = l.getD i 0 :: l.drop (i + 1) := by
  rw [List.drop_eq_getElem_cons h]
  simp [List.getD, h]
theorem take_at {l : List Int} {i : Nat} (h : i < l.length) : l.take (i + 1) = l.take i ++ [l.getD i 0] := by
  rw [List.take_succ, List.getElem?_eq_getElem h]
  simp [List.getD, h]
theorem drop_hd {l : List Int} {i : Nat} {k : Int} {r : List Int} (e : k :: r = l.drop i) : i < l.length ∧ l.getD i 0 = k ∧ r = l.drop (i + 1) := by
  have hl : i < l.length := by
    have := congrArg List.length e
    simp at this
    omega
  rw [drop_at hl] at e
  exact ⟨hl, (List.cons.inj e).1.symm, (List.cons.inj e).2⟩
section
variable {es : List Ed} {t o : List Int}
theorem best_sound : ∀ (k i j : Nat) (c : Int) (p : List Stp), (t.length - i) + (o.length - j) = k → i ≤ t.length → j ≤ o.length → best es t o i j = some (c, p) →
    p.flatMap sd1 = t.drop i ∧ p.flatMap sd2 = o.drop j ∧ (∀ e, Stp.ed e ∈ p → e ∈ es) ∧ c = (edn p : Nat) ∧ (∀ x, Stp.keep x ∈ p → x ∈ t) := fun k => by
  induction k using Nat.strongRecOn with
  | ind k ih =>
    intro i j c p hk hi hj h
    by_cases hne : i < t.length ∨ j < o.length
    · obtain ⟨pre, s, post, p', h1, rfl, h3, _⟩ := best_step hi hj hne h
      have hs : s ∈ stps es t o i j := by rw [h1]; simp
      unfold nx at h3
      rcases stpsC hs with ⟨a1, a2, rfl⟩ | ⟨a1, a2, a3, rfl⟩ | ⟨a1, a2, rfl⟩ | ⟨a1, a2, a3, rfl⟩
      · obtain ⟨b1, b2, b3, b4, b5⟩ := ih _ (by omega) (i + 1) j _ _ rfl (by omega) hj h3
        refine ⟨by rw [List.flatMap_cons, b1, drop_at a1]; rfl, by rw [List.flatMap_cons, b2]; rfl, fun e he => ?_, by rw [edn_ed]; simp only at b4; omega, fun x hx => ?_⟩
        · rcases List.mem_cons.mp he with h | h
          · cases h; exact a2
          · exact b3 e h
        · rcases List.mem_cons.mp hx with h | h
          · cases h
          · exact b5 x h
      · obtain ⟨b1, b2, b3, b4, b5⟩ := ih _ (by omega) (i + 1) (j + 1) _ _ rfl (by omega) (by omega) h3
        refine ⟨by rw [List.flatMap_cons, b1, drop_at a1]; rfl, by rw [List.flatMap_cons, b2, drop_at a2, ← a3]; rfl, fun e he => ?_, by rw [edn_keep]; simp only at b4; omega, fun x hx => ?_⟩
        · rcases List.mem_cons.mp he with h | h
          · cases h
          · exact b3 e h
        · rcases List.mem_cons.mp hx with h | h
          · cases h
            rw [List.getD_eq_getElem?_getD, List.getElem?_eq_getElem a1]
            exact List.getElem_mem a1
          · exact b5 x h
      · obtain ⟨b1, b2, b3, b4, b5⟩ := ih _ (by omega) i (j + 1) _ _ rfl hi (by omega) h3
        refine ⟨by rw [List.flatMap_cons, b1]; rfl, by rw [List.flatMap_cons, b2, drop_at a1]; rfl, fun e he => ?_, by rw [edn_ed]; simp only at b4; omega, fun x hx => ?_⟩
        · rcases List.mem_cons.mp he with h | h
          · cases h; exact a2
          · exact b3 e h
        · rcases List.mem_cons.mp hx with h | h
          · cases h
          · exact b5 x h
      · obtain ⟨b1, b2, b3, b4, b5⟩ := ih _ (by omega) (i + 1) (j + 1) _ _ rfl (by omega) (by omega) h3
        refine ⟨by rw [List.flatMap_cons, b1, drop_at a1]; rfl, by rw [List.flatMap_cons, b2, drop_at a2]; rfl, fun e he => ?_, by rw [edn_ed]; simp only at b4; omega, fun x hx => ?_⟩
        · rcases List.mem_cons.mp he with h | h
          · cases h; exact a3
          · exact b3 e h
        · rcases List.mem_cons.mp hx with h | h
          · cases h
          · exact b5 x h
    · have e1 : i = t.length := by omega
      have e2 : j = o.length := by omega
      subst e1 e2
      rw [best_end] at h
      cases h
      simp [edn]
theorem best_of {i j : Nat} (hi : i ≤ t.length) (hj : j ≤ o.length) {s : SQ} (hs : s ∈ stps es t o i j) {w : Wy} (hw : nx es t o s = some w) : ∃ c p, best es t o i j = some (c, p) ∧ c ≤ w.1 + s.2.1 := by
  have hm : ((w.1 + s.2.1, s.1 :: w.2) : Wy) ∈ ((stps es t o i j).flatMap fun s => ah s.1 s.2.1 (nx es t o s)) ++ wend t o i j :=
    List.mem_append_left _ (List.mem_flatMap.mpr ⟨s, hs, by rw [hw]; simp [ah]⟩)
  rw [best_st hi hj]
  cases hf : fm (((stps es t o i j).flatMap fun s => ah s.1 s.2.1 (nx es t o s)) ++ wend t o i j) with
  | none =>
    rw [fm_none.mp hf] at hm
    cases hm
  | some v => exact ⟨v.1, v.2, rfl, (fm_mem rfl hf).2.1 _ hm⟩
theorem st_cut {i j : Nat} (h : i < t.length) (he : Ed.cut (t.getD i 0) ∈ es) : ((.ed (.cut (t.getD i 0)), 1, i + 1, j) : SQ) ∈ stps es t o i j := by
  unfold stps stps1
  rw [if_pos ⟨h, he⟩]
  simp
theorem st_keep {i j : Nat} (h : i < t.length) (h2 : j < o.length) (he : t.getD i 0 = o.getD j 0) : ((.keep (t.getD i 0), 0, i + 1, j + 1) : SQ) ∈ stps es t o i j := by
  unfold stps stps2
  rw [if_pos (c := i < t.length ∧ j < o.length ∧ t.getD i 0 = o.getD j 0) ⟨h, h2, he⟩]
  simp
theorem st_put {i j : Nat} (h : j < o.length) (he : Ed.put (o.getD j 0) ∈ es) : ((.ed (.put (o.getD j 0)), 1, i, j + 1) : SQ) ∈ stps es t o i j := by
  unfold stps stps3
  rw [if_pos (c := j < o.length ∧ Ed.put (o.getD j 0) ∈ es) ⟨h, he⟩]
  simp
theorem st_turn {i j : Nat} (h : i < t.length) (h2 : j < o.length) (he : Ed.turn (t.getD i 0) (o.getD j 0) ∈ es) : ((.ed (.turn (t.getD i 0) (o.getD j 0)), 1, i + 1, j + 1) : SQ) ∈ stps es t o i j := by
  unfold stps stps4
  rw [if_pos (c := i < t.length ∧ j < o.length ∧ Ed.turn (t.getD i 0) (o.getD j 0) ∈ es) ⟨h, h2, he⟩]
  simp
/-- an alignment, step by step, from a place on -/
theorem walk_al (V : Nat → Nat → Int → Prop) (hV : ∀ i j x, i ≤ t.length → j ≤ o.length → V i j x → ∀ s ∈ stps es t o i j, ∃ y, V s.2.2.1 s.2.2.2 y ∧ y ≤ x + s.2.1) : ∀ (A : List Stp) (i j : Nat) (x : Int), V i j x → i ≤ t.length → j ≤ o.length → A.flatMap sd1 = t.drop i → A.flatMap sd2 = o.drop j → (∀ e, Stp.ed e ∈ A → e ∈ es) → ∃ y, V t.length o.length y ∧ y ≤ x + (edn A : Nat) := by
  intro A
  induction A with
  | nil =>
    intro i j x hx hi hj e1 e2 _
    have i1 : t.length ≤ i := by
      have := congrArg List.length e1
      simp at this
      omega
    have j1 : o.length ≤ j := by
      have := congrArg List.length e2
      simp at this
      omega
    have : i = t.length := by omega
    subst this
    have : j = o.length := by omega
    subst this
    exact ⟨x, hx, by simp [edn]⟩
  | cons a A ih =>
    intro i j x hx hi hj e1 e2 ha
    have ha' : ∀ e, Stp.ed e ∈ A → e ∈ es := fun e he => ha e (List.mem_cons_of_mem _ he)
    cases a with
    | keep k =>
      obtain ⟨l1, g1, r1⟩ := drop_hd (l := t) (i := i) (k := k) (r := A.flatMap sd1) (by simpa [sd1] using e1)
      obtain ⟨l2, g2, r2⟩ := drop_hd (l := o) (i := j) (k := k) (r := A.flatMap sd2) (by simpa [sd2] using e2)
      obtain ⟨y, hy, le1⟩ := hV i j x hi hj hx _ (st_keep l1 l2 (g1.trans g2.symm))
      obtain ⟨z, hz, le2⟩ := ih _ _ y hy (by simp; omega) (by simp; omega) r1 r2 ha'
      exact ⟨z, hz, by rw [edn_keep]; simp only at le1; omega⟩
    | ed e =>
      have he := ha e (List.mem_cons_self ..)
      cases e with
      | cut k =>
        obtain ⟨l1, g1, r1⟩ := drop_hd (l := t) (i := i) (k := k) (r := A.flatMap sd1) (by simpa [sd1] using e1)
        obtain ⟨y, hy, le1⟩ := hV i j x hi hj hx _ (st_cut l1 (by rw [g1]; exact he))
        obtain ⟨z, hz, le2⟩ := ih _ _ y hy (by simp; omega) hj r1 (by simpa [sd2] using e2) ha'
        exact ⟨z, hz, by rw [edn_ed]; simp only at le1; omega⟩
      | put k =>
        obtain ⟨l1, g1, r1⟩ := drop_hd (l := o) (i := j) (k := k) (r := A.flatMap sd2) (by simpa [sd2] using e2)
        obtain ⟨y, hy, le1⟩ := hV i j x hi hj hx _ (st_put l1 (by rw [g1]; exact he))
        obtain ⟨z, hz, le2⟩ := ih _ _ y hy hi (by simp; omega) (by simpa [sd1] using e1) r1 ha'
        exact ⟨z, hz, by rw [edn_ed]; simp only at le1; omega⟩
      | turn k b =>
        obtain ⟨l1, g1, r1⟩ := drop_hd (l := t) (i := i) (k := k) (r := A.flatMap sd1) (by simpa [sd1] using e1)
        obtain ⟨l2, g2, r2⟩ := drop_hd (l := o) (i := j) (k := b) (r := A.flatMap sd2) (by simpa [sd2] using e2)
        obtain ⟨y, hy, le1⟩ := hV i j x hi hj hx _ (st_turn l1 l2 (by rw [g1, g2]; exact he))
        obtain ⟨z, hz, le2⟩ := ih _ _ y hy (by simp; omega) (by simp; omega) r1 r2 ha'
        exact ⟨z, hz, by rw [edn_ed]; simp only at le1; omega⟩
/-- the least one is no more than any -/
theorem best_min : ∀ (A : List Stp) (i j : Nat), i ≤ t.length → j ≤ o.length → A.flatMap sd1 = t.drop i → A.flatMap sd2 = o.drop j → (∀ e, Stp.ed e ∈ A → e ∈ es) → ∃ c p, best es t o i j = some (c, p) ∧ c ≤ (edn A : Nat) := by
  intro A
  induction A with
  | nil =>
    intro i j hi hj e1 e2 _
    have i1 : t.length ≤ i := by
      have := congrArg List.length e1
      simp at this
      omega
    have j1 : o.length ≤ j := by
      have := congrArg List.length e2
      simp at this
      omega
    have : i = t.length := by omega
    subst this
    have : j = o.length := by omega
    subst this
    exact ⟨_, _, best_end, by simp [edn]⟩
  | cons a A ih =>
    intro i j hi hj e1 e2 ha
    have ha' : ∀ e, Stp.ed e ∈ A → e ∈ es := fun e he => ha e (List.mem_cons_of_mem _ he)
    cases a with
    | keep k =>
      obtain ⟨l1, g1, r1⟩ := drop_hd (l := t) (i := i) (k := k) (r := A.flatMap sd1) (by simpa [sd1] using e1)
      obtain ⟨l2, g2, r2⟩ := drop_hd (l := o) (i := j) (k := k) (r := A.flatMap sd2) (by simpa [sd2] using e2)
      obtain ⟨c, p, hb, hc⟩ := ih (i + 1) (j + 1) (by omega) (by omega) r1 r2 ha'
      obtain ⟨c', p', hb', hc'⟩ := best_of hi hj (st_keep (es := es) l1 l2 (g1.trans g2.symm)) (w := (c, p)) hb
      exact ⟨c', p', hb', by rw [edn_keep]; simp only at hc'; omega⟩
    | ed e =>
      have he := ha e (List.mem_cons_self ..)
      cases e with
      | cut k =>
        obtain ⟨l1, g1, r1⟩ := drop_hd (l := t) (i := i) (k := k) (r := A.flatMap sd1) (by simpa [sd1] using e1)
        obtain ⟨c, p, hb, hc⟩ := ih (i + 1) j (by omega) hj r1 (by simpa [sd2] using e2) ha'
        obtain ⟨c', p', hb', hc'⟩ := best_of hi hj (st_cut (es := es) l1 (by rw [g1]; exact he)) (w := (c, p)) hb
        exact ⟨c', p', hb', by rw [edn_ed]; simp only at hc'; omega⟩
      | put k =>
        obtain ⟨l1, g1, r1⟩ := drop_hd (l := o) (i := j) (k := k) (r := A.flatMap sd2) (by simpa [sd2] using e2)
        obtain ⟨c, p, hb, hc⟩ := ih i (j + 1) hi (by omega) (by simpa [sd1] using e1) r1 ha'
        obtain ⟨c', p', hb', hc'⟩ := best_of hi hj (st_put (es := es) l1 (by rw [g1]; exact he)) (w := (c, p)) hb
        exact ⟨c', p', hb', by rw [edn_ed]; simp only at hc'; omega⟩
      | turn k b =>
        obtain ⟨l1, g1, r1⟩ := drop_hd (l := t) (i := i) (k := k) (r := A.flatMap sd1) (by simpa [sd1] using e1)
        obtain ⟨l2, g2, r2⟩ := drop_hd (l := o) (i := j) (k := b) (r := A.flatMap sd2) (by simpa [sd2] using e2)
        obtain ⟨c, p, hb, hc⟩ := ih (i + 1) (j + 1) (by omega) (by omega) r1 r2 ha'
        obtain ⟨c', p', hb', hc'⟩ := best_of hi hj (st_turn (es := es) l1 l2 (by rw [g1, g2]; exact he)) (w := (c, p)) hb
        exact ⟨c', p', hb', by rw [edn_ed]; simp only at hc'; omega⟩
theorem cnt_00 : cnt es t o 0 0 = some 0 := by
  rw [cnt_eq]
  simp [cstep]
theorem cnt_step {i j : Nat} {x : Int} (hx : cnt es t o i j = some x) : ∀ s ∈ stps es t o i j, ∃ y, cnt es t o s.2.2.1 s.2.2.2 = some y ∧ y ≤ x + s.2.1 := by
  intro s h
  refine atm_ex ?_
  rcases stps_cases h with ⟨h1, h2, e⟩ | ⟨h1, h2, h3, e⟩ | ⟨h1, h2, e⟩ | ⟨h1, h2, h3, e⟩
  · rw [e]
    show atm (cnt es t o (i + 1) j) (x + 1) = true
    rw [cnt_eq]
    unfold cstep
    rw [if_neg (by omega)]
    have b1 : atm (if 0 < i + 1 ∧ Ed.cut (t.getD (i + 1 - 1) 0) ∈ es then mor (if 0 < i + 1 then cnt es t o (i + 1 - 1) j else none) else none) (x + 1) = true := by
      rw [if_pos ⟨by omega, by simpa using h2⟩, if_pos (by omega)]
      exact mor_atm (by simpa using hx)
    revert b1
    generalize (if 0 < i + 1 ∧ Ed.cut (t.getD (i + 1 - 1) 0) ∈ es then mor (if 0 < i + 1 then cnt es t o (i + 1 - 1) j else none) else none) = b1
    intro hb
    have hb2 : ∀ (c : Prop) [Decidable c] (l : OI), atm (if c then lsr b1 l else b1) (x + 1) = true := fun c _ l => by
      split
      · exact lsr_l hb
      · exact hb
    simp only
    split
    · split
      · exact lsr_l (hb2 _ _)
      · split
        · exact lsr_l (hb2 _ _)
        · exact hb2 _ _
    · exact hb2 _ _
  · rw [e]
    show atm (cnt es t o (i + 1) (j + 1)) (x + 0) = true
    rw [cnt_eq]
    unfold cstep
    rw [if_neg (by omega)]
    simp only
    rw [if_pos (c := 0 < i + 1 ∧ 0 < j + 1) ⟨by omega, by omega⟩, if_pos (c := t.getD (i + 1 - 1) 0 = o.getD (j + 1 - 1) 0) (by simpa using h3), if_pos (c := 0 < i + 1 ∧ 0 < j + 1) ⟨by omega, by omega⟩]
    refine lsr_r ?_
    simp only [Nat.add_sub_cancel]
    rw [hx]
    simp [atm]
  · rw [e]
    show atm (cnt es t o i (j + 1)) (x + 1) = true
    rw [cnt_eq]
    unfold cstep
    rw [if_neg (by omega)]
    have b2 : ∀ b1, atm (if 0 < j + 1 ∧ Ed.put (o.getD (j + 1 - 1) 0) ∈ es then lsr b1 (mor (if 0 < j + 1 then cnt es t o i (j + 1 - 1) else none)) else b1) (x + 1) = true := fun b1 => by
      rw [if_pos ⟨by omega, by simpa using h2⟩, if_pos (by omega)]
      exact lsr_r (mor_atm (by simpa using hx))
    simp only
    split
    · split
      · exact lsr_l (b2 _)
      · split
        · exact lsr_l (b2 _)
        · exact b2 _
    · exact b2 _
  · rw [e]
    show atm (cnt es t o (i + 1) (j + 1)) (x + 1) = true
    rw [cnt_eq]
    unfold cstep
    rw [if_neg (by omega)]
    simp only
    rw [if_pos (c := 0 < i + 1 ∧ 0 < j + 1) ⟨by omega, by omega⟩, if_pos (c := 0 < i + 1 ∧ 0 < j + 1) ⟨by omega, by omega⟩]
    by_cases c : t.getD (i + 1 - 1) 0 = o.getD (j + 1 - 1) 0
    · rw [if_pos c]
      refine lsr_r ?_
      simp only [Nat.add_sub_cancel]
      rw [hx]
      simp [atm]
      omega
    · rw [if_neg c, if_pos (by simpa using h3)]
      refine lsr_r (mor_atm ?_)
      simpa using hx
theorem cnt_sound : ∀ (k i j : Nat) (x : Int), i + j = k → i ≤ t.length → j ≤ o.length → cnt es t o i j = some x → ∃ A : List Stp, A.flatMap sd1 = t.take i ∧ A.flatMap sd2 = o.take j ∧ (∀ e, Stp.ed e ∈ A → e ∈ es) ∧ (edn A : Int) = x := fun k => by
  induction k using Nat.strongRecOn with
  | ind k ih =>
    intro i j x hk hi hj h
    have edn_app : ∀ (A : List Stp) (s : Stp), edn (A ++ [s]) = edn A + if isEd s then 1 else 0 := fun A s => by
      unfold edn
      rw [List.filter_append, List.length_append]
      cases h : isEd s <;> simp [h]
    have fin : ∀ (i' j' : Nat) (y w : Int) (s : Stp), cnt es t o i' j' = some y → i' + j' < k → i' ≤ t.length → j' ≤ o.length → t.take i = t.take i' ++ sd1 s → o.take j = o.take j' ++ sd2 s → (∀ e, s = .ed e → e ∈ es) → ((if isEd s then 1 else 0 : Nat) : Int) = w → y + w = x →
        ∃ A : List Stp, A.flatMap sd1 = t.take i ∧ A.flatMap sd2 = o.take j ∧ (∀ e, Stp.ed e ∈ A → e ∈ es) ∧ (edn A : Int) = x := fun i' j' y w s h1 h2 h3 h4 h5 h6 h7 h8 h9 => by
      obtain ⟨A, a1, a2, a3, a4⟩ := ih (i' + j') h2 i' j' y rfl h3 h4 h1
      refine ⟨A ++ [s], by simp [a1, h5], by simp [a2, h6], fun e he => ?_, by rw [edn_app]; omega⟩
      rcases List.mem_append.mp he with h | h
      · exact a3 e h
      · have hx : Stp.ed e = s := by simpa using h
        exact h7 e hx.symm
    have morI : ∀ {a : OI} {x : Int}, mor a = some x → a = some (x - 1) := fun {a x} h => by
      cases a with
      | none => cases h
      | some y =>
        have : y + 1 = x := by simpa [mor] using h
        rw [← this]
        simp
    rw [cnt_eq] at h
    unfold cstep at h
    by_cases c0 : i = 0 ∧ j = 0
    · rw [if_pos c0] at h
      obtain ⟨rfl, rfl⟩ := c0
      cases h
      exact ⟨[], rfl, rfl, (fun _ h => nomatch h), rfl⟩
    · rw [if_neg c0] at h
      simp only at h
      have cutC : ∀ {y : Int}, (if 0 < i ∧ Ed.cut (t.getD (i - 1) 0) ∈ es then mor (if 0 < i then cnt es t o (i - 1) j else none) else none) = some y → y = x → ∃ A : List Stp, A.flatMap sd1 = t.take i ∧ A.flatMap sd2 = o.take j ∧ (∀ e, Stp.ed e ∈ A → e ∈ es) ∧ (edn A : Int) = x := fun {y} h hy => by
        split at h
        · rename_i c
          rw [if_pos c.1] at h
          have := morI h
          exact fin (i - 1) j _ 1 (.ed (.cut (t.getD (i - 1) 0))) this (by omega) (by omega) hj (by have := take_at (l := t) (i := i - 1) (by omega); rw [show i - 1 + 1 = i by omega] at this; exact this) (by simp [sd2]) (fun e he => by cases he; exact c.2) rfl (by omega)
        · cases h
      have putC : ∀ {y : Int}, (if 0 < j ∧ Ed.put (o.getD (j - 1) 0) ∈ es then lsr (if 0 < i ∧ Ed.cut (t.getD (i - 1) 0) ∈ es then mor (if 0 < i then cnt es t o (i - 1) j else none) else none) (mor (if 0 < j then cnt es t o i (j - 1) else none)) else (if 0 < i ∧ Ed.cut (t.getD (i - 1) 0) ∈ es then mor (if 0 < i then cnt es t o (i - 1) j else none) else none)) = some y → y = x → ∃ A : List Stp, A.flatMap sd1 = t.take i ∧ A.flatMap sd2 = o.take j ∧ (∀ e, Stp.ed e ∈ A → e ∈ es) ∧ (edn A : Int) = x := fun {y} h hy => by
        by_cases c : 0 < j ∧ Ed.put (o.getD (j - 1) 0) ∈ es
        · rw [if_pos c] at h
          rcases lsr_or h with h | h
          · exact cutC h hy
          · rw [if_pos c.1] at h
            have := morI h
            exact fin i (j - 1) _ 1 (.ed (.put (o.getD (j - 1) 0))) this (by omega) hi (by omega) (by simp [sd1]) (by have := take_at (l := o) (i := j - 1) (by omega); rw [show j - 1 + 1 = j by omega] at this; exact this) (fun e he => by cases he; exact c.2) rfl (by omega)
        · rw [if_neg c] at h
          exact cutC h hy
      by_cases c1 : 0 < i ∧ 0 < j
      · rw [if_pos c1] at h
        have tt := take_at (l := t) (i := i - 1) (by omega)
        rw [show i - 1 + 1 = i by omega] at tt
        have oo := take_at (l := o) (i := j - 1) (by omega)
        rw [show j - 1 + 1 = j by omega] at oo
        by_cases c2 : t.getD (i - 1) 0 = o.getD (j - 1) 0
        · rw [if_pos c2] at h
          rcases lsr_or h with h | h
          · exact putC h rfl
          · rw [if_pos c1] at h
            exact fin (i - 1) (j - 1) _ 0 (.keep (t.getD (i - 1) 0)) h (by omega) (by omega) (by omega) tt (by rw [oo, ← c2]; rfl) (fun e he => nomatch he) rfl (by omega)
        · rw [if_neg c2] at h
          by_cases c3 : Ed.turn (t.getD (i - 1) 0) (o.getD (j - 1) 0) ∈ es
          · rw [if_pos c3] at h
            rcases lsr_or h with h | h
            · exact putC h rfl
            · rw [if_pos c1] at h
              have := morI h
              exact fin (i - 1) (j - 1) _ 1 (.ed (.turn (t.getD (i - 1) 0) (o.getD (j - 1) 0))) this (by omega) (by omega) (by omega) tt oo (fun e he => by cases he; exact c3) rfl (by omega)
          · rw [if_neg c3] at h
            exact putC h rfl
      · rw [if_neg c1] at h
        exact putC h rfl
/-- both roads give the same count -/
theorem dist_eq : cnt es t o t.length o.length = lft es t o 0 0 := by
  have up : ∀ x, cnt es t o t.length o.length = some x → ∃ c p, best es t o 0 0 = some (c, p) ∧ c ≤ x := fun x h => by
    obtain ⟨A, a1, a2, a3, a4⟩ := cnt_sound _ _ _ _ rfl (Nat.le_refl _) (Nat.le_refl _) h
    rw [List.take_length] at a1 a2
    obtain ⟨c, p, hb, hc⟩ := best_min A 0 0 (Nat.zero_le _) (Nat.zero_le _) (by simpa using a1) (by simpa using a2) a3
    exact ⟨c, p, hb, by omega⟩
  have down : ∀ c p, best es t o 0 0 = some (c, p) → ∃ x, cnt es t o t.length o.length = some x ∧ x ≤ c := fun c p h => by
    obtain ⟨a1, a2, a3, a4, _⟩ := best_sound _ _ _ _ _ rfl (Nat.zero_le _) (Nat.zero_le _) h
    obtain ⟨y, hy, hl⟩ := walk_al (fun i j x => cnt es t o i j = some x) (fun i j x _ _ hx s hs => cnt_step hx s hs) p 0 0 0 cnt_00 (Nat.zero_le _) (Nat.zero_le _) (by simpa using a1) (by simpa using a2) a3
    exact ⟨y, hy, by omega⟩
  unfold lft
  cases hc : cnt es t o t.length o.length with
  | none =>
    cases hb : best es t o 0 0 with
    | none => rfl
    | some w =>
      obtain ⟨x, hx, _⟩ := down w.1 w.2 hb
      rw [hc] at hx
      cases hx
  | some x =>
    obtain ⟨c, p, hb, hl⟩ := up x hc
    obtain ⟨y, hy, hl2⟩ := down c p hb
    rw [hc] at hy
    cases hy
    rw [hb]
    simp
    omega
theorem keeps_of : ∀ {p : List Stp}, edn p = 0 → p = (p.flatMap sd1).map Stp.keep ∧ p.flatMap sd2 = p.flatMap sd1
  | [], _ => ⟨rfl, rfl⟩
  | .keep k :: p, h => by
    rw [edn_keep] at h
    obtain ⟨h1, h2⟩ := keeps_of h
    refine ⟨?_, by simp [sd1, sd2, h2]⟩
    conv => lhs; rw [h1]
    simp [sd1]
  | .ed e :: p, h => by
    rw [edn_ed] at h
    omega
theorem best_self : best es t t 0 0 = some (0, t.map Stp.keep) := by
  have k1 : ∀ t : List Int, (t.map Stp.keep).flatMap sd1 = t := fun t => by
    induction t with
    | nil => rfl
    | cons x t ih => rw [List.map_cons, List.flatMap_cons, ih]; rfl
  have k2 : ∀ t : List Int, (t.map Stp.keep).flatMap sd2 = t := fun t => by
    induction t with
    | nil => rfl
    | cons x t ih => rw [List.map_cons, List.flatMap_cons, ih]; rfl
  have k3 : ∀ t : List Int, edn (t.map Stp.keep) = 0 := fun t => by
    induction t with
    | nil => rfl
    | cons x t ih => rw [List.map_cons, edn_keep, ih]
  have k3 := k3 t
  obtain ⟨c, p, hb, hc⟩ := best_min (es := es) (t := t) (o := t) (t.map Stp.keep) 0 0 (Nat.zero_le _) (Nat.zero_le _) (by simpa using k1 t) (by simpa using k2 t) (fun e he => by
    obtain ⟨_, _, h⟩ := List.mem_map.mp he
    cases h)
  obtain ⟨a1, a2, a3, a4, _⟩ := best_sound _ _ _ _ _ rfl (Nat.zero_le _) (Nat.zero_le _) hb
  have e0 : edn p = 0 := by omega
  have := (keeps_of e0).1
  rw [a1] at this
  rw [hb, this, a4, e0]
  simp
theorem best_bare (h : t ≠ o) : best [] t o 0 0 = none := by
  cases hb : best [] t o 0 0 with
  | none => rfl
  | some w =>
    obtain ⟨a1, a2, a3, a4, _⟩ := best_sound (c := w.1) (p := w.2) _ _ _ rfl (Nat.zero_le _) (Nat.zero_le _) hb
    have e0 : edn w.2 = 0 := by
      unfold edn
      rw [List.length_eq_zero_iff, List.filter_eq_nil_iff]
      intro a ha
      cases a with
      | keep k => simp [isEd]
      | ed e => exact absurd (a3 e ha) (by simp)
    have := (keeps_of e0).2
    rw [a1, a2] at this
    simp at this
    exact absurd this.symm h
end

/-! grids -/
structure Gd (base n m : Nat) (c : Nat → Nat → OI) (s : Store) (mm : Nat) (qs : List Nat) : Prop where
  top : lstAt s mm = some (qs.map D.ref)
  len : qs.length = n + 1
  bm : base ≤ mm
  rows : ∀ (i q : Nat), qs[i]? = some q → base ≤ q ∧ q ≠ mm ∧ lstAt s q = some (mrow c m i)
  nd : ∀ (i j q : Nat), qs[i]? = some q → qs[j]? = some q → i = j
theorem Gd.gr {base n m mm : Nat} {c : Nat → Nat → OI} {s s' : Store} {qs : List Nat} (h : Gd base n m c s mm qs) (G : Gr s s') : Gd base n m c s' mm qs :=
  ⟨G.lst h.top, h.len, h.bm, fun i q hi => ⟨(h.rows i q hi).1, (h.rows i q hi).2.1, G.lst (h.rows i q hi).2.2⟩, h.nd⟩
def updc (c : Nat → Nat → OI) (i j : Nat) (v : OI) : Nat → Nat → OI := fun a b => if a = i ∧ b = j then v else c a b
theorem mrow_upd {c : Nat → Nat → OI} {m i j : Nat} {v : OI} : (mrow c m i).set j (mkD v) = mrow (updc c i j v) m i := by
  refine List.ext_getElem? fun k => ?_
  unfold mrow updc
  rw [List.getElem?_set]
  by_cases hk : k < m + 1
  · by_cases e : j = k
    · subst e
      simp [hk]
    · have : ¬ k = j := fun h => e h.symm
      simp [hk, e, this]
  · by_cases e : j = k
    · subst e
      simp [hk]
    · simp [hk, e]
theorem mrow_ne {c : Nat → Nat → OI} {m i j i' : Nat} {v : OI} (h : i' ≠ i) : mrow (updc c i j v) m i' = mrow c m i' := by
  unfold mrow updc
  refine List.map_congr_left fun k _ => ?_
  rw [if_neg fun e => h e.1]
theorem Gd.upd {base n m mm i j q : Nat} {c : Nat → Nat → OI} {s : Store} {qs : List Nat} (h : Gd base n m c s mm qs) (hi : qs[i]? = some q) (v : OI) : Gd base n m (updc c i j v) (s.set q (.lst ((mrow c m i).set j (mkD v)))) mm qs := by
  obtain ⟨r1, r2, r3⟩ := h.rows i q hi
  refine ⟨by rw [lstAt_ne (Ne.symm r2)]; exact h.top, h.len, h.bm, fun i' q' hi' => ?_, h.nd⟩
  obtain ⟨a1, a2, a3⟩ := h.rows i' q' hi'
  refine ⟨a1, a2, ?_⟩
  by_cases e : i' = i
  · subst e
    rw [hi] at hi'
    cases hi'
    rw [lstAt_set r3, mrow_upd]
  · have : q' ≠ q := fun e' => e (h.nd i' i q (by rw [← e']; exact hi') hi)
    rw [lstAt_ne this, mrow_ne e]
    exact a3
theorem Gd.row {base n m mm : Nat} {c : Nat → Nat → OI} {s : Store} {qs : List Nat} (h : Gd base n m c s mm qs) {i : Nat} (hi : i ≤ n) : ∃ q, qs[i]? = some q ∧ atI (qs.map D.ref) (i : Int) = some (.ref q) ∧ base ≤ q ∧ q ≠ mm ∧ lstAt s q = some (mrow c m i) := by
  have hl : i < qs.length := by rw [h.len]; omega
  have e := List.getElem?_eq_getElem hl
  exact ⟨_, e, atI_nat (by rw [List.getElem?_map, e]; rfl), h.rows i _ e⟩
theorem mrow_at {c : Nat → Nat → OI} {m i j : Nat} (h : j ≤ m) : atI (mrow c m i) (j : Int) = some (mkD (c i j)) := atI_row (by omega)
section
variable {ns : List Int} {st : Store} {es : List Ed} {t o : List Int}
theorem w_distance {Q : D → Store → Prop} (ht : t.length < 1000) (ho : o.length < 1000) (hQ : ∀ s, Gr st s → Q (mkD (lft es t o 0 0)) s) : W (f_distance [eds es, tb t, tb o] st) Q := by
  unfold f_distance
  rw [runB_e]
  unfold m_distance
  have l2 : ∀ s, fLen [tb o] s = .ok (.int (o.length : Nat)) s := fun s => by simp [tb]
  have l3 : ∀ s, fLen [tb t] s = .ok (.int (t.length : Nat)) s := fun s => by simp [tb]
  simp only [sSeq_e, sIf_e, sSet_e, sExpr_e, sRet_e, sRetN_e, sNil_e, sFor_e, sBrk_e, sCnt_e, sSub_e, sAsg_e, W_fin, WS_seq, WS_bindE, WS_nx, WS_rt, WS_bk, WS_ct]
  simp [List.replicate]
  refine w_cost_rows ht ho fun s m qs G g lq rows => ?_
  have hl : t.length < qs.length := by omega
  have e := List.getElem?_eq_getElem hl
  have e1 : atI (qs.map D.ref) (t.length : Int) = some (.ref qs[t.length]) := atI_nat (by rw [List.getElem?_map, e]; rfl)
  have e2 := rows _ _ e
  have e3 : atI (mrow (cnt es t o) o.length t.length) (o.length : Int) = some (mkD (cnt es t o t.length o.length)) := mrow_at (Nat.le_refl _)
  simp [l2, l3, oIx_ref g, e1, oIx_ref e2, e3]
  rw [dist_eq]
  exact hQ s G
def ini (t o : List Int) (i j : Nat) : OI := if i = t.length ∧ j = o.length then some 0 else none
def prog (es : List Ed) (t o : List Int) (k l i j : Nat) : OI := if t.length - i < k ∨ t.length - i = k ∧ o.length - j < l then lft es t o i j else ini t o i j
abbrev u_cell : SM := sSeq (sSet 7 (eBin oSub (eCB fLen (aCons (eVar 2) aNil)) (eVar 6)))
    (sFor (iEx (eCall 5 f_steps_from (aCons (eVar 0) (aCons (eVar 1) (aCons (eVar 2) (aCons (eVar 5) (aCons (eVar 7) aNil))))))) (gT 4 (gCs 8 (gCs 9 (gCs 10 (gCs 11 gNil0))))) (sIf (tBl (eBin oIsNot (eBin oIx (eBin oIx (eVar 3) (eVar 10)) (eVar 11)) (eC .non))) (sSub (eBin oIx (eVar 3) (eVar 5)) (eVar 7) (eCall 2 f_lesser (aCons (eBin oIx (eBin oIx (eVar 3) (eVar 5)) (eVar 7)) (aCons (eBin oAdd (eBin oIx (eBin oIx (eVar 3) (eVar 10)) (eVar 11)) (eVar 9)) aNil)))) sNil))
/-- what stands when k rows and l places are done -/
def LI (es : List Ed) (t o : List Int) (st : Store) (mm : Nat) (qs : List Nat) (k l : Nat) (s : Store) : Prop := ∃ c, Gr st s ∧ Gd st.length t.length o.length c s mm qs ∧ ∀ i j, i ≤ t.length → j ≤ o.length → c i j = prog es t o k l i j
theorem w_cell {mm k l : Nat} {qs : List Nat} {c d e f g h : Option D} {s : Store} {N : Sl → Store → Prop} {R : D → Store → Prop} {B C : Sl → Store → Prop} (ht : t.length < 1000) (ho : o.length < 1000) (hk : k < t.length + 1) (hl : l < o.length + 1) (hp : LI es t o st mm qs k l s)
    (hN : ∀ d e f g h s, LI es t o st mm qs k (l + 1) s → N [some (eds es), some (tb t), some (tb o), some (.ref mm), some (.int (k : Nat)), some (.int (t.length - k : Nat)), some (.int (l : Nat)), d, e, f, g, h] s) :
    WS (u_cell [some (eds es), some (tb t), some (tb o), some (.ref mm), some (.int (k : Nat)), some (.int (t.length - k : Nat)), some (.int (l : Nat)), d, e, f, g, h] s) N R B C := by
  have l2 : ∀ s, fLen [tb o] s = .ok (.int (o.length : Nat)) s := fun s => by simp [tb]
  have el : (o.length : Int) - (l : Int) = ((o.length - l : Nat) : Int) := by omega
  obtain ⟨i0, hi0⟩ : ∃ i0, i0 = t.length - k := ⟨_, rfl⟩
  obtain ⟨j0, hj0⟩ : ∃ j0, j0 = o.length - l := ⟨_, rfl⟩
  rw [← hj0] at el
  rw [← hi0] at hN ⊢
  have bi : i0 ≤ t.length := by omega
  have bj : j0 ≤ o.length := by omega
  unfold u_cell
  rw [sSeq_e, WS_seq]
  refine WS.cut (N' := fun τ s' => τ = [some (eds es), some (tb t), some (tb o), some (.ref mm), some (.int (k : Nat)), some (.int (i0 : Nat)), some (.int (l : Nat)), some (.int (j0 : Nat)), e, f, g, h] ∧ s' = s) ?_ fun τ s' hp' => ?_
  · simp only [sSeq_e, sIf_e, sSet_e, sExpr_e, sRet_e, sRetN_e, sNil_e, sFor_e, sBrk_e, sCnt_e, sSub_e, sAsg_e, W_fin, WS_seq, WS_bindE, WS_nx, WS_rt, WS_bk, WS_ct]
    simp [l2, el]
  obtain ⟨rfl, rfl⟩ := hp'
  rw [sFor_e, WS_bindE]
  simp only [iEx_e, W_bind]
  have cl : ∀ Q : D → Store → Prop, W (f_steps_from [eds es, tb t, tb o, .int (i0 : Nat), .int (j0 : Nat)] s') Q → W (eCall 5 f_steps_from (aCons (eVar 0) (aCons (eVar 1) (aCons (eVar 2) (aCons (eVar 5) (aCons (eVar 7) aNil))))) [some (eds es), some (tb t), some (tb o), some (.ref mm), some (.int (k : Nat)), some (.int (i0 : Nat)), some (.int (l : Nat)), some (.int (j0 : Nat)), e, f, g, h] s') Q := fun Q h => by simpa using h
  refine cl _ (w_steps_from fun s1 m G1 g1 => ?_)
  rw [dSq_ref g1]
  simp only [ofQ_some, W_ok, items_cell]
  obtain ⟨c0, Gs, gd, hc⟩ := hp
  have gd1 := gd.gr G1
  obtain ⟨P3, hP3⟩ : ∃ P : Nat → Sl → Store → Prop, P = fun idx τ s => (∃ e f g h, τ = [some (eds es), some (tb t), some (tb o), some (.ref mm), some (.int (k : Nat)), some (.int (i0 : Nat)), some (.int (l : Nat)), some (.int (j0 : Nat)), e, f, g, h]) ∧ lstAt s m = some ((stps es t o i0 j0).map stD) ∧ ∃ c, Gr st s ∧ Gd st.length t.length o.length c s mm qs ∧ ∀ i j, i ≤ t.length → j ≤ o.length → c i j = if i = i0 ∧ j = j0 then ((stps es t o i0 j0).take idx).foldl (lstp es t o) (ini t o i0 j0) else prog es t o k l i j := ⟨_, rfl⟩
  refine ws_map stD (stps es t o i0 j0) rfl P3 (fun _ τ s h => ?_) ?_ ?_ ?_
  · rw [hP3] at h
    simp [Sq.chk, h.2.1]
  · rw [hP3]
    refine ⟨⟨_, _, _, _, rfl⟩, g1, c0, Gs.trans G1, gd1, fun i j hi hj => ?_⟩
    rw [hc i j hi hj]
    by_cases e : i = i0 ∧ j = j0
    · rw [if_pos e]
      unfold prog
      rw [if_neg (by omega), e.1, e.2]
      rfl
    · rw [if_neg e]
  · intro idx a τ s hi hp
    rw [hP3] at hp
    obtain ⟨⟨e, f, g, h, rfl⟩, gm, c1, G2, gd2, hc2⟩ := hp
    refine ⟨_, rfl, ?_⟩
    have hm := List.mem_of_getElem? hi
    obtain ⟨d1, d2⟩ := stps_bd (i := i0) (j := j0) (by omega) (by omega) a hm
    have tk : (stps es t o i0 j0).take (idx + 1) = (stps es t o i0 j0).take idx ++ [a] := by rw [List.take_succ, hi]; rfl
    obtain ⟨q, q1, q2, q3, q4, q5⟩ := gd2.row (i := i0) bi
    obtain ⟨r, r1, r2, r3, r4, r5⟩ := gd2.row (i := a.2.2.1) (by omega)
    have v1 : atI (mrow c1 o.length a.2.2.1) (a.2.2.2 : Int) = some (mkD (c1 a.2.2.1 a.2.2.2)) := mrow_at (by omega)
    have v2 : atI (mrow c1 o.length i0) (j0 : Int) = some (mkD (c1 i0 j0)) := mrow_at bj
    have cn : c1 a.2.2.1 a.2.2.2 = lft es t o a.2.2.1 a.2.2.2 := by
      rw [hc2 _ _ (by omega) (by omega)]
      rcases stps_cases hm with ⟨b1, b2, e⟩ | ⟨b1, b2, b3, e⟩ | ⟨b1, b2, e⟩ | ⟨b1, b2, b3, e⟩ <;> rw [e] <;> simp only <;> rw [if_neg (by omega)] <;> unfold prog <;> rw [if_pos (by omega)]
    have c00 : c1 i0 j0 = ((stps es t o i0 j0).take idx).foldl (lstp es t o) (ini t o i0 j0) := by
      rw [hc2 _ _ bi bj, if_pos ⟨rfl, rfl⟩]
    rw [cn] at v1
    cases hx : lft es t o a.2.2.1 a.2.2.2 with
    | none =>
      rw [hx] at v1
      simp only [sSeq_e, sIf_e, sSet_e, sExpr_e, sRet_e, sRetN_e, sNil_e, sFor_e, sBrk_e, sCnt_e, sSub_e, sAsg_e, W_fin, WS_seq, WS_bindE, WS_nx, WS_rt, WS_bk, WS_ct]
      simp [oIx_ref gd2.top, r2, oIx_ref r5, v1, r_isn]
      rw [hP3]
      refine ⟨⟨_, _, _, _, rfl⟩, gm, c1, G2, gd2, fun i j hi hj => ?_⟩
      rw [hc2 i j hi hj, tk, List.foldl_append]
      congr 1
      simp [lstp, hx]
    | some x =>
      rw [hx] at v1
      have os := fun v => oSet_ref (v := v) (k := (j0 : Int)) (j := j0) q5 (by simp only [mrow, List.length_map, List.length_range]; exact ixN_of (by omega))
      have le := r_lesser (a := c1 i0 j0) (b := some (x + a.2.1)) (st := s)
      simp only [mkD] at v1
      have hne : m ≠ q := fun h => by
        rw [h, q5] at gm
        have e := Option.some.inj gm
        have hmem : stD a ∈ (stps es t o i0 j0).map stD := List.mem_map_of_mem hm
        rw [← e] at hmem
        unfold mrow at hmem
        obtain ⟨j, _, hj⟩ := List.mem_map.mp hmem
        cases hcj : c1 i0 j <;> rw [hcj] at hj <;> cases hj
      simp only [sSeq_e, sIf_e, sSet_e, sExpr_e, sRet_e, sRetN_e, sNil_e, sFor_e, sBrk_e, sCnt_e, sSub_e, sAsg_e, W_fin, WS_seq, WS_bindE, WS_nx, WS_rt, WS_bk, WS_ct]
      simp [oIx_ref gd2.top, r2, oIx_ref r5, v1, q2, oIx_ref q5, v2]
      rw [show D.int (x + a.2.1) = mkD (some (x + a.2.1)) from rfl, le]
      obtain ⟨v, hv⟩ : ∃ v, v = lsr (c1 i0 j0) (some (x + a.2.1)) := ⟨_, rfl⟩
      rw [← hv]
      simp only [W_ok, oIx_ref gd2.top, q2, ofO_some, os, ofS_some, WS_nx]
      rw [hP3]
      refine ⟨⟨_, _, _, _, rfl⟩, by rw [lstAt_ne hne]; exact gm, _, G2.put q3, gd2.upd (j := j0) q1 v, fun i j hi hj => ?_⟩
      unfold updc
      by_cases e : i = i0 ∧ j = j0
      · rw [if_pos e, if_pos e, hv, c00, tk, List.foldl_append]
        simp [lstp, hx]
      · rw [if_neg e, if_neg e, hc2 i j hi hj, if_neg e]
  · intro τ s hp
    rw [hP3] at hp
    obtain ⟨⟨e, f, g, h, rfl⟩, gm, c1, G2, gd2, hc2⟩ := hp
    refine hN _ _ _ _ _ _ ⟨c1, G2, gd2, fun i j hi hj => ?_⟩
    rw [hc2 i j hi hj, List.take_length]
    by_cases e : i = i0 ∧ j = j0
    · rw [if_pos e]
      unfold prog
      rw [if_pos (by omega), e.1, e.2]
      by_cases hne : i0 < t.length ∨ j0 < o.length
      · rw [lft_eq bi bj hne]
        unfold ini
        rw [if_neg (by omega)]
      · have z1 : i0 = t.length := by omega
        have z2 : j0 = o.length := by omega
        rw [z1, z2, lft_end]
        simp [stps, stps1, stps2, stps3, stps4, ini]
    · rw [if_neg e]
      unfold prog
      congr 1
      rw [eq_iff_iff]
      omega
theorem w_left {Q : D → Store → Prop} (ht : t.length < 1000) (ho : o.length < 1000) (hQ : ∀ s mm qs c, Gr st s → Gd st.length t.length o.length c s mm qs → (∀ i j, i ≤ t.length → j ≤ o.length → c i j = lft es t o i j) → Q (.ref mm) s) : W (f_left_rows [eds es, tb t, tb o] st) Q := by
  unfold f_left_rows
  rw [runB_e]
  unfold m_left_rows
  have l2 : ∀ s, fLen [tb o] s = .ok (.int (o.length : Nat)) s := fun s => by simp [tb]
  have l3 : ∀ s, fLen [tb t] s = .ok (.int (t.length : Nat)) s := fun s => by simp [tb]
  have h1 : ∀ s, rg1 (.int ((t.length : Int) + 1)) s = .ok (.fix (rng 0 (t.length + 1 : Nat))) s := fun s => rg1_int (j := (t.length : Int) + 1) (by omega)
  have h2 : ∀ s, rg1 (.int ((o.length : Int) + 1)) s = .ok (.fix (rng 0 (o.length + 1 : Nat))) s := fun s => rg1_int (j := (o.length : Int) + 1) (by omega)
  rw [W_fin, sSeq_e, WS_seq]
  refine WS.cut (N' := fun τ s => ∃ mm qs, τ = [some (eds es), some (tb t), some (tb o), some (.ref mm), none, none, none, none, none, none, none, none] ∧ Gr st s ∧ Gd st.length t.length o.length (fun _ _ => none) s mm qs) ?_ fun τ s hp => ?_
  · simp only [sSeq_e, sIf_e, sSet_e, sExpr_e, sRet_e, sRetN_e, sNil_e, sFor_e, sBrk_e, sCnt_e, sSub_e, sAsg_e, W_fin, WS_seq, WS_bindE, WS_nx, WS_rt, WS_bk, WS_ct]
    simp [List.replicate, lComp_e, l3, h1]
    refine w_lc (by show (rng 0 ((t.length + 1 : Nat) : Int)).length ≤ _; rw [rng_len]; omega) ?_
    obtain ⟨P, hP⟩ : ∃ P : Nat → List D → Store → Prop, P = fun k acc s => ∃ qs : List Nat, acc = qs.map D.ref ∧ qs.length = k ∧ (∀ (i q : Nat), qs[i]? = some q → st.length ≤ q ∧ q < s.length ∧ lstAt s q = some (mrow (fun _ _ => none) o.length i)) ∧ (∀ (i j q : Nat), qs[i]? = some q → qs[j]? = some q → i = j) ∧ Gr st s := ⟨_, rfl⟩
    refine w_rng (n := t.length + 1) P (fun _ _ _ _ => rfl) (by rw [hP]; exact ⟨[], rfl, rfl, (fun i q h => by simp at h), (fun i j q h => by simp at h), .refl⟩) ?_ ?_
    · intro i acc s hi hp
      rw [hP] at hp
      obtain ⟨qs, rfl, lq, rows, nd, G⟩ := hp
      refine ⟨_, rfl, ?_⟩
      simp [wipeD, lComp_e, l2, h2]
      refine w_lc (by show (rng 0 ((o.length + 1 : Nat) : Int)).length ≤ _; rw [rng_len]; omega) ?_
      refine w_map (fun j : Nat => D.int j) (fun _ => D.non) (List.range (o.length + 1)) (rng_eq _) rfl (fun j _ => ⟨_, rfl, ⟨rfl, rfl⟩⟩) ?_
      show P _ _ _
      rw [hP]
      have gl := G.len
      refine ⟨qs ++ [s.length], by simp, by simp [lq], fun i' q' h => ?_, fun i' j' q' ha hb => ?_, G.trans .app⟩
      · rw [List.length_append, List.length_singleton]
        rw [List.getElem?_append] at h
        split at h
        · have := rows i' q' h
          exact ⟨this.1, by omega, (Gr.app (a := s)).lst this.2.2⟩
        · have e0 : q' = s.length := by
            cases hz : i' - qs.length with
            | zero => rw [hz] at h; simp at h; exact h.symm
            | succ z => rw [hz] at h; simp at h
          subst e0
          exact ⟨gl, by omega, lstAt_new⟩
      · rw [List.getElem?_append] at ha hb
        have sg : ∀ z, ([s.length] : List Nat)[z]? = some q' → z = 0 ∧ q' = s.length := fun z hz => by
          cases z with
          | zero => simp at hz; exact ⟨rfl, hz.symm⟩
          | succ z => simp at hz
        split at ha <;> split at hb
        · exact nd i' j' q' ha hb
        · have := (rows i' q' ha).2.1
          have := (sg _ hb).2
          omega
        · have := (rows j' q' hb).2.1
          have := (sg _ ha).2
          omega
        · have := (sg _ ha).1
          have := (sg _ hb).1
          omega
    · intro acc s hp
      rw [hP] at hp
      obtain ⟨qs, rfl, lq, rows, nd, G⟩ := hp
      exact ⟨G.trans .app, qs, lstAt_new, lq, G.len, fun i q h => ⟨(rows i q h).1, by have := (rows i q h).2.1; omega, (Gr.app (a := s)).lst (rows i q h).2.2⟩, nd⟩
  obtain ⟨mm, qs, rfl, G0, g0⟩ := hp
  rw [sSeq_e, WS_seq]
  refine WS.cut (N' := fun τ s => τ = [some (eds es), some (tb t), some (tb o), some (.ref mm), none, none, none, none, none, none, none, none] ∧ LI es t o st mm qs 0 0 s) ?_ fun τ s hp => ?_
  · simp only [sSeq_e, sIf_e, sSet_e, sExpr_e, sRet_e, sRetN_e, sNil_e, sFor_e, sBrk_e, sCnt_e, sSub_e, sAsg_e, W_fin, WS_seq, WS_bindE, WS_nx, WS_rt, WS_bk, WS_ct]
    obtain ⟨q, q1, q2, q3, q4, q5⟩ := g0.row (i := t.length) (Nat.le_refl _)
    have os := oSet_ref (v := .int 0) (k := (o.length : Nat)) (j := o.length) q5 (by simp only [mrow, List.length_map, List.length_range]; exact ixN_of (by omega))
    simp [l2, l3, oIx_ref g0.top, q2, os]
    refine ⟨_, G0.put q3, g0.upd (j := o.length) q1 (some 0), fun i j hi hj => ?_⟩
    unfold updc prog ini
    have n1 : ¬ (t.length - i < 0 ∨ t.length - i = 0 ∧ o.length - j < 0) := by omega
    rw [if_neg n1]
  obtain ⟨rfl, hp⟩ := hp
  rw [sSeq_e, WS_seq]
  refine WS.cut (N' := fun τ s => (∃ a b c d e f g h, τ = [some (eds es), some (tb t), some (tb o), some (.ref mm), a, b, c, d, e, f, g, h]) ∧ LI es t o st mm qs (t.length + 1) 0 s) ?_ fun τ s hp => ?_
  · rw [sFor_e]
    simp [l3, h1]
    obtain ⟨P, hP⟩ : ∃ P : Nat → Sl → Store → Prop, P = fun k τ s => (∃ a b c d e f g h, τ = [some (eds es), some (tb t), some (tb o), some (.ref mm), a, b, c, d, e, f, g, h]) ∧ LI es t o st mm qs k 0 s := ⟨_, rfl⟩
    refine ws_rng (n := t.length + 1) P (fun _ _ _ _ => rfl) (by rw [hP]; exact ⟨⟨_, _, _, _, _, _, _, _, rfl⟩, hp⟩) ?_ ?_
    · intro k τ s hk hp
      rw [hP] at hp
      obtain ⟨⟨a, b, c, d, e, f, g, h, rfl⟩, hp⟩ := hp
      refine ⟨_, rfl, ?_⟩
      have ek : (t.length : Int) - (k : Int) = ((t.length - k : Nat) : Int) := by omega
      rw [sSeq_e, WS_seq]
      refine WS.cut (N' := fun τ s' => τ = [some (eds es), some (tb t), some (tb o), some (.ref mm), some (.int (k : Nat)), some (.int (t.length - k : Nat)), c, d, e, f, g, h] ∧ s' = s) ?_ fun τ s' hp' => ?_
      · simp only [sSeq_e, sIf_e, sSet_e, sExpr_e, sRet_e, sRetN_e, sNil_e, sFor_e, sBrk_e, sCnt_e, sSub_e, sAsg_e, W_fin, WS_seq, WS_bindE, WS_nx, WS_rt, WS_bk, WS_ct]
        simp [l3, ek]
      obtain ⟨rfl, rfl⟩ := hp'
      rw [sFor_e]
      simp [l2, h2]
      obtain ⟨P2, hP2⟩ : ∃ P : Nat → Sl → Store → Prop, P = fun l τ s => (∃ c d e f g h, τ = [some (eds es), some (tb t), some (tb o), some (.ref mm), some (.int (k : Nat)), some (.int (t.length - k : Nat)), c, d, e, f, g, h]) ∧ LI es t o st mm qs k l s := ⟨_, rfl⟩
      refine ws_rng (n := o.length + 1) P2 (fun _ _ _ _ => rfl) (by rw [hP2]; exact ⟨⟨_, _, _, _, _, _, rfl⟩, hp⟩) ?_ ?_
      · intro l τ s hl hp
        rw [hP2] at hp
        obtain ⟨⟨c, d, e, f, g, h, rfl⟩, hp⟩ := hp
        refine ⟨_, rfl, ?_⟩
        refine w_cell (c := none) (d := d) (e := e) (f := f) (g := g) (h := h) ht ho hk hl hp fun d e f g h s hp => ?_
        rw [hP2]
        exact ⟨⟨_, _, _, _, _, _, rfl⟩, hp⟩
      · intro τ s hp
        rw [hP2] at hp
        obtain ⟨⟨c, d, e, f, g, h, rfl⟩, c1, Gs, gd, hc⟩ := hp
        rw [hP]
        refine ⟨⟨_, _, _, _, _, _, _, _, rfl⟩, c1, Gs, gd, fun i j hi hj => ?_⟩
        rw [hc i j hi hj]
        unfold prog
        congr 1
        rw [eq_iff_iff]
        omega
    · intro τ s hp
      rw [hP] at hp
      exact hp
  obtain ⟨⟨a, b, c, d, e, f, g, h, rfl⟩, c1, Gs, gd, hc⟩ := hp
  simp only [sSeq_e, sIf_e, sSet_e, sExpr_e, sRet_e, sRetN_e, sNil_e, sFor_e, sBrk_e, sCnt_e, sSub_e, sAsg_e, W_fin, WS_seq, WS_bindE, WS_nx, WS_rt, WS_bk, WS_ct]
  simp
  refine hQ s mm qs c1 Gs gd fun i j hi hj => ?_
  rw [hc i j hi hj]
  unfold prog
  rw [if_pos (by omega)]
end

section
variable {ns : List Int} {st : Store} {es : List Ed} {t o : List Int}
def pthD : Option Wy → D
  | none => .non
  | some w => als w.2
theorem w_least {Q : D → Store → Prop} (ht : t.length < 1000) (ho : o.length < 1000) (hQ : ∀ s, Gr st s → Q (pthD (best es t o 0 0)) s) : W (f_least_alignment [eds es, tb t, tb o] st) Q := by
  unfold f_least_alignment
  rw [runB_e]
  unfold m_least_alignment
  have l2 : ∀ s, fLen [tb o] s = .ok (.int (o.length : Nat)) s := fun s => by simp [tb]
  have l3 : ∀ s, fLen [tb t] s = .ok (.int (t.length : Nat)) s := fun s => by simp [tb]
  rw [W_fin, sSeq_e, WS_seq]
  refine WS.cut (N' := fun τ s => ∃ mm qs c, τ = [some (eds es), some (tb t), some (tb o), some (.ref mm), none, none, none, none, none, none, none] ∧ Gr st s ∧ Gd st.length t.length o.length c s mm qs ∧ ∀ i j, i ≤ t.length → j ≤ o.length → c i j = lft es t o i j) ?_ fun τ s hp => ?_
  · rw [sSet_e, WS_bindE]
    simp [List.replicate]
    exact w_left ht ho fun s mm qs c G gd hc => ⟨mm, rfl, G, qs, c, gd, hc⟩
  obtain ⟨mm, qs, c, rfl, G0, gd, hc⟩ := hp
  obtain ⟨q, q1, q2, q3, q4, q5⟩ := gd.row (i := 0) (Nat.zero_le _)
  have v0 : atI (mrow c o.length 0) 0 = some (mkD (c 0 0)) := mrow_at (j := 0) (Nat.zero_le _)
  have q2' : atI (qs.map D.ref) 0 = some (.ref q) := q2
  rw [hc 0 0 (Nat.zero_le _) (Nat.zero_le _)] at v0
  cases hb : best es t o 0 0 with
  | none =>
    have hl : lft es t o 0 0 = none := by
      unfold lft
      rw [hb]
      rfl
    rw [hl] at v0
    refine ws_take ?_ ?_
    · simp [oIx_ref gd.top, q2', oIx_ref q5, v0, r_is]
    · simp only [sSeq_e, sIf_e, sSet_e, sExpr_e, sRet_e, sRetN_e, sNil_e, sFor_e, sBrk_e, sCnt_e, sSub_e, sAsg_e, W_fin, WS_seq, WS_bindE, WS_nx, WS_rt, WS_bk, WS_ct]
      simp
      have := hQ s G0
      rwa [hb] at this
  | some w =>
    have hl : lft es t o 0 0 = some w.1 := by
      unfold lft
      rw [hb]
      rfl
    rw [hl] at v0
    refine ws_skip ?_ ?_
    · simp [oIx_ref gd.top, q2', oIx_ref q5, v0, r_is]
    obtain ⟨F, hF⟩ : ∃ F, F = s.length := ⟨_, rfl⟩
    have mF : mm < F := by rw [hF]; exact lstAt_lt gd.top
    have qF : ∀ (i q : Nat), qs[i]? = some q → q < F := fun i q h => by rw [hF]; exact lstAt_lt (gd.rows i q h).2.2
    have lF : st.length ≤ F := by rw [hF]; exact G0.len
    refine ws_cons (N' := fun τ s' => τ = [some (eds es), some (tb t), some (tb o), some (.ref mm), some (.ref F), none, none, none, none, none, none] ∧ s' = s ++ [.lst []]) (by simp only [sSeq_e, sIf_e, sSet_e, sExpr_e, sRet_e, sRetN_e, sNil_e, sFor_e, sBrk_e, sCnt_e, sSub_e, sAsg_e, W_fin, WS_seq, WS_bindE, WS_nx, WS_rt, WS_bk, WS_ct]; simp [hF]) fun τ s' hp => ?_
    obtain ⟨rfl, rfl⟩ := hp
    refine ws_cons (N' := fun τ s' => τ = [some (eds es), some (tb t), some (tb o), some (.ref mm), some (.ref F), some (.int 0), none, none, none, none, none] ∧ s' = s ++ [.lst []]) (by simp only [sSeq_e, sIf_e, sSet_e, sExpr_e, sRet_e, sRetN_e, sNil_e, sFor_e, sBrk_e, sCnt_e, sSub_e, sAsg_e, W_fin, WS_seq, WS_bindE, WS_nx, WS_rt, WS_bk, WS_ct]; simp) fun τ s' hp => ?_
    obtain ⟨rfl, rfl⟩ := hp
    refine ws_cons (N' := fun τ s' => τ = [some (eds es), some (tb t), some (tb o), some (.ref mm), some (.ref F), some (.int 0), some (.int 0), none, none, none, none] ∧ s' = s ++ [.lst []]) (by simp only [sSeq_e, sIf_e, sSet_e, sExpr_e, sRet_e, sRetN_e, sNil_e, sFor_e, sBrk_e, sCnt_e, sSub_e, sAsg_e, W_fin, WS_seq, WS_bindE, WS_nx, WS_rt, WS_bk, WS_ct]; simp) fun τ s' hp => ?_
    obtain ⟨rfl, rfl⟩ := hp
    obtain ⟨P, hP⟩ : ∃ P : Nat → Sl → Store → Prop, P = fun n τ s => ∃ (i j : Nat) (A p : List Stp) (cc : Int) (a b c' d : Option D), τ = [some (eds es), some (tb t), some (tb o), some (.ref mm), some (.ref F), some (.int (i : Nat)), some (.int (j : Nat)), a, b, c', d] ∧ i ≤ t.length ∧ j ≤ o.length ∧ n = (t.length - i) + (o.length - j) ∧ lstAt s F = some (A.map Stp.d) ∧ best es t o i j = some (cc, p) ∧ A ++ p = w.2 ∧ A.length ≤ i + j ∧ Gr st s ∧ Gd st.length t.length o.length c s mm qs := ⟨_, rfl⟩
    refine ws_cons (N' := fun τ s => P 0 τ s) ?_ fun τ s' hp => ?_
    · refine ws_while P ?_ big (t.length + o.length) _ _ ?_ ?_
      · intro n τ s' hp
        rw [hP] at hp
        obtain ⟨i, j, A, p, cc, a, b, c', d, rfl, hi, hj, rfl, gF, hbb, hA, lA, Gs, gs⟩ := hp
        by_cases hne : i < t.length ∨ j < o.length
        · have tst : HM.tOr (tBl (eBin oLt (eVar 5) (eCB fLen (aCons (eVar 1) aNil)))) (tBl (eBin oLt (eVar 6) (eCB fLen (aCons (eVar 2) aNil)))) [some (eds es), some (tb t), some (tb o), some (.ref mm), some (.ref F), some (.int (i : Nat)), some (.int (j : Nat)), a, b, c', d] s' = .ok true s' := by
            by_cases h1 : i < t.length
            · simp [l2, l3, h1]
            · have h2 : j < o.length := by omega
              simp [l2, l3, h1, h2]
          rw [tst, W_ok, if_pos rfl, sFor_e, WS_bindE]
          simp only [iEx_e, W_bind]
          have cl : ∀ Q : D → Store → Prop, W (f_steps_from [eds es, tb t, tb o, .int (i : Nat), .int (j : Nat)] s') Q → W (eCall 5 f_steps_from (aCons (eVar 0) (aCons (eVar 1) (aCons (eVar 2) (aCons (eVar 5) (aCons (eVar 6) aNil))))) [some (eds es), some (tb t), some (tb o), some (.ref mm), some (.ref F), some (.int (i : Nat)), some (.int (j : Nat)), a, b, c', d] s') Q := fun Q h => by simpa using h
          refine cl _ (w_steps_from fun s1 m G1 g1 => ?_)
          rw [dSq_ref g1]
          simp only [ofQ_some, W_ok, items_cell]
          obtain ⟨pre, x0, post, p', e1, e2, e3, e4⟩ := best_step hi hj hne hbb
          have gs1 := gs.gr G1
          have gF1 := G1.lst gF
          obtain ⟨P2, hP2⟩ : ∃ P : Nat → Sl → Store → Prop, P = fun idx τ s => (∃ a b c' d, τ = [some (eds es), some (tb t), some (tb o), some (.ref mm), some (.ref F), some (.int (i : Nat)), some (.int (j : Nat)), a, b, c', d]) ∧ idx ≤ pre.length ∧ s = s1 := ⟨_, rfl⟩
          refine ws_map stD (stps es t o i j) rfl P2 (fun _ τ s h => ?_) (by rw [hP2]; exact ⟨⟨_, _, _, _, rfl⟩, Nat.zero_le _, rfl⟩) ?_ ?_
          · rw [hP2] at h
            rw [h.2.2]
            show (Sq.cell m _).chk s1 = true
            simp [Sq.chk, g1]
          · intro idx x τ s2 hx hp2
            rw [hP2] at hp2
            obtain ⟨⟨a, b, c', d, rfl⟩, hidx, rfl⟩ := hp2
            refine ⟨_, rfl, ?_⟩
            have hm := List.mem_of_getElem? hx
            obtain ⟨d1, d2⟩ := stps_bd (i := i) (j := j) (by omega) (by omega) x hm
            obtain ⟨r, r1, r2, r3, r4, r5⟩ := gs1.row (i := x.2.2.1) (by omega)
            have v1 : atI (mrow c o.length x.2.2.1) (x.2.2.2 : Int) = some (mkD (c x.2.2.1 x.2.2.2)) := mrow_at (by omega)
            rw [hc _ _ (by omega) (by omega)] at v1
            have ex : lft es t o x.2.2.1 x.2.2.2 = (nx es t o x).map (·.1) := rfl
            rw [ex] at v1
            obtain ⟨z, z1, z2, z3, z4, z5⟩ := gs1.row (i := i) hi
            have v2 : atI (mrow c o.length i) (j : Int) = some (mkD (c i j)) := mrow_at hj
            have eij : lft es t o i j = some cc := by
              unfold lft
              rw [hbb]
              rfl
            rw [hc _ _ hi hj, eij] at v2
            by_cases hlt : idx < pre.length
            · have hxp : x ∈ pre := by
                rw [e1, List.getElem?_append_left hlt] at hx
                exact List.mem_of_getElem? hx
              cases hn : nx es t o x with
              | none =>
                rw [hn] at v1
                simp only [sSeq_e, sIf_e, sSet_e, sExpr_e, sRet_e, sRetN_e, sNil_e, sFor_e, sBrk_e, sCnt_e, sSub_e, sAsg_e, W_fin, WS_seq, WS_bindE, WS_nx, WS_rt, WS_bk, WS_ct]
                simp [oIx_ref gs1.top, r2, oIx_ref r5, v1, r_isn]
                rw [hP2]
                exact ⟨⟨_, _, _, _, rfl⟩, hlt, rfl⟩
              | some w' =>
                rw [hn] at v1
                have hnc := e4 x hxp w' hn
                simp only [sSeq_e, sIf_e, sSet_e, sExpr_e, sRet_e, sRetN_e, sNil_e, sFor_e, sBrk_e, sCnt_e, sSub_e, sAsg_e, W_fin, WS_seq, WS_bindE, WS_nx, WS_rt, WS_bk, WS_ct]
                simp [oIx_ref gs1.top, r2, oIx_ref r5, v1, r_isn, z2, oIx_ref z5, v2, hnc, mkD]
                rw [hP2]
                exact ⟨⟨_, _, _, _, rfl⟩, hlt, rfl⟩
            · have hie : idx = pre.length := by omega
              have hx0 : x = x0 := by
                rw [e1, hie, List.getElem?_append_right (Nat.le_refl _)] at hx
                simp at hx
                exact hx.symm
              subst hx0
              rw [e3] at v1
              have hcc : cc - x.2.1 + x.2.1 = cc := by omega
              have ap := mAppend_ref (x := x.1.d) gF1 (by
                rw [List.length_map]
                omega)
              simp only [sSeq_e, sIf_e, sSet_e, sExpr_e, sRet_e, sRetN_e, sNil_e, sFor_e, sBrk_e, sCnt_e, sSub_e, sAsg_e, W_fin, WS_seq, WS_bindE, WS_nx, WS_rt, WS_bk, WS_ct]
              simp [oIx_ref gs1.top, r2, oIx_ref r5, v1, r_isn, z2, oIx_ref z5, v2, hcc, mkD, okT_ref gF1, ap]
              have adv : i + j + 1 ≤ x.2.2.1 + x.2.2.2 ∧ (t.length - x.2.2.1) + (o.length - x.2.2.2) < t.length - i + (o.length - j) := by
                rcases stps_cases hm with ⟨b1, b2, e⟩ | ⟨b1, b2, b3, e⟩ | ⟨b1, b2, e⟩ | ⟨b1, b2, b3, e⟩ <;> rw [e] <;> simp only <;> omega
              refine ⟨_, adv.2, ?_⟩
              rw [hP]
              refine ⟨x.2.2.1, x.2.2.2, A ++ [x.1], p', cc - x.2.1, _, _, _, _, rfl, by omega, by omega, rfl, ?_, e3, ?_, ?_, ?_, ?_⟩
              · rw [lstAt_set gF1]
                simp
              · rw [List.append_assoc, List.singleton_append, ← e2]
                exact hA
              · simp
                omega
              · exact (Gs.trans G1).put lF
              · refine ⟨by rw [lstAt_ne (by omega)]; exact gs1.top, gs1.len, gs1.bm, fun i' q' h' => ?_, gs1.nd⟩
                obtain ⟨y1, y2, y3⟩ := gs1.rows i' q' h'
                have := qF i' q' h'
                exact ⟨y1, y2, by rw [lstAt_ne (by omega)]; exact y3⟩
          · intro τ s2 hp2
            rw [hP2] at hp2
            have := congrArg List.length e1
            simp at this
            omega
        · have tst : HM.tOr (tBl (eBin oLt (eVar 5) (eCB fLen (aCons (eVar 1) aNil)))) (tBl (eBin oLt (eVar 6) (eCB fLen (aCons (eVar 2) aNil)))) [some (eds es), some (tb t), some (tb o), some (.ref mm), some (.ref F), some (.int (i : Nat)), some (.int (j : Nat)), a, b, c', d] s' = .ok false s' := by
            have h1 : ¬ i < t.length := by omega
            have h2 : ¬ j < o.length := by omega
            simp [l2, l3, h1, h2]
          rw [tst, W_ok]
          simp only [Bool.false_eq_true, if_false]
          rw [hP]
          exact ⟨i, j, A, p, cc, a, b, c', d, rfl, hi, hj, by omega, gF, hbb, hA, lA, Gs, gs⟩
      · exact Nat.lt_of_lt_of_le (m := 2000) (by omega) (le_big (k := 11) (by decide) (by decide))
      · rw [hP]
        exact ⟨0, 0, [], w.2, w.1, none, none, none, none, rfl, Nat.zero_le _, Nat.zero_le _, by omega, by rw [hF]; exact lstAt_new, hb, rfl, by simp, G0.trans .app, gd.gr .app⟩
    · rw [hP] at hp
      obtain ⟨i, j, A, p, cc, a, b, c', d, rfl, hi, hj, hn, gF, hbb, hA, lA, Gs, gs⟩ := hp
      have e1 : i = t.length := by omega
      have e2 : j = o.length := by omega
      subst e1 e2
      rw [best_end] at hbb
      cases hbb
      rw [List.append_nil] at hA
      simp only [sSeq_e, sIf_e, sSet_e, sExpr_e, sRet_e, sRetN_e, sNil_e, sFor_e, sBrk_e, sCnt_e, sSub_e, sAsg_e, W_fin, WS_seq, WS_bindE, WS_nx, WS_rt, WS_bk, WS_ct]
      simp [fTuple_ref gF]
      have := hQ s' Gs
      rw [hb] at this
      rw [hA]
      exact this
end

section
variable {ns : List Int} {st : Store} {es : List Ed} {t o : List Int}
theorem r_ahead {s : Stp} {c : Int} {w : Option Wy} (hw : ∀ v, w = some v → v.2.length ≤ 1000) : f__law_ahead [s.d, .int c, owD w] st = .ok (owD (w.map fun w => (w.1 + c, s :: w.2))) st := by
  unfold f__law_ahead
  rw [runB_e]
  unfold m__law_ahead
  cases w with
  | none => simp [owD]
  | some w =>
    have := hw w rfl
    simp [owD, wyD, als]
    omega
def aho (b : Bool) (s : Stp) (c : Int) (w : Option Wy) : List (Option Wy) := if b then [w.map fun w => (w.1 + c, s :: w.2)] else []
theorem aho_ah {p : Prop} [Decidable p] {s : Stp} {c : Int} {w : Option Wy} : ((aho (decide p) s c w).filter Option.isSome).map owD = (if p then ah s c w else []).map wyD := by
  unfold aho ah
  by_cases h : p
  · simp only [h, decide_true, if_true]
    cases w <;> simp [owD]
  · simp [h]
theorem aho_len {b : Bool} {s : Stp} {c : Int} {w : Option Wy} : (aho b s c w).length ≤ 1 := by
  unfold aho
  split <;> simp
theorem w_ways {i j kn : Nat} {dn rt bo : Option Wy} {Q : D → Store → Prop} (K : Kn es st kn) (hdn : ∀ v, dn = some v → v.2.length ≤ 1000) (hrt : ∀ v, rt = some v → v.2.length ≤ 1000) (hbo : ∀ v, bo = some v → v.2.length ≤ 1000)
    (hQ : ∀ s m, Gr st s → st.length ≤ m → lstAt s m = some ((ways es t o i j dn rt bo).map wyD) → Q (.ref m) s) : W (f__law_ways [.ref kn, tb t, tb o, .int (i : Nat), .int (j : Nat), owD dn, owD rt, owD bo] st) Q := by
  unfold f__law_ways
  rw [runB_e]
  unfold m__law_ways
  have l2 : ∀ s, fLen [tb o] s = .ok (.int (o.length : Nat)) s := fun s => by simp [tb]
  have l3 : ∀ s, fLen [tb t] s = .ok (.int (t.length : Nat)) s := fun s => by simp [tb]
  have x2 : ∀ s, j < o.length → oIx (tb o) (.int (j : Nat)) s = .ok (.int (o.getD j 0)) s := fun s h => by
    show oIx (.tup (o.map D.int)) _ s = _
    rw [oIx_tup, atI_at h]
    rfl
  have x3 : ∀ s, i < t.length → oIx (tb t) (.int (i : Nat)) s = .ok (.int (t.getD i 0)) s := fun s h => by
    show oIx (.tup (t.map D.int)) _ s = _
    rw [oIx_tup, atI_at h]
    rfl
  obtain ⟨T, hT⟩ : ∃ T : Sl, T = [some (.ref kn), some (tb t), some (tb o), some (.int (i : Nat)), some (.int (j : Nat)), some (owD dn), some (owD rt), some (owD bo), some (.ref st.length), none] := ⟨_, rfl⟩
  obtain ⟨P, hP⟩ : ∃ P : List (Option Wy) → Sl → Store → Prop, P = fun l τ s => τ = T ∧ lstAt s st.length = some (l.map owD) ∧ Gr st s := ⟨_, rfl⟩
  have add : ∀ (l : List (Option Wy)) (y : Option Wy) (s : Store), l.length ≤ 10 → lstAt s st.length = some (l.map owD) → Gr st s → ∃ s', mAppend (.ref st.length) [owD y] s = .ok .non s' ∧ P (l ++ [y]) T s' := fun l y s hl g G => by
    have := mAppend_ref (x := owD y) g (by simp; omega)
    rw [hP]
    exact ⟨_, this, rfl, by rw [lstAt_set g]; simp, G.put (Nat.le_refl _)⟩
  obtain ⟨L1, hL1⟩ : ∃ L, L = aho (decide (i < t.length ∧ Ed.cut (t.getD i 0) ∈ es)) (.ed (.cut (t.getD i 0))) 1 dn := ⟨_, rfl⟩
  have lL1 : L1.length ≤ 1 := by rw [hL1]; exact aho_len
  obtain ⟨L2, hL2⟩ : ∃ L, L = aho (decide (i < t.length ∧ j < o.length ∧ t.getD i 0 = o.getD j 0)) (.keep (t.getD i 0)) 0 bo := ⟨_, rfl⟩
  have lL2 : L2.length ≤ 1 := by rw [hL2]; exact aho_len
  obtain ⟨L3, hL3⟩ : ∃ L, L = aho (decide (j < o.length ∧ Ed.put (o.getD j 0) ∈ es)) (.ed (.put (o.getD j 0))) 1 rt := ⟨_, rfl⟩
  have lL3 : L3.length ≤ 1 := by rw [hL3]; exact aho_len
  obtain ⟨L4, hL4⟩ : ∃ L, L = aho (decide (i < t.length ∧ j < o.length ∧ Ed.turn (t.getD i 0) (o.getD j 0) ∈ es)) (.ed (.turn (t.getD i 0) (o.getD j 0))) 1 bo := ⟨_, rfl⟩
  have lL4 : L4.length ≤ 1 := by rw [hL4]; exact aho_len
  rw [W_fin, sSeq_e, WS_seq]
  refine WS.cut (N' := P []) (by simp only [sSeq_e, sIf_e, sSet_e, sExpr_e, sRet_e, sRetN_e, sNil_e, sFor_e, sBrk_e, sCnt_e, sSub_e, sAsg_e, W_fin, WS_seq, WS_bindE, WS_nx, WS_rt, WS_bk, WS_ct]; rw [hP, hT]; simp [List.replicate, Gr.app]) fun τ s' hp => ?_
  rw [sSeq_e, WS_seq]
  refine WS.cut (N' := P (L1)) ?_ fun τ s1 hp => ?_
  · rw [hP] at hp
    obtain ⟨rfl, g, G⟩ := hp
    have K1 : Kn es s' kn := K.gr G
    have ra := r_ahead (st := s') (s := .ed (.cut (t.getD i 0))) (c := 1) (w := dn) hdn
    rw [show (.ed (.cut (t.getD i 0)) : Stp).d = .tup [.str [99, 117, 116], .int (t.getD i 0)] from rfl] at ra
    simp only [sSeq_e, sIf_e, sSet_e, sExpr_e, sRet_e, sRetN_e, sNil_e, sFor_e, sBrk_e, sCnt_e, sSub_e, sAsg_e, W_fin, WS_seq, WS_bindE, WS_nx, WS_rt, WS_bk, WS_ct]
    by_cases c1 : i < t.length
    · have e1 := fun s => x3 s c1
      by_cases c2 : Ed.cut (t.getD i 0) ∈ es
      · skip
        obtain ⟨Y, hY⟩ : ∃ Y, Y = Option.map (fun w : Wy => (w.1 + 1, (.ed (.cut (t.getD i 0)) : Stp) :: w.2)) dn := ⟨_, rfl⟩
        have eL : L1 = [Y] := by rw [hL1, hY]; unfold aho; rw [decide_eq_true ⟨c1, c2⟩]; rfl
        rw [← hY] at ra
        obtain ⟨s'', a1, a2⟩ := add ([]) Y _ (by first | (simp only [List.length_append, List.length_nil]; omega) | omega) g G
        rw [eL]
        simp only [List.nil_append, hT] at a2 ⊢
        simp [-List.getD_eq_getElem?_getD, -List.append_assoc, l2, l3, c1, c2, e1, kn_cut K1, kn_put K1, kn_turn K1, okT_ref g, ra, a1]
        exact a2
      · rw [show L1 = [] from by rw [hL1]; unfold aho; rw [decide_eq_false (fun z => c2 z.2)]; rfl, hP]
        simp only [hT]
        simp [-List.getD_eq_getElem?_getD, l2, l3, c1, c2, e1, kn_cut K1, kn_put K1, kn_turn K1, g, G]
    · rw [show L1 = [] from by rw [hL1]; unfold aho; rw [decide_eq_false (fun z => c1 z.1)]; rfl, hP]
      simp only [hT]
      simp [-List.getD_eq_getElem?_getD, l2, l3, c1, kn_cut K1, kn_put K1, kn_turn K1, g, G]
  rw [sSeq_e, WS_seq]
  refine WS.cut (N' := P (L1 ++ L2)) ?_ fun τ s2 hp => ?_
  · rw [hP] at hp
    obtain ⟨rfl, g, G⟩ := hp
    have K1 : Kn es s1 kn := K.gr G
    have ra := r_ahead (st := s1) (s := .keep (t.getD i 0)) (c := 0) (w := bo) hbo
    rw [show (.keep (t.getD i 0) : Stp).d = .tup [.str [107, 101, 101, 112], .int (t.getD i 0)] from rfl] at ra
    simp only [sSeq_e, sIf_e, sSet_e, sExpr_e, sRet_e, sRetN_e, sNil_e, sFor_e, sBrk_e, sCnt_e, sSub_e, sAsg_e, W_fin, WS_seq, WS_bindE, WS_nx, WS_rt, WS_bk, WS_ct]
    by_cases c1 : i < t.length
    · have e1 := fun s => x3 s c1
      by_cases c2 : j < o.length
      · have e2 := fun s => x2 s c2
        by_cases c3 : t.getD i 0 = o.getD j 0
        · skip
          obtain ⟨Y, hY⟩ : ∃ Y, Y = Option.map (fun w : Wy => (w.1 + 0, (.keep (t.getD i 0) : Stp) :: w.2)) bo := ⟨_, rfl⟩
          have eL : L2 = [Y] := by rw [hL2, hY]; unfold aho; rw [decide_eq_true ⟨c1, c2, c3⟩]; rfl
          rw [← hY] at ra
          obtain ⟨s'', a1, a2⟩ := add (L1) Y _ (by first | (simp only [List.length_append, List.length_nil]; omega) | omega) g G
          rw [eL]
          rw [c3] at e1 ra
          simp only [List.nil_append, hT] at a2 ⊢
          simp [-List.getD_eq_getElem?_getD, -List.append_assoc, l2, l3, c1, c2, e1, e2, kn_cut K1, kn_put K1, kn_turn K1, okT_ref g, ra, a1]
          exact a2
        · rw [show L2 = [] from by rw [hL2]; unfold aho; rw [decide_eq_false (fun z => c3 z.2.2)]; rfl, hP]
          simp only [hT]
          simp [-List.getD_eq_getElem?_getD, l2, l3, c1, c2, c3, e1, e2, kn_cut K1, kn_put K1, kn_turn K1, g, G]
      · rw [show L2 = [] from by rw [hL2]; unfold aho; rw [decide_eq_false (fun z => c2 z.2.1)]; rfl, hP]
        simp only [hT]
        simp [-List.getD_eq_getElem?_getD, l2, l3, c1, c2, e1, kn_cut K1, kn_put K1, kn_turn K1, g, G]
    · rw [show L2 = [] from by rw [hL2]; unfold aho; rw [decide_eq_false (fun z => c1 z.1)]; rfl, hP]
      simp only [hT]
      simp [-List.getD_eq_getElem?_getD, l2, l3, c1, kn_cut K1, kn_put K1, kn_turn K1, g, G]
  rw [sSeq_e, WS_seq]
  refine WS.cut (N' := P (L1 ++ L2 ++ L3)) ?_ fun τ s3 hp => ?_
  · rw [hP] at hp
    obtain ⟨rfl, g, G⟩ := hp
    have K1 : Kn es s2 kn := K.gr G
    have ra := r_ahead (st := s2) (s := .ed (.put (o.getD j 0))) (c := 1) (w := rt) hrt
    rw [show (.ed (.put (o.getD j 0)) : Stp).d = .tup [.str [112, 117, 116], .int (o.getD j 0)] from rfl] at ra
    simp only [sSeq_e, sIf_e, sSet_e, sExpr_e, sRet_e, sRetN_e, sNil_e, sFor_e, sBrk_e, sCnt_e, sSub_e, sAsg_e, W_fin, WS_seq, WS_bindE, WS_nx, WS_rt, WS_bk, WS_ct]
    by_cases c1 : j < o.length
    · have e2 := fun s => x2 s c1
      by_cases c2 : Ed.put (o.getD j 0) ∈ es
      · skip
        obtain ⟨Y, hY⟩ : ∃ Y, Y = Option.map (fun w : Wy => (w.1 + 1, (.ed (.put (o.getD j 0)) : Stp) :: w.2)) rt := ⟨_, rfl⟩
        have eL : L3 = [Y] := by rw [hL3, hY]; unfold aho; rw [decide_eq_true ⟨c1, c2⟩]; rfl
        rw [← hY] at ra
        obtain ⟨s'', a1, a2⟩ := add (L1 ++ L2) Y _ (by first | (simp only [List.length_append, List.length_nil]; omega) | omega) g G
        rw [eL]
        simp only [List.nil_append, hT] at a2 ⊢
        simp [-List.getD_eq_getElem?_getD, -List.append_assoc, l2, l3, c1, c2, e2, kn_cut K1, kn_put K1, kn_turn K1, okT_ref g, ra, a1]
        exact a2
      · rw [show L3 = [] from by rw [hL3]; unfold aho; rw [decide_eq_false (fun z => c2 z.2)]; rfl, hP]
        simp only [hT]
        simp [-List.getD_eq_getElem?_getD, l2, l3, c1, c2, e2, kn_cut K1, kn_put K1, kn_turn K1, g, G]
    · rw [show L3 = [] from by rw [hL3]; unfold aho; rw [decide_eq_false (fun z => c1 z.1)]; rfl, hP]
      simp only [hT]
      simp [-List.getD_eq_getElem?_getD, l2, l3, c1, kn_cut K1, kn_put K1, kn_turn K1, g, G]
  rw [sSeq_e, WS_seq]
  refine WS.cut (N' := P (L1 ++ L2 ++ L3 ++ L4)) ?_ fun τ s4 hp => ?_
  · rw [hP] at hp
    obtain ⟨rfl, g, G⟩ := hp
    have K1 : Kn es s3 kn := K.gr G
    have ra := r_ahead (st := s3) (s := .ed (.turn (t.getD i 0) (o.getD j 0))) (c := 1) (w := bo) hbo
    rw [show (.ed (.turn (t.getD i 0) (o.getD j 0)) : Stp).d = .tup [.str [116, 117, 114, 110], .int (t.getD i 0), .int (o.getD j 0)] from rfl] at ra
    simp only [sSeq_e, sIf_e, sSet_e, sExpr_e, sRet_e, sRetN_e, sNil_e, sFor_e, sBrk_e, sCnt_e, sSub_e, sAsg_e, W_fin, WS_seq, WS_bindE, WS_nx, WS_rt, WS_bk, WS_ct]
    by_cases c1 : i < t.length
    · have e1 := fun s => x3 s c1
      by_cases c2 : j < o.length
      · have e2 := fun s => x2 s c2
        by_cases c3 : Ed.turn (t.getD i 0) (o.getD j 0) ∈ es
        · skip
          obtain ⟨Y, hY⟩ : ∃ Y, Y = Option.map (fun w : Wy => (w.1 + 1, (.ed (.turn (t.getD i 0) (o.getD j 0)) : Stp) :: w.2)) bo := ⟨_, rfl⟩
          have eL : L4 = [Y] := by rw [hL4, hY]; unfold aho; rw [decide_eq_true ⟨c1, c2, c3⟩]; rfl
          rw [← hY] at ra
          obtain ⟨s'', a1, a2⟩ := add (L1 ++ L2 ++ L3) Y _ (by first | (simp only [List.length_append, List.length_nil]; omega) | omega) g G
          rw [eL]
          simp only [List.nil_append, hT] at a2 ⊢
          simp [-List.getD_eq_getElem?_getD, -List.append_assoc, l2, l3, c1, c2, c3, e1, e2, kn_cut K1, kn_put K1, kn_turn K1, okT_ref g, ra, a1]
          exact a2
        · rw [show L4 = [] from by rw [hL4]; unfold aho; rw [decide_eq_false (fun z => c3 z.2.2)]; rfl, hP]
          simp only [hT]
          simp [-List.getD_eq_getElem?_getD, l2, l3, c1, c2, c3, e1, e2, kn_cut K1, kn_put K1, kn_turn K1, g, G]
      · rw [show L4 = [] from by rw [hL4]; unfold aho; rw [decide_eq_false (fun z => c2 z.2.1)]; rfl, hP]
        simp only [hT]
        simp [-List.getD_eq_getElem?_getD, l2, l3, c1, c2, e1, kn_cut K1, kn_put K1, kn_turn K1, g, G]
    · rw [show L4 = [] from by rw [hL4]; unfold aho; rw [decide_eq_false (fun z => c1 z.1)]; rfl, hP]
      simp only [hT]
      simp [-List.getD_eq_getElem?_getD, l2, l3, c1, kn_cut K1, kn_put K1, kn_turn K1, g, G]
  rw [hP] at hp
  obtain ⟨rfl, g, G⟩ := hp
  obtain ⟨L, hL⟩ : ∃ L, L = L1 ++ L2 ++ L3 ++ L4 := ⟨_, rfl⟩
  have lL : L.length ≤ 4 := by
    rw [hL]
    simp only [List.length_append]
    omega
  rw [← hL] at g
  simp only [sSeq_e, sIf_e, sSet_e, sExpr_e, sRet_e, sRetN_e, sNil_e, sFor_e, sBrk_e, sCnt_e, sSub_e, sAsg_e, W_fin, WS_seq, WS_bindE, WS_nx, WS_rt, WS_bk, WS_ct]
  simp [hT, lComp_e, dSq_ref g]
  refine w_lc (by show (L.map owD).length ≤ _; rw [List.length_map]; omega) ?_
  refine w_fil owD owD Option.isSome L rfl (by show (Sq.cell _ _).chk _ = true; simp [Sq.chk, g]) (fun w _ => ⟨_, rfl, by cases w <;> simp [owD, wyD, wipeD]⟩) ?_
  have e : (L.filter Option.isSome).map owD = (ways es t o i j dn rt bo).map wyD := by
    rw [hL, hL1, hL2, hL3, hL4]
    unfold ways
    simp only [List.filter_append, List.map_append, aho_ah, List.append_assoc]
  rw [e]
  exact hQ _ _ (G.trans .app) G.len lstAt_new
end

/-! min of the ways -/
def nm : Stp → List Nat
  | .keep _ => [107, 101, 101, 112]
  | .ed (.cut _) => [99, 117, 116]
  | .ed (.put _) => [112, 117, 116]
  | .ed (.turn _ _) => [116, 117, 114, 110]
def rk : Stp → Nat
  | .ed (.cut _) => 0
  | .keep _ => 1
  | .ed (.put _) => 2
  | .ed (.turn _ _) => 3
theorem nm_rk {a b : Stp} (h : rk a < rk b) : nm b ≠ nm a ∧ PyProof.Rows.itemOrd.blt (.inr (nm b)) (.inr (nm a)) = false := by
  cases a with
  | keep k =>
    cases b with
    | keep k' => simp [rk] at h
    | ed e => cases e <;> first | (simp [rk] at h; done) | exact ⟨by simp [nm], rfl⟩
  | ed e =>
    cases e <;> cases b with
    | keep k' => first | (simp [rk] at h; done) | exact ⟨by simp [nm], rfl⟩
    | ed e' => cases e' <;> first | (simp [rk] at h; done) | exact ⟨by simp [nm], rfl⟩
theorem toks_way {c : Int} {s : Stp} {p : List Stp} : ∃ R, PySem.W.keyToks ((wyD (c, s :: p)).toP 60) = .inl 1 :: .inl c :: .inl 1 :: .inl 1 :: .inl 1 :: .inr (nm s) :: R := by
  cases s with
  | keep k => exact ⟨_, by simp [wyD, als, Stp.d, D.toP, PySem.W.keyToks, PySem.W.keyToksAll, nm]; rfl⟩
  | ed e => cases e <;> exact ⟨_, by simp [wyD, als, Stp.d, Ed.d, D.toP, PySem.W.keyToks, PySem.W.keyToksAll, nm]; rfl⟩
theorem lt_way {c c' : Int} {s s' : Stp} {p p' : List Stp} (h : rk s < rk s') : PySem.W.dataLt ((wyD (c', s' :: p')).toP 60) ((wyD (c, s :: p)).toP 60) = decide (c' < c) := by
  obtain ⟨R, e1⟩ := toks_way (c := c) (s := s) (p := p)
  obtain ⟨R', e2⟩ := toks_way (c := c') (s := s') (p := p')
  obtain ⟨h1, h2⟩ := nm_rk h
  unfold PySem.W.dataLt
  rw [e1, e2]
  refine (PyProof.Rows.lex_self (O := PyProof.Rows.itemOrd) _ _ _).trans ?_
  by_cases hc : c' = c
  · subst hc
    refine (PyProof.Rows.lex_self (O := PyProof.Rows.itemOrd) _ _ _).trans ?_
    refine (PyProof.Rows.lex_self (O := PyProof.Rows.itemOrd) _ _ _).trans ?_
    refine (PyProof.Rows.lex_self (O := PyProof.Rows.itemOrd) _ _ _).trans ?_
    refine (PyProof.Rows.lex_self (O := PyProof.Rows.itemOrd) _ _ _).trans ?_
    refine (PyProof.Rows.lex_diff (O := PyProof.Rows.itemOrd) (fun e => h1 (Sum.inr.inj e))).trans ?_
    rw [h2]
    simp
  · refine (PyProof.Rows.lex_diff (O := PyProof.Rows.itemOrd) (fun e => hc (Sum.inl.inj e))).trans ?_
    rfl
/-- the first steps stand in order -/
def RW (x y : Wy) : Prop := ∃ s p s' p', x.2 = s :: p ∧ y.2 = s' :: p' ∧ rk s < rk s'
theorem lt_RW {x y : Wy} (h : RW x y) : PySem.W.dataLt ((wyD y).toP 60) ((wyD x).toP 60) = decide (y.1 < x.1) := by
  obtain ⟨s, p, s', p', h1, h2, h3⟩ := h
  have e1 : x = (x.1, s :: p) := by rw [← h1]
  have e2 : y = (y.1, s' :: p') := by rw [← h2]
  rw [e1, e2]
  exact lt_way h3
theorem minIx_ways {ws : List Wy} (hp : ws.Pairwise RW) (h0 : 0 < ws.length) : ∃ w, fm ws = some w ∧ (ws.map wyD)[minIx (ws.map wyD)]? = some (wyD w) := by
  obtain ⟨bt, hbt⟩ : ∃ bt : Nat → Nat → Bool, bt = fun i j => PySem.W.dataLt (((ws.map wyD).getD i .non).toP 60) (((ws.map wyD).getD j .non).toP 60) := ⟨_, rfl⟩
  have hbe : ∀ i j, bt i j = PySem.W.dataLt (((ws.map wyD).getD i .non).toP 60) (((ws.map wyD).getD j .non).toP 60) := fun i j => by rw [hbt]
  have key : ∀ k, k < ws.length → ∃ w, ws[PySem.argBest bt k]? = some w ∧ fm (ws.take (k + 1)) = some w ∧ PySem.argBest bt k ≤ k := fun k => by
    induction k with
    | zero =>
      intro hk
      refine ⟨ws[0], by simp [PySem.argBest], ?_, Nat.le_refl _⟩
      rw [List.take_succ, List.getElem?_eq_getElem hk]
      rfl
    | succ k ih =>
      intro hk
      obtain ⟨w, h1, h2, h3⟩ := ih (by omega)
      have ek := List.getElem?_eq_getElem hk
      have et : ws.take (k + 1 + 1) = ws.take (k + 1) ++ [ws[k + 1]] := by
        rw [List.take_succ, ek]
        rfl
      have hj : PySem.argBest bt k < ws.length := by omega
      have hw : ws[PySem.argBest bt k] = w := by
        rw [List.getElem?_eq_getElem hj] at h1
        exact Option.some.inj h1
      have hr : RW w ws[k + 1] := by
        rw [← hw]
        exact List.pairwise_iff_getElem.mp hp _ _ hj hk (by omega)
      have hb : bt (k + 1) (PySem.argBest bt k) = decide (ws[k + 1].1 < w.1) := by
        rw [hbe]
        simp only [List.getD_eq_getElem?_getD, List.getElem?_map, ek, h1, Option.map_some, Option.getD_some]
        exact lt_RW hr
      rw [et, fm_app, h2]
      unfold fmS
      simp only [PySem.argBest, hb, decide_eq_true_eq]
      by_cases hlt : ws[k + 1].1 < w.1
      · rw [if_pos hlt, if_pos hlt]
        exact ⟨_, ek, rfl, Nat.le_refl _⟩
      · rw [if_neg hlt, if_neg hlt]
        exact ⟨w, h1, rfl, by omega⟩
  obtain ⟨w, h1, h2, h3⟩ := key (ws.length - 1) (by omega)
  refine ⟨w, ?_, ?_⟩
  · rw [List.take_of_length_le (by omega)] at h2
    exact h2
  · have : minIx (ws.map wyD) = PySem.argBest bt (ws.length - 1) := by
      unfold minIx
      rw [hbt, List.length_map]
    rw [this, List.getElem?_map, h1]
    rfl
theorem alike_stp {a b : Stp} : PySem.W.alike (a.d.toP 58) (b.d.toP 58) = true := by
  cases a with
  | keep k =>
    cases b with
    | keep k' => simp [Stp.d, D.toP, PySem.W.alike, PySem.W.alikeAll]
    | ed e => cases e <;> simp [Stp.d, Ed.d, D.toP, PySem.W.alike, PySem.W.alikeAll]
  | ed e =>
    cases b with
    | keep k' => cases e <;> simp [Stp.d, Ed.d, D.toP, PySem.W.alike, PySem.W.alikeAll]
    | ed e' => cases e <;> cases e' <;> simp [Stp.d, Ed.d, D.toP, PySem.W.alike, PySem.W.alikeAll]
theorem alike_stps : ∀ {p q : List Stp}, PySem.W.alikeAll ((p.map Stp.d).map (D.toP 58)) ((q.map Stp.d).map (D.toP 58)) = true
  | [], _ => by simp [PySem.W.alikeAll]
  | _ :: _, [] => by simp [PySem.W.alikeAll]
  | a :: p, b :: q => by
    simp only [List.map_cons, PySem.W.alikeAll, alike_stp, Bool.true_and]
    exact alike_stps
theorem way_alike {x y : Wy} : PySem.W.alike ((wyD x).toP 60) ((wyD y).toP 60) = true := by
  have e : ∀ z : Wy, (wyD z).toP 60 = .tuple [.int z.1, .tuple ((z.2.map Stp.d).map (D.toP 58))] := fun z => rfl
  rw [e, e]
  simp only [PySem.W.alike, PySem.W.alikeAll, alike_stps, Bool.and_self]
theorem stp_plain {a : Stp} : a.d.plain 58 = true := by
  cases a with
  | keep k => rfl
  | ed e => cases e <;> rfl
theorem als_plain {p : List Stp} : (als p).plain 59 = true := by
  show ((p.map Stp.d).all (D.plain 58)) = true
  simp [stp_plain]
theorem way_plain {x : Wy} : (wyD x).plain 60 = true := by
  show (([.int x.1, als x.2] : List D).all (D.plain 59)) = true
  simp only [List.all_cons, als_plain, List.all_nil, Bool.and_true]
  rfl
theorem gmin_ways {ws : List Wy} {st : Store} (hp : ws.Pairwise RW) (h0 : 0 < ws.length) : ∃ w, fm ws = some w ∧ gMinT (ws.map wyD) st = .ok (wyD w) st := by
  obtain ⟨w, h1, h2⟩ := minIx_ways hp h0
  refine ⟨w, h1, ?_⟩
  have hm : minable (ws.map wyD) = true := by
    unfold minable
    simp only [Bool.and_eq_true, List.all_map, List.all_eq_true, Function.comp]
    exact ⟨⟨fun x _ => rfl, fun x _ => way_plain⟩, fun x _ y _ => way_alike⟩
  have hi : intsD (ws.map wyD) = none := by
    cases ws with
    | nil => cases h0
    | cons x r => rfl
  unfold gMinT
  rw [hi, hm, h2]
  rfl
theorem ways_pw {es : List Ed} {t o : List Int} {i j : Nat} {d r c : Option Wy} : (ways es t o i j d r c ++ wend t o i j).Pairwise RW := by
  have mem : ∀ {s : Stp} {q : Int} {b : Option Wy} {x : Wy}, x ∈ ah s q b → ∃ p, x.2 = s :: p := fun {s q b x} h => by
    unfold ah at h
    split at h
    · cases h
    · rw [List.mem_singleton.mp h]
      exact ⟨_, rfl⟩
  by_cases he : i = t.length ∧ j = o.length
  · have : ways es t o i j d r c = [] := by
      unfold ways
      rw [if_neg (by omega), if_neg (by omega), if_neg (by omega), if_neg (by omega)]
      rfl
    rw [this]
    unfold wend
    rw [if_pos he]
    simp
  · have : wend t o i j = [] := by
      unfold wend
      rw [if_neg he]
    rw [this, List.append_nil]
    unfold ways
    have pw : ∀ {p : Prop} [Decidable p] {s : Stp} {q : Int} {b : Option Wy}, (if p then ah s q b else []).Pairwise RW := fun {p _ s q b} => by
      split
      · unfold ah
        split <;> simp
      · exact .nil
    have hd : ∀ {p : Prop} [Decidable p] {s : Stp} {q : Int} {b : Option Wy} {x : Wy}, x ∈ (if p then ah s q b else []) → ∃ p, x.2 = s :: p := fun {p _ s q b x} h => by
      split at h
      · exact mem h
      · cases h
    refine List.pairwise_append.mpr ⟨pw, List.pairwise_append.mpr ⟨pw, List.pairwise_append.mpr ⟨pw, pw, fun x hx y hy => ?_⟩, fun x hx y hy => ?_⟩, fun x hx y hy => ?_⟩
    · obtain ⟨p, e1⟩ := hd hx
      obtain ⟨p', e2⟩ := hd hy
      exact ⟨_, _, _, _, e1, e2, by simp [rk]⟩
    · obtain ⟨p, e1⟩ := hd hx
      rcases List.mem_append.mp hy with hy | hy <;> obtain ⟨p', e2⟩ := hd hy <;> exact ⟨_, _, _, _, e1, e2, by simp [rk]⟩
    · obtain ⟨p, e1⟩ := hd hx
      rcases List.mem_append.mp hy with hy | hy
      · obtain ⟨p', e2⟩ := hd hy
        exact ⟨_, _, _, _, e1, e2, by simp [rk]⟩
      · rcases List.mem_append.mp hy with hy | hy <;> obtain ⟨p', e2⟩ := hd hy <;> exact ⟨_, _, _, _, e1, e2, by simp [rk]⟩

/-! the law's best -/
theorem ways_congr {es : List Ed} {t o : List Int} {i j : Nat} {d r c d' r' c' : Option Wy} (h1 : i < t.length → d = d') (h2 : j < o.length → r = r') (h3 : i < t.length → j < o.length → c = c') : ways es t o i j d r c = ways es t o i j d' r' c' := by
  unfold ways
  by_cases a : i < t.length
  · by_cases b : j < o.length
    · rw [h1 a, h2 b, h3 a b]
    · rw [h1 a]
      simp [b]
  · by_cases b : j < o.length
    · rw [h2 b]
      simp [a]
    · simp [a, b]
theorem stp_len : ∀ {A : List Stp}, A.length ≤ (A.flatMap sd1).length + (A.flatMap sd2).length
  | [] => by simp
  | a :: A => by
    have := stp_len (A := A)
    have h : 1 ≤ (sd1 a).length + (sd2 a).length := by cases a with | keep k => simp [sd1] | ed e => cases e <;> simp [sd1, sd2]
    simp only [List.flatMap_cons, List.length_append, List.length_cons]
    omega
theorem best_len {es : List Ed} {t o : List Int} {i j : Nat} {v : Wy} (hi : i ≤ t.length) (hj : j ≤ o.length) (h : best es t o i j = some v) : v.2.length ≤ t.length + o.length := by
  obtain ⟨a1, a2, _⟩ := best_sound (c := v.1) (p := v.2) _ _ _ rfl hi hj h
  have := stp_len (A := v.2)
  rw [a1, a2, List.length_drop, List.length_drop] at this
  omega
theorem oSeq_ref {st : Store} {n : Nat} {xs : List D} (h : lstAt st n = some xs) : oSeq (.ref n) st = .ok xs st := by simp [oSeq, dSeq, h]
def brow (m : Nat) (f : Nat → Option Wy) : List D := (List.range (m + 2)).map fun j => owD (f j)
theorem brow_at {m j : Nat} {f : Nat → Option Wy} (h : j < m + 2) : atI (brow m f) (j : Int) = some (owD (f j)) := atI_row h
theorem brow_set {m j : Nat} {f : Nat → Option Wy} {v : Option Wy} : (brow m f).set j (owD v) = brow m fun k => if k = j then v else f k := by
  refine List.ext_getElem? fun k => ?_
  unfold brow
  rw [List.getElem?_set]
  by_cases hk : k < m + 2
  · by_cases e : j = k
    · subst e
      simp [hk]
    · have : ¬ k = j := fun h => e h.symm
      simp [hk, e, this]
  · by_cases e : j = k
    · subst e
      simp [hk]
    · simp [hk, e]
def fB (es : List Ed) (t o : List Int) (k j : Nat) : Option Wy := if 0 < k ∧ j ≤ o.length then best es t o (t.length - (k - 1)) j else none
def fL (es : List Ed) (t o : List Int) (k l j : Nat) : Option Wy := if j ≤ o.length ∧ o.length - j < l then best es t o (t.length - k) j else none
section
variable {st : Store} {es : List Ed} {t o : List Int}
/-- what stands when k rows and l places are done -/
structure BI (es : List Ed) (t o : List Int) (st : Store) (kn bl lr k l : Nat) (s : Store) : Prop where
  gr : Gr st s
  jk : Kn es s kn
  jb : lstAt s bl = some (brow o.length (fB es t o k))
  jl : lstAt s lr = some (brow o.length (fL es t o k l))
  n1 : bl ≠ lr
  n2 : kn ≠ lr
  n3 : st.length ≤ lr
abbrev u_bcell : SM := sSeq (sSet 10 (eBin oSub (eCB fLen (aCons (eVar 2) aNil)) (eVar 9)))
    (sSeq (sSet 11 (eCall 8 f__law_ways (aCons (eVar 3) (aCons (eVar 1) (aCons (eVar 2) (aCons (eVar 7) (aCons (eVar 10) (aCons (eBin oIx (eVar 5) (eVar 10)) (aCons (eBin oIx (eVar 8) (eBin oAdd (eVar 10) (eC (.int 1)))) (aCons (eBin oIx (eVar 5) (eBin oAdd (eVar 10) (eC (.int 1)))) aNil))))))))))
    (sSeq (sIf (tBl (eBin oEq (eBin oAdd (eVar 6) (eVar 9)) (eC (.int 0)))) (sExpr (eM "list" mAppend (eVar 11) (aCons (eTup (aCons (eC (.int 0)) (aCons (eTup aNil) aNil))) aNil))) sNil)
    (sIf (tBl (eBin oGt (eCB fLen (aCons (eVar 11) aNil)) (eC (.int 0)))) (sSub (eVar 8) (eVar 10) (eCS gMinT (sEx (eVar 11)))) sNil)))
theorem w_bcell {kn bl lr k l : Nat} {a4 a10 a11 : Option D} {s : Store} {N : Sl → Store → Prop} {R : D → Store → Prop} {B C : Sl → Store → Prop} (ht : t.length < 400) (ho : o.length < 400) (hk : k < t.length + 1) (hl : l < o.length + 1) (hp : BI es t o st kn bl lr k l s)
    (hN : ∀ a10 a11 s, BI es t o st kn bl lr k (l + 1) s → N [some (eds es), some (tb t), some (tb o), some (.ref kn), a4, some (.ref bl), some (.int (k : Nat)), some (.int (t.length - k : Nat)), some (.ref lr), some (.int (l : Nat)), a10, a11] s) :
    WS (u_bcell [some (eds es), some (tb t), some (tb o), some (.ref kn), a4, some (.ref bl), some (.int (k : Nat)), some (.int (t.length - k : Nat)), some (.ref lr), some (.int (l : Nat)), a10, a11] s) N R B C := by
  have l2 : ∀ s, fLen [tb o] s = .ok (.int (o.length : Nat)) s := fun s => by simp [tb]
  have el : (o.length : Int) - (l : Int) = ((o.length - l : Nat) : Int) := by omega
  obtain ⟨i0, hi0⟩ : ∃ i0, i0 = t.length - k := ⟨_, rfl⟩
  obtain ⟨j0, hj0⟩ : ∃ j0, j0 = o.length - l := ⟨_, rfl⟩
  rw [← hj0] at el
  rw [← hi0] at hN ⊢
  have bi : i0 ≤ t.length := by omega
  have bj : j0 ≤ o.length := by omega
  unfold u_bcell
  rw [sSeq_e, WS_seq]
  refine WS.cut (N' := fun τ s' => τ = [some (eds es), some (tb t), some (tb o), some (.ref kn), a4, some (.ref bl), some (.int (k : Nat)), some (.int (i0 : Nat)), some (.ref lr), some (.int (l : Nat)), some (.int (j0 : Nat)), a11] ∧ s' = s) ?_ fun τ s' hp' => ?_
  · simp only [sSeq_e, sIf_e, sSet_e, sExpr_e, sRet_e, sRetN_e, sNil_e, sFor_e, sBrk_e, sCnt_e, sSub_e, sAsg_e, W_fin, WS_seq, WS_bindE, WS_nx, WS_rt, WS_bk, WS_ct]
    simp [l2, el]
  obtain ⟨rfl, rfl⟩ := hp'
  have v1 : atI (brow o.length (fB es t o k)) (j0 : Int) = some (owD (fB es t o k j0)) := brow_at (by omega)
  have v2 : atI (brow o.length (fB es t o k)) ((j0 : Int) + 1) = some (owD (fB es t o k (j0 + 1))) := brow_at (j := j0 + 1) (by omega)
  have v3 : atI (brow o.length (fL es t o k l)) ((j0 : Int) + 1) = some (owD (fL es t o k l (j0 + 1))) := brow_at (j := j0 + 1) (by omega)
  have fBl : ∀ j v, fB es t o k j = some v → v.2.length ≤ 1000 := fun j v h => by
    unfold fB at h
    split at h
    · have := best_len (by omega) (by omega) h
      omega
    · cases h
  have fLl : ∀ j v, fL es t o k l j = some v → v.2.length ≤ 1000 := fun j v h => by
    unfold fL at h
    split at h
    · have := best_len (by omega) (by omega) h
      omega
    · cases h
  have we : ways es t o i0 j0 (fB es t o k j0) (fL es t o k l (j0 + 1)) (fB es t o k (j0 + 1)) = ways es t o i0 j0 (best es t o (i0 + 1) j0) (best es t o i0 (j0 + 1)) (best es t o (i0 + 1) (j0 + 1)) := by
    refine ways_congr (fun h => ?_) (fun h => ?_) fun h h' => ?_
    · unfold fB
      rw [if_pos (by omega), show t.length - (k - 1) = i0 + 1 by omega]
    · unfold fL
      rw [if_pos (by omega), ← hi0]
    · unfold fB
      rw [if_pos (by omega), show t.length - (k - 1) = i0 + 1 by omega]
  rw [sSeq_e, WS_seq]
  refine WS.cut (N' := fun τ s2 => ∃ m, τ = [some (eds es), some (tb t), some (tb o), some (.ref kn), a4, some (.ref bl), some (.int (k : Nat)), some (.int (i0 : Nat)), some (.ref lr), some (.int (l : Nat)), some (.int (j0 : Nat)), some (.ref m)] ∧ s'.length ≤ m ∧ lstAt s2 m = some ((ways es t o i0 j0 (best es t o (i0 + 1) j0) (best es t o i0 (j0 + 1)) (best es t o (i0 + 1) (j0 + 1))).map wyD) ∧ Gr s' s2) ?_ fun τ s2 hp2 => ?_
  · simp only [sSeq_e, sIf_e, sSet_e, sExpr_e, sRet_e, sRetN_e, sNil_e, sFor_e, sBrk_e, sCnt_e, sSub_e, sAsg_e, W_fin, WS_seq, WS_bindE, WS_nx, WS_rt, WS_bk, WS_ct]
    simp [oIx_ref hp.jb, oIx_ref hp.jl, v1, v2, v3]
    refine w_ways hp.jk (fBl _) (fLl _) (fBl _) fun s m G hm g => ?_
    rw [we] at g
    simp
    exact ⟨hm, g, G⟩
  obtain ⟨m, rfl, hm, gm, G2⟩ := hp2
  have lrl := lstAt_lt hp.jl
  have bll := lstAt_lt hp.jb
  have knl := hp.jk.lt
  obtain ⟨WL, hWL⟩ : ∃ WL, WL = ways es t o i0 j0 (best es t o (i0 + 1) j0) (best es t o i0 (j0 + 1)) (best es t o (i0 + 1) (j0 + 1)) ++ wend t o i0 j0 := ⟨_, rfl⟩
  have hbest : best es t o i0 j0 = fm WL := by rw [hWL]; exact best_eq bi bj
  have hpw : WL.Pairwise RW := by rw [hWL]; exact ways_pw
  have lW : WL.length ≤ 5 := by
    rw [hWL]
    have h : ∀ {p : Prop} [Decidable p] {s : Stp} {q : Int} {b : Option Wy}, (if p then ah s q b else []).length ≤ 1 := fun {p _ s q b} => by
      split
      · exact ah_len
      · simp
    unfold ways wend
    simp only [List.length_append]
    have h1 := h (p := i0 < t.length ∧ Ed.cut (t.getD i0 0) ∈ es) (s := .ed (.cut (t.getD i0 0))) (q := 1) (b := best es t o (i0 + 1) j0)
    have h2 := h (p := i0 < t.length ∧ j0 < o.length ∧ t.getD i0 0 = o.getD j0 0) (s := .keep (t.getD i0 0)) (q := 0) (b := best es t o (i0 + 1) (j0 + 1))
    have h3 := h (p := j0 < o.length ∧ Ed.put (o.getD j0 0) ∈ es) (s := .ed (.put (o.getD j0 0))) (q := 1) (b := best es t o i0 (j0 + 1))
    have h4 := h (p := i0 < t.length ∧ j0 < o.length ∧ Ed.turn (t.getD i0 0) (o.getD j0 0) ∈ es) (s := .ed (.turn (t.getD i0 0) (o.getD j0 0))) (q := 1) (b := best es t o (i0 + 1) (j0 + 1))
    have h5 : (if i0 = t.length ∧ j0 = o.length then [((0 : Int), ([] : List Stp))] else []).length ≤ 1 := by split <;> simp
    omega
  rw [sSeq_e, WS_seq]
  refine WS.cut (N' := fun τ s3 => τ = [some (eds es), some (tb t), some (tb o), some (.ref kn), a4, some (.ref bl), some (.int (k : Nat)), some (.int (i0 : Nat)), some (.ref lr), some (.int (l : Nat)), some (.int (j0 : Nat)), some (.ref m)] ∧ lstAt s3 m = some (WL.map wyD) ∧ Gr s' s3) ?_ fun τ s3 hp3 => ?_
  · simp only [sSeq_e, sIf_e, sSet_e, sExpr_e, sRet_e, sRetN_e, sNil_e, sFor_e, sBrk_e, sCnt_e, sSub_e, sAsg_e, W_fin, WS_seq, WS_bindE, WS_nx, WS_rt, WS_bk, WS_ct]
    by_cases hz : k = 0 ∧ l = 0
    · obtain ⟨rfl, rfl⟩ := hz
      have he : wend t o i0 j0 = [(0, [])] := by
        unfold wend
        rw [if_pos (by omega)]
      rw [he] at hWL
      have lw : (ways es t o i0 j0 (best es t o (i0 + 1) j0) (best es t o i0 (j0 + 1)) (best es t o (i0 + 1) (j0 + 1))).length ≤ 5 := by
        rw [hWL, List.length_append] at lW
        omega
      have ap := mAppend_ref (x := .tup [.int 0, .tup []]) gm (by rw [List.length_map]; omega)
      simp [okT_ref gm, ap]
      refine ⟨?_, G2.put hm⟩
      rw [lstAt_set gm, hWL, List.map_append]
      rfl
    · have he : wend t o i0 j0 = [] := by
        unfold wend
        rw [if_neg (by omega)]
      rw [he, List.append_nil] at hWL
      have nz : ¬ ((k : Int) + (l : Int) = 0) := by omega
      simp [nz]
      rw [hWL]
      exact ⟨gm, G2⟩
  obtain ⟨rfl, g3, G3⟩ := hp3
  have j1 := G3.lst hp.jl
  have j2 := G3.lst hp.jb
  have j3 := hp.jk.gr G3
  simp only [sSeq_e, sIf_e, sSet_e, sExpr_e, sRet_e, sRetN_e, sNil_e, sFor_e, sBrk_e, sCnt_e, sSub_e, sAsg_e, W_fin, WS_seq, WS_bindE, WS_nx, WS_rt, WS_bk, WS_ct]
  have fin : ∀ s4, lstAt s4 lr = some (brow o.length fun x => if x = j0 then best es t o i0 j0 else fL es t o k l x) → lstAt s4 bl = some (brow o.length (fB es t o k)) → Kn es s4 kn → Gr st s4 → BI es t o st kn bl lr k (l + 1) s4 := fun s4 h1 h2 h3 h4 => by
    refine ⟨h4, h3, h2, ?_, hp.n1, hp.n2, hp.n3⟩
    rw [h1]
    unfold brow
    congr 1
    refine List.map_congr_left fun x hx => ?_
    congr 1
    show (if x = j0 then best es t o i0 j0 else fL es t o k l x) = fL es t o k (l + 1) x
    by_cases e : x = j0
    · rw [if_pos e]
      unfold fL
      rw [if_pos (by omega), ← hi0, e]
    · rw [if_neg e]
      unfold fL
      have : (x ≤ o.length ∧ o.length - x < l) = (x ≤ o.length ∧ o.length - x < l + 1) := by
        rw [eq_iff_iff]
        omega
      simp only [this]
  by_cases h0 : 0 < WL.length
  · obtain ⟨w, hw, gmn⟩ := gmin_ways (st := s3) hpw h0
    have fl : fLen [.ref m] s3 = .ok (.int (WL.length : Nat)) s3 := by rw [fLen_ref g3]; simp
    have os := oSeq_ref (st := s3) g3
    have ost := oSet_ref (v := wyD w) (k := (j0 : Int)) (j := j0) j1 (by simp only [brow, List.length_map, List.length_range]; exact ixN_of (by omega))
    have h0' : (0 : Int) < ((WL.length : Nat) : Int) := by omega
    obtain ⟨WD, hWD⟩ : ∃ WD, WD = WL.map wyD := ⟨_, rfl⟩
    rw [← hWD] at gmn os
    simp [-List.length_pos_iff, h0, fl, os, gmn, ost]
    refine hN _ _ _ (fin _ ?_ ?_ ?_ ((hp.gr.trans G3).put hp.n3))
    · rw [lstAt_set j1, show wyD w = owD (best es t o i0 j0) by rw [hbest, hw]; rfl, brow_set]
    · rw [lstAt_ne hp.n1]
      exact j2
    · exact j3.ne hp.n2
  · have hW0 : WL = [] := List.length_eq_zero_iff.mp (by omega)
    have fl : fLen [.ref m] s3 = .ok (.int 0) s3 := by rw [fLen_ref g3, hW0]; simp
    simp [fl]
    refine hN _ _ _ (fin _ ?_ j2 j3 (hp.gr.trans G3))
    rw [j1]
    unfold brow
    congr 1
    refine List.map_congr_left fun x hx => ?_
    show owD (fL es t o k l x) = owD (if x = j0 then best es t o i0 j0 else fL es t o k l x)
    by_cases e : x = j0
    · rw [if_pos e, hbest, hW0, e]
      unfold fL
      rw [if_neg (by omega)]
      rfl
    · rw [if_neg e]
end

section
variable {st : Store} {es : List Ed} {t o : List Int}
theorem w_best {Q : D → Store → Prop} (le : es.length ≤ 35) (ht : t.length < 400) (ho : o.length < 400) (hQ : ∀ s, Gr st s → Q (owD (best es t o 0 0)) s) : W (f__law_best [eds es, tb t, tb o] st) Q := by
  unfold f__law_best
  rw [runB_e]
  unfold m__law_best
  have l2 : ∀ s, fLen [tb o] s = .ok (.int (o.length : Nat)) s := fun s => by simp [tb]
  have l3 : ∀ s, fLen [tb t] s = .ok (.int (t.length : Nat)) s := fun s => by simp [tb]
  have h1 : ∀ s, rg1 (.int ((t.length : Int) + 1)) s = .ok (.fix (rng 0 (t.length + 1 : Nat))) s := fun s => rg1_int (j := (t.length : Int) + 1) (by omega)
  have h2 : ∀ s, rg1 (.int ((o.length : Int) + 1)) s = .ok (.fix (rng 0 (o.length + 1 : Nat))) s := fun s => rg1_int (j := (o.length : Int) + 1) (by omega)
  have h3 : ∀ s, rg1 (.int ((o.length : Int) + 2)) s = .ok (.fix (rng 0 (o.length + 2 : Nat))) s := fun s => rg1_int (j := (o.length : Int) + 2) (by omega)
  have dE : ∀ s, dSq s (eds es) = some (.fix (es.map Ed.d)) := fun s => rfl
  obtain ⟨kn, hkn⟩ : ∃ kn, kn = st.length := ⟨_, rfl⟩
  rw [W_fin, sSeq_e, WS_seq]
  refine WS.cut (N' := fun τ s => τ = [some (eds es), some (tb t), some (tb o), some (.ref kn), none, none, none, none, none, none, none, none] ∧ s = st ++ [.dct []]) (by simp only [sSeq_e, sIf_e, sSet_e, sExpr_e, sRet_e, sRetN_e, sNil_e, sFor_e, sBrk_e, sCnt_e, sSub_e, sAsg_e, W_fin, WS_seq, WS_bindE, WS_nx, WS_rt, WS_bk, WS_ct]; simp [List.replicate, hkn]) fun τ s hp => ?_
  obtain ⟨rfl, rfl⟩ := hp
  rw [sSeq_e, WS_seq]
  refine WS.cut (N' := fun τ s => (∃ a, τ = [some (eds es), some (tb t), some (tb o), some (.ref kn), a, none, none, none, none, none, none, none]) ∧ Gr st s ∧ Kn es s kn) ?_ fun τ s hp => ?_
  · simp [sFor_e, dE]
    obtain ⟨I, hI⟩ : ∃ I : Nat → Sl → Store → Prop, I = fun i τ s => (∃ a, τ = [some (eds es), some (tb t), some (tb o), some (.ref kn), a, none, none, none, none, none, none, none]) ∧ Gr st s ∧ ∃ kvs, dctAt s kn = some kvs ∧ (kvs.all fun q => q.1.tupQ) = true ∧ kvs.length ≤ i ∧ ∀ e : Ed, (dGet kvs e.d).isSome = decide (e ∈ es.take i) := ⟨_, rfl⟩
    refine ws_map Ed.d es rfl I (fun _ _ _ _ => rfl) (by rw [hI]; exact ⟨⟨none, rfl⟩, .app, [], by rw [hkn]; exact dctAt_new, rfl, by simp, fun e => by simp [dGet]⟩) ?_ ?_
    · intro i a τ s hi hp
      rw [hI] at hp
      obtain ⟨⟨b, rfl⟩, G, kvs, g, h1, h2, h3⟩ := hp
      refine ⟨_, rfl, ?_⟩
      have tk : es.take (i + 1) = es.take i ++ [a] := by rw [List.take_succ, hi]; rfl
      have il : i < es.length := (List.getElem?_eq_some_iff.mp hi).1
      have os := oSet_dct (k := a.d) (v := .bl true) g (keyFit_tup h1 Ed.tupQ) (by omega)
      simp only [sSeq_e, sIf_e, sSet_e, sExpr_e, sRet_e, sRetN_e, sNil_e, sFor_e, sBrk_e, sCnt_e, sSub_e, sAsg_e, W_fin, WS_seq, WS_bindE, WS_nx, WS_rt, WS_bk, WS_ct]
      simp [os]
      rw [hI]
      refine ⟨⟨_, rfl⟩, G.put (by omega), dPut kvs a.d (.bl true), dctAt_set g, dPut_keys h1 Ed.tupQ, Nat.le_trans dPut_len (by omega), fun e => ?_⟩
      rw [dGet_put, tk]
      by_cases c : e.d = a.d
      · rw [if_pos c, Ed.d_inj c]
        simp
      · have : e ≠ a := fun h => c (by rw [h])
        rw [if_neg c, h3]
        simp [this]
    · intro τ s hp
      rw [hI] at hp
      obtain ⟨⟨b, rfl⟩, G, kvs, g, h1, h2, h3⟩ := hp
      exact ⟨⟨_, rfl⟩, G, kvs, g, h1, fun e => by rw [h3, List.take_length]⟩
  obtain ⟨⟨a4, rfl⟩, G0, K0⟩ := hp
  have nrow : ((List.range (o.length + 2)).map fun _ => D.non) = brow o.length fun _ => none := rfl
  rw [sSeq_e, WS_seq]
  refine WS.cut (N' := fun τ s' => ∃ bl, τ = [some (eds es), some (tb t), some (tb o), some (.ref kn), a4, some (.ref bl), none, none, none, none, none, none] ∧ Gr st s' ∧ Kn es s' kn ∧ lstAt s' bl = some (brow o.length (fB es t o 0)) ∧ st.length ≤ bl) ?_ fun τ s' hp => ?_
  · simp only [sSeq_e, sIf_e, sSet_e, sExpr_e, sRet_e, sRetN_e, sNil_e, sFor_e, sBrk_e, sCnt_e, sSub_e, sAsg_e, W_fin, WS_seq, WS_bindE, WS_nx, WS_rt, WS_bk, WS_ct]
    simp [lComp_e, l2, h3]
    refine w_lc (by show (rng 0 ((o.length + 2 : Nat) : Int)).length ≤ _; rw [rng_len]; omega) ?_
    refine w_map (fun j : Nat => D.int j) (fun _ => D.non) (List.range (o.length + 2)) (rng_eq _) rfl (fun j _ => ⟨_, rfl, ⟨rfl, rfl⟩⟩) ?_
    refine ⟨G0.trans .app, K0.gr .app, ?_, G0.len⟩
    show ((List.range (o.length + 2)).map fun _ => D.non) = _
    rw [nrow]
    unfold brow
    refine List.map_congr_left fun j _ => ?_
    simp [fB]
  obtain ⟨bl, rfl, G1, K1, b1, b2⟩ := hp
  rw [sSeq_e, WS_seq]
  refine WS.cut (N' := fun τ s' => ∃ bl b6 b7 b8 b9 b10 b11, τ = [some (eds es), some (tb t), some (tb o), some (.ref kn), a4, some (.ref bl), b6, b7, b8, b9, b10, b11] ∧ Gr st s' ∧ Kn es s' kn ∧ lstAt s' bl = some (brow o.length (fB es t o (t.length + 1))) ∧ st.length ≤ bl) ?_ fun τ s2 hp => ?_
  · rw [sFor_e]
    simp [l3, h1]
    obtain ⟨P, hP⟩ : ∃ P : Nat → Sl → Store → Prop, P = fun k τ s' => ∃ bl b6 b7 b8 b9 b10 b11, τ = [some (eds es), some (tb t), some (tb o), some (.ref kn), a4, some (.ref bl), b6, b7, b8, b9, b10, b11] ∧ Gr st s' ∧ Kn es s' kn ∧ lstAt s' bl = some (brow o.length (fB es t o k)) ∧ st.length ≤ bl := ⟨_, rfl⟩
    refine ws_rng (n := t.length + 1) P (fun _ _ _ _ => rfl) (by rw [hP]; exact ⟨bl, _, _, _, _, _, _, rfl, G1, K1, b1, b2⟩) ?_ ?_
    · intro k τ s hk hp
      rw [hP] at hp
      obtain ⟨bl, b6, b7, b8, b9, b10, b11, rfl, G2, K2, c1, c2⟩ := hp
      refine ⟨_, rfl, ?_⟩
      have ek : (t.length : Int) - (k : Int) = ((t.length - k : Nat) : Int) := by omega
      rw [sSeq_e, WS_seq]
      refine WS.cut (N' := fun τ s' => τ = [some (eds es), some (tb t), some (tb o), some (.ref kn), a4, some (.ref bl), some (.int (k : Nat)), some (.int (t.length - k : Nat)), b8, b9, b10, b11] ∧ s' = s) ?_ fun τ s' hp' => ?_
      · simp only [sSeq_e, sIf_e, sSet_e, sExpr_e, sRet_e, sRetN_e, sNil_e, sFor_e, sBrk_e, sCnt_e, sSub_e, sAsg_e, W_fin, WS_seq, WS_bindE, WS_nx, WS_rt, WS_bk, WS_ct]
        simp [l3, ek]
      obtain ⟨rfl, rfl⟩ := hp'
      rw [sSeq_e, WS_seq]
      refine WS.cut (N' := fun τ s2 => ∃ lr b10, τ = [some (eds es), some (tb t), some (tb o), some (.ref kn), a4, some (.ref bl), some (.int (k : Nat)), some (.int (t.length - k : Nat)), some (.ref lr), b9, b10, b11] ∧ BI es t o st kn bl lr k 0 s2) ?_ fun τ s2 hp2 => ?_
      · simp only [sSeq_e, sIf_e, sSet_e, sExpr_e, sRet_e, sRetN_e, sNil_e, sFor_e, sBrk_e, sCnt_e, sSub_e, sAsg_e, W_fin, WS_seq, WS_bindE, WS_nx, WS_rt, WS_bk, WS_ct]
        simp [lComp_e, l2, h3]
        refine w_lc (by show (rng 0 ((o.length + 2 : Nat) : Int)).length ≤ _; rw [rng_len]; omega) ?_
        refine w_map (fun j : Nat => D.int j) (fun _ => D.non) (List.range (o.length + 2)) (rng_eq _) rfl (fun j _ => ⟨_, rfl, ⟨rfl, rfl⟩⟩) ?_
        have k1 := K2.lt
        have k2 := lstAt_lt c1
        refine ⟨G2.trans .app, K2.gr .app, (Gr.app (a := s')).lst c1, ?_, by omega, by omega, G2.len⟩
        rw [lstAt_new, nrow]
        congr 1
        unfold brow
        refine List.map_congr_left fun j _ => ?_
        simp [fL]
      obtain ⟨lr, b10, rfl, hB⟩ := hp2
      rw [sSeq_e, WS_seq]
      refine WS.cut (N' := fun τ s2 => ∃ b9 b10 b11, τ = [some (eds es), some (tb t), some (tb o), some (.ref kn), a4, some (.ref bl), some (.int (k : Nat)), some (.int (t.length - k : Nat)), some (.ref lr), b9, b10, b11] ∧ BI es t o st kn bl lr k (o.length + 1) s2) ?_ fun τ s3 hp3 => ?_
      · rw [sFor_e]
        simp [l2, h2]
        obtain ⟨P2, hP2⟩ : ∃ P : Nat → Sl → Store → Prop, P = fun l τ s => ∃ b9 b10 b11, τ = [some (eds es), some (tb t), some (tb o), some (.ref kn), a4, some (.ref bl), some (.int (k : Nat)), some (.int (t.length - k : Nat)), some (.ref lr), b9, b10, b11] ∧ BI es t o st kn bl lr k l s := ⟨_, rfl⟩
        refine ws_rng (n := o.length + 1) P2 (fun _ _ _ _ => rfl) (by rw [hP2]; exact ⟨_, _, _, rfl, hB⟩) ?_ ?_
        · intro l τ s hl hp
          rw [hP2] at hp
          obtain ⟨b9, b10, b11, rfl, hp⟩ := hp
          refine ⟨_, rfl, ?_⟩
          refine w_bcell (a4 := a4) (a10 := b10) (a11 := b11) ht ho hk hl hp fun a10 a11 s hp => ?_
          rw [hP2]
          exact ⟨_, _, _, rfl, hp⟩
        · intro τ s hp
          rw [hP2] at hp
          obtain ⟨b9, b10, b11, e, hp⟩ := hp
          exact ⟨⟨b9, b10, b11, e⟩, hp⟩
      obtain ⟨b9, b10, b11, rfl, hB⟩ := hp3
      simp only [sSeq_e, sIf_e, sSet_e, sExpr_e, sRet_e, sRetN_e, sNil_e, sFor_e, sBrk_e, sCnt_e, sSub_e, sAsg_e, W_fin, WS_seq, WS_bindE, WS_nx, WS_rt, WS_bk, WS_ct]
      simp
      rw [hP]
      refine ⟨lr, _, _, _, _, _, _, rfl, hB.gr, hB.jk, ?_, hB.n3⟩
      rw [hB.jl]
      congr 1
      unfold brow
      refine List.map_congr_left fun j _ => ?_
      congr 1
      unfold fL fB
      have : (j ≤ o.length ∧ o.length - j < o.length + 1) = (0 < k + 1 ∧ j ≤ o.length) := by
        rw [eq_iff_iff]
        omega
      simp only [this, Nat.add_sub_cancel]
    · intro τ s hp
      rw [hP] at hp
      obtain ⟨bl, b6, b7, b8, b9, b10, b11, e, hp⟩ := hp
      exact ⟨bl, ⟨b6, b7, b8, b9, b10, b11, e⟩, hp⟩
  obtain ⟨bl, b6, b7, b8, b9, b10, b11, rfl, G2, K2, c1, c2⟩ := hp
  have v : atI (brow o.length (fB es t o (t.length + 1))) 0 = some (owD (best es t o 0 0)) := by
    have := brow_at (m := o.length) (j := 0) (f := fB es t o (t.length + 1)) (by omega)
    rw [show fB es t o (t.length + 1) 0 = best es t o 0 0 by unfold fB; rw [if_pos (by omega)]; simp] at this
    exact this
  simp only [sSeq_e, sIf_e, sSet_e, sExpr_e, sRet_e, sRetN_e, sNil_e, sFor_e, sBrk_e, sCnt_e, sSub_e, sAsg_e, W_fin, WS_seq, WS_bindE, WS_nx, WS_rt, WS_bk, WS_ct]
  simp [oIx_ref c1, v]
  exact hQ _ G2
end

section
variable {st : Store} {es : List Ed} {t o : List Int} {k : Nat}
def StOk (k : Nat) : Stp → Prop
  | .keep x => 0 ≤ x ∧ x < k
  | .ed e => e.ok k
theorem w_isal {p : List Stp} {Q : D → Store → Prop} (hl : p.length < 1000) (hp : ∀ s ∈ p, StOk k s) (hQ : Q (.bl true) st) : W (f__law_is_alignment [als p, .int (k : Nat)] st) Q := by
  unfold f__law_is_alignment
  rw [runB_e]
  unfold m__law_is_alignment
  have dp : ∀ s, dSq s (als p) = some (.fix (p.map Stp.d)) := fun s => rfl
  have i0 : fIsi [als p, .ty "tuple"] st = .ok (.bl true) st := fIsi_tt
  have d1 : ∀ s, dIn (.str [107, 101, 101, 112]) (.tup [.str [107, 101, 101, 112], .str [99, 117, 116], .str [112, 117, 116], .str [116, 117, 114, 110]]) s = some true := fun s => by
    rw [dIn_flat (ys := [.str [107, 101, 101, 112], .str [99, 117, 116], .str [112, 117, 116], .str [116, 117, 114, 110]]) rfl rfl rfl]
    rfl
  have d2 : ∀ s, dIn (.str [99, 117, 116]) (.tup [.str [107, 101, 101, 112], .str [99, 117, 116], .str [112, 117, 116], .str [116, 117, 114, 110]]) s = some true := fun s => by
    rw [dIn_flat (ys := [.str [107, 101, 101, 112], .str [99, 117, 116], .str [112, 117, 116], .str [116, 117, 114, 110]]) rfl rfl rfl]
    rfl
  have d3 : ∀ s, dIn (.str [112, 117, 116]) (.tup [.str [107, 101, 101, 112], .str [99, 117, 116], .str [112, 117, 116], .str [116, 117, 114, 110]]) s = some true := fun s => by
    rw [dIn_flat (ys := [.str [107, 101, 101, 112], .str [99, 117, 116], .str [112, 117, 116], .str [116, 117, 114, 110]]) rfl rfl rfl]
    rfl
  have d4 : ∀ s, dIn (.str [116, 117, 114, 110]) (.tup [.str [107, 101, 101, 112], .str [99, 117, 116], .str [112, 117, 116], .str [116, 117, 114, 110]]) s = some true := fun s => by
    rw [dIn_flat (ys := [.str [107, 101, 101, 112], .str [99, 117, 116], .str [112, 117, 116], .str [116, 117, 114, 110]]) rfl rfl rfl]
    rfl
  have cut1 : ∀ (x : D) (xs : List D) s, dCut (.tup (x :: xs)) (some 1) none s = .ok (.tup xs) s := fun x xs s => by
    show ER.ok (D.tup (cutD (x :: xs) (some ((1 : Nat) : Int)) none)) s = _
    rw [cutD_from]
    rfl
  have all1 : ∀ (xs : List Int) (d : D) (τ : Sl), τ = [some (als p), some (.int (k : Nat)), some d, none] → xs.length ≤ 2 → (∀ x ∈ xs, 0 ≤ x ∧ x < k) → W (lc1 [3] (gN 3) tYes (eAnd (eCall 1 f__law_is_int (aCons (eVar 3) aNil)) (eChain oLe oLt (eC (.int 0)) (eVar 3) (eVar 1))) τ (.fix (xs.map D.int)) st) fun ds s => ds = xs.map (fun _ => D.bl true) ∧ s = st := fun xs d τ hτ h2 hx => by
    subst hτ
    refine w_lc (by show (xs.map D.int).length ≤ _; rw [List.length_map]; omega) ?_
    refine w_map D.int (fun _ => D.bl true) xs rfl rfl (fun x hm => ⟨_, rfl, ?_⟩) ⟨rfl, rfl⟩
    obtain ⟨a, b⟩ := hx x hm
    simp [wipeD, r_is_int, a, b]
  have gall : ∀ (xs : List Int), gAllB (xs.map fun _ => D.bl true) st = .ok (.bl true) st := fun xs => by
    rw [gAllB_map (f := fun _ : Int => true), show (xs.all fun _ => true) = true by simp]
  simp [List.replicate, sFor_e, dp, i0]
  obtain ⟨P, hP⟩ : ∃ P : Nat → Sl → Store → Prop, P = fun _ τ s => (∃ a, τ = [some (als p), some (.int (k : Nat)), a, none]) ∧ s = st := ⟨_, rfl⟩
  refine ws_map Stp.d p rfl P (fun _ _ _ _ => rfl) (by rw [hP]; exact ⟨⟨none, rfl⟩, rfl⟩) ?_ ?_
  · intro i a τ s hi hp'
    rw [hP] at hp'
    obtain ⟨⟨b, rfl⟩, rfl⟩ := hp'
    refine ⟨_, rfl, ?_⟩
    have ha := hp a (List.mem_of_getElem? hi)
    have fin : ∀ d, P (i + 1) [some (als p), some (.int (k : Nat)), some d, none] s := fun d => by
      rw [hP]
      exact ⟨⟨_, rfl⟩, rfl⟩
    cases a with
    | keep x =>
      simp only [sSeq_e, sIf_e, sSet_e, sExpr_e, sRet_e, sRetN_e, sNil_e, sFor_e, sBrk_e, sCnt_e, sSub_e, sAsg_e, W_fin, WS_seq, WS_bindE, WS_nx, WS_rt, WS_bk, WS_ct]
      simp [Stp.d, d1, cut1, lComp_e]
      refine (all1 [x] _ _ rfl (by simp) (fun y hy => by rw [List.mem_singleton.mp hy]; exact ha)).mono fun ds s h => ?_
      obtain ⟨rfl, rfl⟩ := h
      simp [gall [x]]
      exact fin _
    | ed e =>
      cases e with
      | cut x =>
        simp only [sSeq_e, sIf_e, sSet_e, sExpr_e, sRet_e, sRetN_e, sNil_e, sFor_e, sBrk_e, sCnt_e, sSub_e, sAsg_e, W_fin, WS_seq, WS_bindE, WS_nx, WS_rt, WS_bk, WS_ct]
        simp [Stp.d, Ed.d, d2, cut1, lComp_e]
        refine (all1 [x] _ _ rfl (by simp) (fun y hy => by rw [List.mem_singleton.mp hy]; exact ha)).mono fun ds s h => ?_
        obtain ⟨rfl, rfl⟩ := h
        simp [gall [x]]
        exact fin _
      | put x =>
        simp only [sSeq_e, sIf_e, sSet_e, sExpr_e, sRet_e, sRetN_e, sNil_e, sFor_e, sBrk_e, sCnt_e, sSub_e, sAsg_e, W_fin, WS_seq, WS_bindE, WS_nx, WS_rt, WS_bk, WS_ct]
        simp [Stp.d, Ed.d, d3, cut1, lComp_e]
        refine (all1 [x] _ _ rfl (by simp) (fun y hy => by rw [List.mem_singleton.mp hy]; exact ha)).mono fun ds s h => ?_
        obtain ⟨rfl, rfl⟩ := h
        simp [gall [x]]
        exact fin _
      | turn x y =>
        obtain ⟨h1, h2, h3⟩ := ha
        simp only [sSeq_e, sIf_e, sSet_e, sExpr_e, sRet_e, sRetN_e, sNil_e, sFor_e, sBrk_e, sCnt_e, sSub_e, sAsg_e, W_fin, WS_seq, WS_bindE, WS_nx, WS_rt, WS_bk, WS_ct]
        simp [Stp.d, Ed.d, d4, cut1, lComp_e]
        refine (all1 [x, y] _ _ rfl (by simp) (fun z hz => by
          rcases List.mem_cons.mp hz with rfl | hz
          · exact h1
          · rw [List.mem_singleton.mp hz]
            exact h2)).mono fun ds s h => ?_
        obtain ⟨rfl, rfl⟩ := h
        have g2 : gAllB [.bl true, .bl true] s = .ok (.bl true) s := gall [0, 0]
        simp [g2, h3]
        exact fin _
  · intro τ s hp'
    rw [hP] at hp'
    obtain ⟨⟨b, rfl⟩, rfl⟩ := hp'
    exact hQ
theorem plain60 (p : List Stp) : (D.tup (p.map Stp.d)).plain 60 = true := by
  have h : ∀ a : Stp, a.d.plain 59 = true := fun a => by
    cases a with
    | keep k => rfl
    | ed e => cases e <;> rfl
  show ((p.map Stp.d).all (D.plain 59)) = true
  simp [h]
/-- what is asked of one pair of tables -/
theorem w_rightK {due : Option Wy} {Q : D → Store → Prop} (hd : due = best es t o 0 0) (he : ∀ e ∈ es, e.ok k) (ht : t.length ≤ 60) (ho : o.length ≤ 60) (hx : ∀ x ∈ t, 0 ≤ x ∧ x < k) (hQ : ∀ s, Gr st s → Q (.bl true) s) : W (f__law_right [.int (k : Nat), eds es, tb t, tb o, owD due] st) Q := by
  unfold f__law_right
  rw [runB_e]
  unfold m__law_right
  subst hd
  rw [W_fin, sSeq_e, WS_seq]
  refine WS.cut (N' := fun τ s => τ = [some (.int (k : Nat)), some (eds es), some (tb t), some (tb o), some (owD (best es t o 0 0)), some (mkD (lft es t o 0 0)), none] ∧ Gr st s) ?_ fun τ s1 hp => ?_
  · simp only [sSeq_e, sIf_e, sSet_e, sExpr_e, sRet_e, sRetN_e, sNil_e, sFor_e, sBrk_e, sCnt_e, sSub_e, sAsg_e, W_fin, WS_seq, WS_bindE, WS_nx, WS_rt, WS_bk, WS_ct]
    simp [List.replicate]
    exact w_distance (by omega) (by omega) fun s G => ⟨rfl, G⟩
  obtain ⟨rfl, G1⟩ := hp
  rw [sSeq_e, WS_seq]
  refine WS.cut (N' := fun τ s => τ = [some (.int (k : Nat)), some (eds es), some (tb t), some (tb o), some (owD (best es t o 0 0)), some (mkD (lft es t o 0 0)), some (pthD (best es t o 0 0))] ∧ Gr st s) ?_ fun τ s2 hp => ?_
  · simp only [sSeq_e, sIf_e, sSet_e, sExpr_e, sRet_e, sRetN_e, sNil_e, sFor_e, sBrk_e, sCnt_e, sSub_e, sAsg_e, W_fin, WS_seq, WS_bindE, WS_nx, WS_rt, WS_bk, WS_ct]
    simp
    exact w_least (by omega) (by omega) fun s G => ⟨rfl, G1.trans G⟩
  obtain ⟨rfl, G2⟩ := hp
  cases hb : best es t o 0 0 with
  | none =>
    have hl : lft es t o 0 0 = none := by
      unfold lft
      rw [hb]
      rfl
    rw [hl]
    simp only [sSeq_e, sIf_e, sSet_e, sExpr_e, sRet_e, sRetN_e, sNil_e, sFor_e, sBrk_e, sCnt_e, sSub_e, sAsg_e, W_fin, WS_seq, WS_bindE, WS_nx, WS_rt, WS_bk, WS_ct]
    simp [owD, pthD]
    exact hQ _ G2
  | some w =>
    have hl : lft es t o 0 0 = some w.1 := by
      unfold lft
      rw [hb]
      rfl
    rw [hl]
    obtain ⟨a1, a2, a3, a4, a5⟩ := best_sound (c := w.1) (p := w.2) _ _ _ rfl (Nat.zero_le _) (Nat.zero_le _) hb
    have lw := best_len (Nat.zero_le _) (Nat.zero_le _) hb
    have pe := als_plain (p := w.2)
    have eq : ∀ s, oEq (als w.2) (als w.2) s = .ok (.bl true) s := fun s => by
      have e := oEq_tup (st := s) (a := w.2.map Stp.d) (b := w.2.map Stp.d) (plain60 w.2) (plain60 w.2)
      have e2 : oEq (als w.2) (als w.2) s = _ := e
      rw [e2]
      simp
    simp only [sSeq_e, sIf_e, sSet_e, sExpr_e, sRet_e, sRetN_e, sNil_e, sFor_e, sBrk_e, sCnt_e, sSub_e, sAsg_e, W_fin, WS_seq, WS_bindE, WS_nx, WS_rt, WS_bk, WS_ct]
    simp [owD, pthD, wyD, r_is_int, mkD]
    refine w_isal (p := w.2) (by omega) (fun s hs => ?_) ?_
    · cases s with
      | keep x => exact hx x (a5 x hs)
      | ed e => exact he e (a3 e hs)
    · simp [eq]
      exact hQ _ G2
end

theorem law_holds : ∀ ns : List Int, ns.length ≤ 63 → ∃ st, f_law [.rol (ns.map D.int)] [] = .ok (.bl true) st := by
  intro ns hl
  obtain ⟨s0, e0, D0, n0⟩ := r_begin hl
  obtain ⟨C, hC⟩ : ∃ C : D, C = .rol (ns.map D.int) := ⟨_, rfl⟩
  rw [← hC] at e0 ⊢
  have main : W (f_law [C] []) fun d _ => d = .bl true := by
    unfold f_law
    rw [runB_e]
    unfold m_law
    rw [W_fin, sSeq_e, WS_seq]
    refine WS.cut (N' := fun τ s => τ = [some C, some (.ref 1), none, none, none, none, none, none, none, none, none] ∧ s = s0) ?_ fun τ s hp => ?_
    · simp only [sSeq_e, sIf_e, sSet_e, sExpr_e, sRet_e, sRetN_e, sNil_e, sFor_e, sBrk_e, sCnt_e, sSub_e, sAsg_e, W_fin, WS_seq, WS_bindE, WS_nx, WS_rt, WS_bk, WS_ct]
      simp [List.replicate, e0]
    obtain ⟨rfl, rfl⟩ := hp
    rw [sSeq_e, WS_seq]
    refine WS.cut (N' := fun τ s => ∃ k : Nat, 0 < k ∧ k ≤ 5 ∧ τ = [some C, some (.ref 1), some (.int (k : Nat)), none, none, none, none, none, none, none, none] ∧ DS ns s) ?_ fun τ s1 hp => ?_
    · simp only [sSeq_e, sIf_e, sSet_e, sExpr_e, sRet_e, sRetN_e, sNil_e, sFor_e, sBrk_e, sCnt_e, sSub_e, sAsg_e, W_fin, WS_seq, WS_bindE, WS_nx, WS_rt, WS_bk, WS_ct]
      simp
      refine w_draw (many := 5) D0 (by decide) (by decide) fun v s1 hv D1 F1 => ?_
      refine w_draw (many := 5) D1 (by decide) (by decide) fun u s2 hu D2 F2 => ?_
      simp
      refine ⟨1 + min v u, by omega, by omega, ?_, D2⟩
      by_cases h : u < v
      · simp [h]
        omega
      · simp [h]
        omega
    obtain ⟨k, k0, k5, rfl, D1⟩ := hp
    rw [sSeq_e, WS_seq]
    refine WS.cut (N' := fun τ s => ∃ es : List Ed, es.length ≤ 35 ∧ (∀ e ∈ es, e.ok k) ∧ τ = [some C, some (.ref 1), some (.int (k : Nat)), some (eds es), none, none, none, none, none, none, none] ∧ DS ns s) ?_ fun τ s2 hp => ?_
    · simp only [sSeq_e, sIf_e, sSet_e, sExpr_e, sRet_e, sRetN_e, sNil_e, sFor_e, sBrk_e, sCnt_e, sSub_e, sAsg_e, W_fin, WS_seq, WS_bindE, WS_nx, WS_rt, WS_bk, WS_ct]
      simp
      exact w_some_near D1 k0 k5 fun es s h1 h2 D2 F2 => ⟨es, h1, h2, rfl, D2⟩
    obtain ⟨es, le, he, rfl, D2⟩ := hp
    rw [sSeq_e, WS_seq]
    refine WS.cut (N' := fun τ s => ∃ b, τ = [some C, some (.ref 1), some (.int (k : Nat)), some (eds es), some (.bl b), none, none, none, none, none, none] ∧ DS ns s) ?_ fun τ s3 hp => ?_
    · simp only [sSeq_e, sIf_e, sSet_e, sExpr_e, sRet_e, sRetN_e, sNil_e, sFor_e, sBrk_e, sCnt_e, sSub_e, sAsg_e, W_fin, WS_seq, WS_bindE, WS_nx, WS_rt, WS_bk, WS_ct]
      simp
      refine w_rare (many := 19) D2 (by decide) (by decide) fun b s3 D3 F3 => ?_
      cases b <;> simp [D3]
    obtain ⟨b, rfl, D3⟩ := hp
    rw [sSeq_e, WS_seq]
    refine WS.cut (N' := fun τ s => ∃ t : List Int, (t.length ≤ if b then 60 else 7) ∧ (∀ x ∈ t, 0 ≤ x ∧ x < k) ∧ τ = [some C, some (.ref 1), some (.int (k : Nat)), some (eds es), some (.bl b), some (tb t), none, none, none, none, none] ∧ DS ns s) ?_ fun τ s4 hp => ?_
    · simp only [sSeq_e, sIf_e, sSet_e, sExpr_e, sRet_e, sRetN_e, sNil_e, sFor_e, sBrk_e, sCnt_e, sSub_e, sAsg_e, W_fin, WS_seq, WS_bindE, WS_nx, WS_rt, WS_bk, WS_ct]
      cases b with
      | true =>
        simp
        exact w_runs (most := 60) D3 k0 k5 fun t s h1 h2 D4 F4 => ⟨t, h1, h2, rfl, D4⟩
      | false =>
        simp
        exact w_table (most := 7) D3 k0 k5 (by decide) fun t s h1 h2 D4 F4 => ⟨t, h1, h2, rfl, D4⟩
    obtain ⟨t, lt, tp, rfl, D4⟩ := hp
    have lt60 : t.length ≤ 60 := by cases b <;> simp at lt <;> omega
    rw [sSeq_e, WS_seq]
    refine WS.cut (N' := fun τ s => ∃ o : List Int, o.length ≤ 60 ∧ (∀ x ∈ o, 0 ≤ x ∧ x < k) ∧ τ = [some C, some (.ref 1), some (.int (k : Nat)), some (eds es), some (.bl b), some (tb t), some (tb o), none, none, none, none] ∧ DS ns s) ?_ fun τ s5 hp => ?_
    · simp only [sSeq_e, sIf_e, sSet_e, sExpr_e, sRet_e, sRetN_e, sNil_e, sFor_e, sBrk_e, sCnt_e, sSub_e, sAsg_e, W_fin, WS_seq, WS_bindE, WS_nx, WS_rt, WS_bk, WS_ct]
      simp
      exact w_other D4 k0 k5 le he lt tp fun o s h1 h2 D5 F5 => ⟨o, h1, h2, rfl, D5⟩
    obtain ⟨o, lo, op, rfl, D5⟩ := hp
    rw [sSeq_e, WS_seq]
    refine WS.cut (N' := fun τ s => τ = [some C, some (.ref 1), some (.int (k : Nat)), some (eds es), some (.bl b), some (tb t), some (tb o), some (owD (best es t o 0 0)), none, none, none] ∧ DS ns s) ?_ fun τ s6 hp => ?_
    · simp only [sSeq_e, sIf_e, sSet_e, sExpr_e, sRet_e, sRetN_e, sNil_e, sFor_e, sBrk_e, sCnt_e, sSub_e, sAsg_e, W_fin, WS_seq, WS_bindE, WS_nx, WS_rt, WS_bk, WS_ct]
      simp
      exact w_best le (by omega) (by omega) fun s G => ⟨rfl, G.ds D5⟩
    obtain ⟨rfl, D6⟩ := hp
    rw [sSeq_e, WS_seq]
    refine WS.cut (N' := fun τ s => τ = [some C, some (.ref 1), some (.int (k : Nat)), some (eds es), some (.bl b), some (tb t), some (tb o), some (owD (best es t o 0 0)), none, none, none] ∧ DS ns s) ?_ fun τ s7 hp => ?_
    · simp only [sSeq_e, sIf_e, sSet_e, sExpr_e, sRet_e, sRetN_e, sNil_e, sFor_e, sBrk_e, sCnt_e, sSub_e, sAsg_e, W_fin, WS_seq, WS_bindE, WS_nx, WS_rt, WS_bk, WS_ct]
      simp
      refine w_rightK rfl he lt60 lo tp fun s G => ?_
      simp
      exact G.ds D6
    obtain ⟨rfl, D7⟩ := hp
    rw [sSeq_e, WS_seq]
    refine WS.cut (N' := fun τ s => τ = [some C, some (.ref 1), some (.int (k : Nat)), some (eds es), some (.bl b), some (tb t), some (tb o), some (owD (best es t o 0 0)), none, none, none] ∧ DS ns s) ?_ fun τ s8 hp => ?_
    · simp only [sSeq_e, sIf_e, sSet_e, sExpr_e, sRet_e, sRetN_e, sNil_e, sFor_e, sBrk_e, sCnt_e, sSub_e, sAsg_e, W_fin, WS_seq, WS_bindE, WS_nx, WS_rt, WS_bk, WS_ct]
      simp
      refine w_best le (by omega) (by omega) fun s G1 => ?_
      refine w_rightK rfl he lo lt60 op fun s G => ?_
      simp
      exact G.ds (G1.ds D7)
    obtain ⟨rfl, D8⟩ := hp
    cases b with
    | true =>
      refine ws_take (by simp) ?_
      simp only [sSeq_e, sIf_e, sSet_e, sExpr_e, sRet_e, sRetN_e, sNil_e, sFor_e, sBrk_e, sCnt_e, sSub_e, sAsg_e, W_fin, WS_seq, WS_bindE, WS_nx, WS_rt, WS_bk, WS_ct]
      simp
    | false =>
      refine ws_skip (by simp) ?_
      refine ws_cons (N' := fun τ s => ∃ fs : List Ed, fs.length ≤ 35 ∧ (∀ e ∈ fs, e.ok k) ∧ τ = [some C, some (.ref 1), some (.int (k : Nat)), some (eds es), some (.bl false), some (tb t), some (tb o), some (owD (best es t o 0 0)), some (eds fs), none, none] ∧ DS ns s) ?_ fun τ s9 hp => ?_
      · simp only [sSeq_e, sIf_e, sSet_e, sExpr_e, sRet_e, sRetN_e, sNil_e, sFor_e, sBrk_e, sCnt_e, sSub_e, sAsg_e, W_fin, WS_seq, WS_bindE, WS_nx, WS_rt, WS_bk, WS_ct]
        simp
        exact w_some_near D8 k0 k5 fun es s h1 h2 D2 F2 => ⟨es, h1, h2, rfl, D2⟩
      obtain ⟨fs, lf, hf, rfl, D9⟩ := hp
      refine ws_cons (N' := fun τ s => τ = [some C, some (.ref 1), some (.int (k : Nat)), some (eds es), some (.bl false), some (tb t), some (tb o), some (owD (best es t o 0 0)), some (eds fs), none, none] ∧ DS ns s) ?_ fun τ s10 hp => ?_
      · simp only [sSeq_e, sIf_e, sSet_e, sExpr_e, sRet_e, sRetN_e, sNil_e, sFor_e, sBrk_e, sCnt_e, sSub_e, sAsg_e, W_fin, WS_seq, WS_bindE, WS_nx, WS_rt, WS_bk, WS_ct]
        simp
        refine w_best lf (by omega) (by omega) fun s G1 => ?_
        refine w_rightK rfl hf lt60 lo tp fun s G => ?_
        simp
        exact G.ds (G1.ds D9)
      obtain ⟨rfl, D10⟩ := hp
      obtain ⟨KP, hKP⟩ : ∃ KP : Wy, KP = (0, t.map Stp.keep) := ⟨_, rfl⟩
      have dt : ∀ s, dSq s (tb t) = some (.fix (t.map D.int)) := fun s => rfl
      refine ws_cons (N' := fun τ s => τ = [some C, some (.ref 1), some (.int (k : Nat)), some (eds es), some (.bl false), some (tb t), some (tb o), some (owD (best es t o 0 0)), some (eds fs), some (wyD KP), none] ∧ DS ns s) ?_ fun τ s11 hp => ?_
      · simp only [sSeq_e, sIf_e, sSet_e, sExpr_e, sRet_e, sRetN_e, sNil_e, sFor_e, sBrk_e, sCnt_e, sSub_e, sAsg_e, W_fin, WS_seq, WS_bindE, WS_nx, WS_rt, WS_bk, WS_ct]
        simp [lComp_e, dt]
        refine w_lc (by show (t.map D.int).length ≤ _; rw [List.length_map]; omega) ?_
        refine w_map D.int (fun x => (Stp.keep x).d) t rfl rfl (fun x _ => ⟨_, rfl, by simp [wipeD, Stp.d]⟩) ?_
        have e : D.tup [.int 0, .tup (t.map fun x => (Stp.keep x).d)] = wyD KP := by
          rw [hKP]
          simp [wyD, als]
        exact ⟨by simpa using e, D10⟩
      obtain ⟨rfl, D11⟩ := hp
      refine ws_cons (N' := fun τ s => τ = [some C, some (.ref 1), some (.int (k : Nat)), some (eds es), some (.bl false), some (tb t), some (tb o), some (owD (best es t o 0 0)), some (eds fs), some (wyD KP), none] ∧ DS ns s) ?_ fun τ s12 hp => ?_
      · have eqt : ∀ s, oEq (tb t) (tb o) s = .ok (.bl (decide (t = o))) s := fun s => by
          have p60 : ∀ l : List Int, (D.tup (l.map D.int)).plain 60 = true := fun l => by
            show ((l.map D.int).all (D.plain 59)) = true
            simp
          have e := oEq_tup (st := s) (a := t.map D.int) (b := o.map D.int) (p60 t) (p60 o)
          have e2 : oEq (tb t) (tb o) s = _ := e
          rw [e2]
          congr 2
          rw [decide_eq_decide]
          exact List.map_inj_right fun _ _ h => D.int.inj h
        have nb : (D.tup [] : D) = eds [] := rfl
        by_cases ht : t = o
        · subst ht
          simp only [sSeq_e, sIf_e, sSet_e, sExpr_e, sRet_e, sRetN_e, sNil_e, sFor_e, sBrk_e, sCnt_e, sSub_e, sAsg_e, W_fin, WS_seq, WS_bindE, WS_nx, WS_rt, WS_bk, WS_ct]
          simp [eqt]
          rw [nb]
          refine w_rightK (due := some KP) (by rw [hKP, best_self]) (fun _ h => nomatch h) lt60 lo tp fun s G => ?_
          simp
          exact G.ds D11
        · simp only [sSeq_e, sIf_e, sSet_e, sExpr_e, sRet_e, sRetN_e, sNil_e, sFor_e, sBrk_e, sCnt_e, sSub_e, sAsg_e, W_fin, WS_seq, WS_bindE, WS_nx, WS_rt, WS_bk, WS_ct]
          simp [eqt, ht]
          rw [nb]
          refine w_rightK (due := none) (best_bare ht).symm (fun _ h => nomatch h) lt60 lo tp fun s G => ?_
          simp
          exact G.ds D11
      obtain ⟨rfl, D12⟩ := hp
      simp only [sSeq_e, sIf_e, sSet_e, sExpr_e, sRet_e, sRetN_e, sNil_e, sFor_e, sBrk_e, sCnt_e, sSub_e, sAsg_e, W_fin, WS_seq, WS_bindE, WS_nx, WS_rt, WS_bk, WS_ct]
      simp
      refine w_rightK (due := some KP) (by rw [hKP, best_self]) he lt60 lt60 tp fun s G => ?_
      simp
      exact w_rightK rfl he lt60 lo tp fun s G => rfl
  obtain ⟨d, s, e, rfl⟩ := main.ex
  exact ⟨s, e⟩

/-! ### the head -/
def fn : List He.DefD := [⟨("lesser", none), "lesser", "lesser", defArgs s_lesser, defBody s_lesser, defScope s_lesser, [], []⟩,
  ⟨("one_more", none), "one_more", "one_more", defArgs s_one_more, defBody s_one_more, defScope s_one_more, [], []⟩,
  ⟨("cost_rows", none), "cost_rows", "cost_rows", defArgs s_cost_rows, defBody s_cost_rows, defScope s_cost_rows, [], []⟩,
  ⟨("cost_at", none), "cost_at", "cost_at", defArgs s_cost_at, defBody s_cost_at, defScope s_cost_at, [], []⟩,
  ⟨("steps_from", none), "steps_from", "steps_from", defArgs s_steps_from, defBody s_steps_from, defScope s_steps_from, [], []⟩,
  ⟨("distance", none), "distance", "distance", defArgs s_distance, defBody s_distance, defScope s_distance, [], []⟩,
  ⟨("left_rows", none), "left_rows", "left_rows", defArgs s_left_rows, defBody s_left_rows, defScope s_left_rows, [], []⟩,
  ⟨("least_alignment", none), "least_alignment", "least_alignment", defArgs s_least_alignment, defBody s_least_alignment, defScope s_least_alignment, [], []⟩,
  ⟨("_law_begin", none), "_law_begin", "_law_begin", defArgs s__law_begin, defBody s__law_begin, defScope s__law_begin, [], []⟩,
  ⟨("_law_draw", none), "_law_draw", "_law_draw", defArgs s__law_draw, defBody s__law_draw, defScope s__law_draw, [], []⟩,
  ⟨("_law_pick", none), "_law_pick", "_law_pick", defArgs s__law_pick, defBody s__law_pick, defScope s__law_pick, [], []⟩,
  ⟨("_law_rare", none), "_law_rare", "_law_rare", defArgs s__law_rare, defBody s__law_rare, defScope s__law_rare, [], []⟩,
  ⟨("_law_shuffled", none), "_law_shuffled", "_law_shuffled", defArgs s__law_shuffled, defBody s__law_shuffled, defScope s__law_shuffled, [], []⟩,
  ⟨("_law_is_int", none), "_law_is_int", "_law_is_int", defArgs s__law_is_int, defBody s__law_is_int, defScope s__law_is_int, [], []⟩,
  ⟨("_law_all_edits", none), "_law_all_edits", "_law_all_edits", defArgs s__law_all_edits, defBody s__law_all_edits, defScope s__law_all_edits, [], []⟩,
  ⟨("_law_near", none), "_law_near", "_law_near", defArgs s__law_near, defBody s__law_near, defScope s__law_near, [], []⟩,
  ⟨("_law_table", none), "_law_table", "_law_table", defArgs s__law_table, defBody s__law_table, defScope s__law_table, [], []⟩,
  ⟨("_law_bent", none), "_law_bent", "_law_bent", defArgs s__law_bent, defBody s__law_bent, defScope s__law_bent, [], []⟩,
  ⟨("_law_side", none), "_law_side", "_law_side", defArgs s__law_side, defBody s__law_side, defScope s__law_side, [], []⟩,
  ⟨("_law_is_alignment", none), "_law_is_alignment", "_law_is_alignment", defArgs s__law_is_alignment, defBody s__law_is_alignment, defScope s__law_is_alignment, [], []⟩,
  ⟨("_law_ahead", none), "_law_ahead", "_law_ahead", defArgs s__law_ahead, defBody s__law_ahead, defScope s__law_ahead, [], []⟩,
  ⟨("_law_ways", none), "_law_ways", "_law_ways", defArgs s__law_ways, defBody s__law_ways, defScope s__law_ways, [], []⟩,
  ⟨("_law_best", none), "_law_best", "_law_best", defArgs s__law_best, defBody s__law_best, defScope s__law_best, [], []⟩,
  ⟨("_law_right", none), "_law_right", "_law_right", defArgs s__law_right, defBody s__law_right, defScope s__law_right, [], []⟩,
  ⟨("_law_some_near", none), "_law_some_near", "_law_some_near", defArgs s__law_some_near, defBody s__law_some_near, defScope s__law_some_near, [], []⟩,
  ⟨("_law_runs", none), "_law_runs", "_law_runs", defArgs s__law_runs, defBody s__law_runs, defScope s__law_runs, [], []⟩,
  ⟨("_law_other_table", none), "_law_other_table", "_law_other_table", defArgs s__law_other_table, defBody s__law_other_table, defScope s__law_other_table, [], []⟩,
  ⟨("law", none), "law", "law", defArgs s_law, defBody s_law, defScope s_law, [], []⟩]
def fa : List He.Fa := [.glo "lesser", .glo "one_more", .glo "cost_rows", .glo "cost_at", .glo "steps_from", .glo "distance", .glo "left_rows", .glo "least_alignment", .glo "_law_begin", .glo "_law_draw", .glo "_law_pick", .glo "_law_rare", .glo "_law_shuffled", .glo "_law_is_int", .glo "_law_all_edits", .glo "_law_near", .glo "_law_table", .glo "_law_bent", .glo "_law_side", .glo "_law_is_alignment", .glo "_law_ahead", .glo "_law_ways", .glo "_law_best", .glo "_law_right", .glo "_law_some_near", .glo "_law_runs", .glo "_law_other_table", .glo "law", .free "range", .free "len", .free "tuple", .free "int", .free "abs", .free "list", .free "isinstance", .free "bool", .free "str", .free "all", .free "min"]
def fx : List Fx := []
abbrev hk : PySem.W.Hook := hookM 5 fa fx fn
def ob (s : PySem.W.SharedT) : He.AlD := obsMG 5 fa fx fn (HandSHeadRun.getT s)
theorem ob_eq (s : PySem.W.SharedT) : ob s = hk.obs s.abs := obsMG_eq (HandSHeadRun.getT_eq s)
def nm0 : List PySem.Str := ["lesser", "one_more", "cost_rows", "cost_at", "steps_from", "distance", "left_rows", "least_alignment", "_law_begin", "_law_draw", "_law_pick", "_law_rare", "_law_shuffled", "_law_is_int", "_law_all_edits", "_law_near", "_law_table", "_law_bent", "_law_side", "_law_is_alignment", "_law_ahead", "_law_ways", "_law_best", "_law_right", "_law_some_near", "_law_runs", "_law_other_table"]
def nms : List PySem.Str := nm0
theorem run (w : World) : HandSHeadRun.RunEq (PySem.W.OpenLaw.row PySem.Challenge.rw_closedratios_k06_least_alignments) (PySem.W.view (PySem.W.OpenLaw.row PySem.Challenge.rw_closedratios_k06_least_alignments).prog [29]) hk ob 6000 nms w := by
  intro os
  kernel_rfl
theorem facts {P : Program} {w : World} {K : PySem.W.Frag} {h : Heap} {mg : PySem.Str → Option Value} {f : Addr} (X : K.In h) (G : h.Ns mainGlobals mg) (hfa : mg ("law" : PySem.Str) = some (.ref f)) (c : SaysM fa fx fn K) :
    ∃ fd : FuncData, (∀ (s : Shared) (v : Value), BindsTo s fd ⟨[v], []⟩ [("script", v)]) ∧ ∀ base : Heap, K.In base → base.Ns mainGlobals mg → FnM P w K mg base 6 f fd ["script"] f_law := by
  obtain ⟨fd_lesser, F_lesser⟩ := c.def_ 0 rfl
  have gx_lesser := He.glo_ok X G (c.fact 0 (f := .glo "lesser") rfl)
  obtain ⟨fd_one_more, F_one_more⟩ := c.def_ 1 rfl
  have gx_one_more := He.glo_ok X G (c.fact 1 (f := .glo "one_more") rfl)
  obtain ⟨fd_cost_rows, F_cost_rows⟩ := c.def_ 2 rfl
  have gx_cost_rows := He.glo_ok X G (c.fact 2 (f := .glo "cost_rows") rfl)
  obtain ⟨fd_cost_at, F_cost_at⟩ := c.def_ 3 rfl
  have gx_cost_at := He.glo_ok X G (c.fact 3 (f := .glo "cost_at") rfl)
  obtain ⟨fd_steps_from, F_steps_from⟩ := c.def_ 4 rfl
  have gx_steps_from := He.glo_ok X G (c.fact 4 (f := .glo "steps_from") rfl)
  obtain ⟨fd_distance, F_distance⟩ := c.def_ 5 rfl
  have gx_distance := He.glo_ok X G (c.fact 5 (f := .glo "distance") rfl)
  obtain ⟨fd_left_rows, F_left_rows⟩ := c.def_ 6 rfl
  have gx_left_rows := He.glo_ok X G (c.fact 6 (f := .glo "left_rows") rfl)
  obtain ⟨fd_least_alignment, F_least_alignment⟩ := c.def_ 7 rfl
  have gx_least_alignment := He.glo_ok X G (c.fact 7 (f := .glo "least_alignment") rfl)
  obtain ⟨fd__law_begin, F__law_begin⟩ := c.def_ 8 rfl
  have gx__law_begin := He.glo_ok X G (c.fact 8 (f := .glo "_law_begin") rfl)
  obtain ⟨fd__law_draw, F__law_draw⟩ := c.def_ 9 rfl
  have gx__law_draw := He.glo_ok X G (c.fact 9 (f := .glo "_law_draw") rfl)
  obtain ⟨fd__law_pick, F__law_pick⟩ := c.def_ 10 rfl
  have gx__law_pick := He.glo_ok X G (c.fact 10 (f := .glo "_law_pick") rfl)
  obtain ⟨fd__law_rare, F__law_rare⟩ := c.def_ 11 rfl
  have gx__law_rare := He.glo_ok X G (c.fact 11 (f := .glo "_law_rare") rfl)
  obtain ⟨fd__law_shuffled, F__law_shuffled⟩ := c.def_ 12 rfl
  have gx__law_shuffled := He.glo_ok X G (c.fact 12 (f := .glo "_law_shuffled") rfl)
  obtain ⟨fd__law_is_int, F__law_is_int⟩ := c.def_ 13 rfl
  have gx__law_is_int := He.glo_ok X G (c.fact 13 (f := .glo "_law_is_int") rfl)
  obtain ⟨fd__law_all_edits, F__law_all_edits⟩ := c.def_ 14 rfl
  have gx__law_all_edits := He.glo_ok X G (c.fact 14 (f := .glo "_law_all_edits") rfl)
  obtain ⟨fd__law_near, F__law_near⟩ := c.def_ 15 rfl
  have gx__law_near := He.glo_ok X G (c.fact 15 (f := .glo "_law_near") rfl)
  obtain ⟨fd__law_table, F__law_table⟩ := c.def_ 16 rfl
  have gx__law_table := He.glo_ok X G (c.fact 16 (f := .glo "_law_table") rfl)
  obtain ⟨fd__law_bent, F__law_bent⟩ := c.def_ 17 rfl
  have gx__law_bent := He.glo_ok X G (c.fact 17 (f := .glo "_law_bent") rfl)
  obtain ⟨fd__law_side, F__law_side⟩ := c.def_ 18 rfl
  have gx__law_side := He.glo_ok X G (c.fact 18 (f := .glo "_law_side") rfl)
  obtain ⟨fd__law_is_alignment, F__law_is_alignment⟩ := c.def_ 19 rfl
  have gx__law_is_alignment := He.glo_ok X G (c.fact 19 (f := .glo "_law_is_alignment") rfl)
  obtain ⟨fd__law_ahead, F__law_ahead⟩ := c.def_ 20 rfl
  have gx__law_ahead := He.glo_ok X G (c.fact 20 (f := .glo "_law_ahead") rfl)
  obtain ⟨fd__law_ways, F__law_ways⟩ := c.def_ 21 rfl
  have gx__law_ways := He.glo_ok X G (c.fact 21 (f := .glo "_law_ways") rfl)
  obtain ⟨fd__law_best, F__law_best⟩ := c.def_ 22 rfl
  have gx__law_best := He.glo_ok X G (c.fact 22 (f := .glo "_law_best") rfl)
  obtain ⟨fd__law_right, F__law_right⟩ := c.def_ 23 rfl
  have gx__law_right := He.glo_ok X G (c.fact 23 (f := .glo "_law_right") rfl)
  obtain ⟨fd__law_some_near, F__law_some_near⟩ := c.def_ 24 rfl
  have gx__law_some_near := He.glo_ok X G (c.fact 24 (f := .glo "_law_some_near") rfl)
  obtain ⟨fd__law_runs, F__law_runs⟩ := c.def_ 25 rfl
  have gx__law_runs := He.glo_ok X G (c.fact 25 (f := .glo "_law_runs") rfl)
  obtain ⟨fd__law_other_table, F__law_other_table⟩ := c.def_ 26 rfl
  have gx__law_other_table := He.glo_ok X G (c.fact 26 (f := .glo "_law_other_table") rfl)
  obtain ⟨fd_law, F_law⟩ := c.def_ 27 rfl
  have z_range := He.free_ok X G (c.fact 28 (f := .free "range") rfl)
  have z_len := He.free_ok X G (c.fact 29 (f := .free "len") rfl)
  have z_tuple := He.free_ok X G (c.fact 30 (f := .free "tuple") rfl)
  have z_int := He.free_ok X G (c.fact 31 (f := .free "int") rfl)
  have z_abs := He.free_ok X G (c.fact 32 (f := .free "abs") rfl)
  have z_list := He.free_ok X G (c.fact 33 (f := .free "list") rfl)
  have z_isinstance := He.free_ok X G (c.fact 34 (f := .free "isinstance") rfl)
  have z_bool := He.free_ok X G (c.fact 35 (f := .free "bool") rfl)
  have z_str := He.free_ok X G (c.fact 36 (f := .free "str") rfl)
  have z_all := He.free_ok X G (c.fact 37 (f := .free "all") rfl)
  have z_min := He.free_ok X G (c.fact 38 (f := .free "min") rfl)
  have e := hfa.symm.trans (He.glo_ok X G (c.fact 27 (f := .glo "law") rfl))
  cases e
  refine ⟨fd_law, fun s v => FunD.bindsA (ps := ["script"]) F_law (fun _ _ _ _ _ _ us hl => match us, hl with | [_], _ => rfl) s [v] rfl, fun base _ _ => ?_⟩
  have c_lesser := (ok_lesser (P := P) (w := w) (base := base) F_lesser gx_lesser ).le le_lesser
  have c_one_more := (ok_one_more (P := P) (w := w) (base := base) F_one_more gx_one_more ).le le_one_more
  have c_cost_at := (ok_cost_at (P := P) (w := w) (base := base) F_cost_at gx_cost_at c_one_more c_lesser).le le_cost_at
  have c_cost_rows := (ok_cost_rows (P := P) (w := w) (base := base) F_cost_rows gx_cost_rows c_cost_at z_range z_len).le le_cost_rows
  have c_steps_from := (ok_steps_from (P := P) (w := w) (base := base) F_steps_from gx_steps_from z_len).le le_steps_from
  have c_distance := (ok_distance (P := P) (w := w) (base := base) F_distance gx_distance c_cost_rows z_len).le le_distance
  have c_left_rows := (ok_left_rows (P := P) (w := w) (base := base) F_left_rows gx_left_rows c_steps_from c_lesser z_range z_len).le le_left_rows
  have c_least_alignment := (ok_least_alignment (P := P) (w := w) (base := base) F_least_alignment gx_least_alignment c_left_rows c_steps_from z_len z_tuple).le le_least_alignment
  have c__law_begin := (ok__law_begin (P := P) (w := w) (base := base) F__law_begin gx__law_begin z_int).le le__law_begin
  have c__law_draw := (ok__law_draw (P := P) (w := w) (base := base) F__law_draw gx__law_draw z_int z_len z_abs).le le__law_draw
  have c__law_pick := (ok__law_pick (P := P) (w := w) (base := base) F__law_pick gx__law_pick c__law_draw z_len).le le__law_pick
  have c__law_rare := (ok__law_rare (P := P) (w := w) (base := base) F__law_rare gx__law_rare c__law_draw).le le__law_rare
  have c__law_shuffled := (ok__law_shuffled (P := P) (w := w) (base := base) F__law_shuffled gx__law_shuffled c__law_draw z_list z_range z_len).le le__law_shuffled
  have c__law_is_int := (ok__law_is_int (P := P) (w := w) (base := base) F__law_is_int gx__law_is_int z_int z_isinstance z_bool).le le__law_is_int
  have c__law_all_edits := (ok__law_all_edits (P := P) (w := w) (base := base) F__law_all_edits gx__law_all_edits z_range z_tuple).le le__law_all_edits
  have c__law_near := (ok__law_near (P := P) (w := w) (base := base) F__law_near gx__law_near c__law_all_edits c__law_draw z_tuple).le le__law_near
  have c__law_table := (ok__law_table (P := P) (w := w) (base := base) F__law_table gx__law_table c__law_draw z_range z_tuple).le le__law_table
  have c__law_bent := (ok__law_bent (P := P) (w := w) (base := base) F__law_bent gx__law_bent c__law_draw c__law_pick z_list z_len z_tuple).le le__law_bent
  have c__law_side := (ok__law_side (P := P) (w := w) (base := base) F__law_side gx__law_side z_tuple).le le__law_side
  have c__law_is_alignment := (ok__law_is_alignment (P := P) (w := w) (base := base) F__law_is_alignment gx__law_is_alignment c__law_is_int z_tuple z_isinstance z_len z_str z_all).le le__law_is_alignment
  have c__law_ahead := (ok__law_ahead (P := P) (w := w) (base := base) F__law_ahead gx__law_ahead ).le le__law_ahead
  have c__law_ways := (ok__law_ways (P := P) (w := w) (base := base) F__law_ways gx__law_ways c__law_ahead z_len).le le__law_ways
  have c__law_best := (ok__law_best (P := P) (w := w) (base := base) F__law_best gx__law_best c__law_ways z_range z_len z_min).le le__law_best
  have c__law_right := (ok__law_right (P := P) (w := w) (base := base) F__law_right gx__law_right c_distance c_least_alignment c__law_is_int c__law_is_alignment).le le__law_right
  have c__law_some_near := (ok__law_some_near (P := P) (w := w) (base := base) F__law_some_near gx__law_some_near c__law_all_edits c__law_draw c__law_pick c__law_near).le le__law_some_near
  have c__law_runs := (ok__law_runs (P := P) (w := w) (base := base) F__law_runs gx__law_runs c__law_draw z_range z_tuple).le le__law_runs
  have c__law_other_table := (ok__law_other_table (P := P) (w := w) (base := base) F__law_other_table gx__law_other_table c__law_draw c__law_runs c__law_table c__law_shuffled c__law_side c__law_bent z_tuple z_len).le le__law_other_table
  exact (ok_law (P := P) (w := w) (base := base) F_law c__law_begin c__law_draw c__law_some_near c__law_rare c__law_runs c__law_table c__law_other_table c__law_best c__law_right z_min z_tuple).le le_law
end K06
open PySem PySem.W PySem.Calls PyProof.Rows
set_option maxHeartbeats 0 in
theorem PySem.Challenge.cw_closedratios_k06_least_alignments_holds : PySem.Challenge.rw_closedratios_k06_least_alignments.Holds := by
  w_on; o_law
  refine HandSHeadRun.head_any (r := OpenLaw.row PySem.Challenge.rw_closedratios_k06_least_alignments) (q := view (OpenLaw.row PySem.Challenge.rw_closedratios_k06_least_alignments).prog [29]) (H := K06.hk) (ob := K06.ob) (M := 6000) (loose := K06.nms) (d := HandSHeadRun.topDef (OpenLaw.row PySem.Challenge.rw_closedratios_k06_least_alignments).prog 29) (kwd := []) K06.ob_eq
    (by kernel_rfl) (fun s => by kernel_rfl) K06.run (by kernel_rfl) (by kernel_rfl) (by kernel_rfl) (by rfl) (by first | assumption | decide +kernel) (by decide +kernel) ⟨rfl, rfl, rfl, rfl, rfl, by decide +kernel⟩ ?hw ?hc
  case hw => w_witness2
  case hc =>
    refine L2.walk_ofE (l := PySem.Challenge.rw_closedratios_k06_least_alignments) (n := 63) (k := 6) (x := "script") (CX := L2.CX0) rfl (by decide) (by kernel_rfl) ⟨rfl, by decide, by decide⟩ ?F (fun _ _ _ _ z => z)
    intro w mg fa h Y G hmg0
    obtain ⟨K, KX, c⟩ := Y
    have hmg : mg ("law" : PySem.Str) = some (.ref fa) := by
      have e : (HandSHeadRun.topDef (OpenLaw.row PySem.Challenge.rw_closedratios_k06_least_alignments).prog 29).name = ("law" : PySem.Str) := by kernel_rfl
      rw [← e]
      exact hmg0
    obtain ⟨fd, hb, hF⟩ := K06.facts (P := (PySem.Challenge.rw_closedratios_k06_least_alignments).prog) (w := w) KX G hmg c
    exact ⟨K, fd, (fun vs H Q _ => HM.spM ⟨K, w⟩ 1 K06.f_law vs H Q fun _ _ _ => False), KX, hb, fun H a ns hl ho hS => HM.law_sp (n := 63) K06.law_holds H a ns hl ho hS, fun base h1 h2 => (hF base h1 h2).shut⟩
