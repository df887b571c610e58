import PyProof.Rows.All
import Wide.All
import OpenK.AllK
import Wide.FinOn
import HandS.ForMost
import HandS.ForExc
import HandS.Wide
import HandS.Gcd
import HandS.Flow
import HandS.IsInst
import HandS.Conv
import HandS.TupAny
import HandS.Zip
import HandS.CallSlots
import HandS.TupLe
import HandS.ExcBuiltin
import HandS.TryOnly
import HandS.Defaults
import HandS.HeadEnd
import HandS.HeadHook1
import HandS.HeadHook2
import KE.KStateDown
import Lean
import HandS.Head0
import HandS.Head1
import HandS.Head2
import HandS.Head3
import HandS.More
import HandS.Deep
import HandS.Text
import KE.KTupSum
import KE.KMathGC
import HandS.Codes
import HandS.TupMul
import KE.GoesZip
import KE.GoesMore
import PySem.Challenge.RW_closedratios_k54_views_and_worths
set_option Elab.async false
set_option linter.all false
set_option maxRecDepth 100000
set_option maxHeartbeats 4000000
/-! HM: a layer of values over the hand layer. Part 1: values, stores, judgements. -/
namespace HM
open PySem PySem.Spec PyProof.Rows L2

/-! ### values -/
inductive D where
  | non | bl (b : Bool) | int (i : Int) | str (x : List Nat) | tup (xs : List D) | ref (n : Nat) | ty (n : String) | adr (a : Addr) | rol (xs : List D)
mutual
def D.dec : (a b : D) → Decidable (a = b)
  | .non, .non => Decidable.isTrue rfl
  | .bl a, .bl b => if h : a = b then Decidable.isTrue (h ▸ rfl) else Decidable.isFalse (fun e => h (D.bl.inj e))
  | .int a, .int b => if h : a = b then Decidable.isTrue (h ▸ rfl) else Decidable.isFalse (fun e => h (D.int.inj e))
  | .str a, .str b => if h : a = b then Decidable.isTrue (h ▸ rfl) else Decidable.isFalse (fun e => h (D.str.inj e))
  | .ref a, .ref b => if h : a = b then Decidable.isTrue (h ▸ rfl) else Decidable.isFalse (fun e => h (D.ref.inj e))
  | .ty a, .ty b => if h : a = b then Decidable.isTrue (h ▸ rfl) else Decidable.isFalse (fun e => h (D.ty.inj e))
  | .adr a, .adr b => if h : a = b then Decidable.isTrue (h ▸ rfl) else Decidable.isFalse (fun e => h (D.adr.inj e))
  | .tup a, .tup b => match D.decAll a b with
    | .isTrue h => Decidable.isTrue (h ▸ rfl)
    | .isFalse h => Decidable.isFalse (fun e => h (D.tup.inj e))
  | .rol a, .rol b => match D.decAll a b with
    | .isTrue h => Decidable.isTrue (h ▸ rfl)
    | .isFalse h => Decidable.isFalse (fun e => h (D.rol.inj e))
  | .non, .bl _ | .non, .int _ | .non, .str _ | .non, .tup _ | .non, .ref _ | .non, .ty _ | .non, .adr _ | .non, .rol _ => Decidable.isFalse nofun
  | .bl _, .non | .bl _, .int _ | .bl _, .str _ | .bl _, .tup _ | .bl _, .ref _ | .bl _, .ty _ | .bl _, .adr _ | .bl _, .rol _ => Decidable.isFalse nofun
  | .int _, .non | .int _, .bl _ | .int _, .str _ | .int _, .tup _ | .int _, .ref _ | .int _, .ty _ | .int _, .adr _ | .int _, .rol _ => Decidable.isFalse nofun
  | .str _, .non | .str _, .bl _ | .str _, .int _ | .str _, .tup _ | .str _, .ref _ | .str _, .ty _ | .str _, .adr _ | .str _, .rol _ => Decidable.isFalse nofun
  | .tup _, .non | .tup _, .bl _ | .tup _, .int _ | .tup _, .str _ | .tup _, .ref _ | .tup _, .ty _ | .tup _, .adr _ | .tup _, .rol _ => Decidable.isFalse nofun
  | .ref _, .non | .ref _, .bl _ | .ref _, .int _ | .ref _, .str _ | .ref _, .tup _ | .ref _, .ty _ | .ref _, .adr _ | .ref _, .rol _ => Decidable.isFalse nofun
  | .ty _, .non | .ty _, .bl _ | .ty _, .int _ | .ty _, .str _ | .ty _, .tup _ | .ty _, .ref _ | .ty _, .adr _ | .ty _, .rol _ => Decidable.isFalse nofun
  | .rol _, .non | .rol _, .bl _ | .rol _, .int _ | .rol _, .str _ | .rol _, .tup _ | .rol _, .ref _ | .rol _, .ty _ | .rol _, .adr _ => Decidable.isFalse nofun
  | .adr _, .non | .adr _, .bl _ | .adr _, .int _ | .adr _, .str _ | .adr _, .tup _ | .adr _, .ref _ | .adr _, .ty _ | .adr _, .rol _ => Decidable.isFalse nofun
def D.decAll : (a b : List D) → Decidable (a = b)
  | [], [] => Decidable.isTrue rfl
  | [], _ :: _ => Decidable.isFalse nofun
  | _ :: _, [] => Decidable.isFalse nofun
  | x :: xs, y :: ys => match D.dec x y with
    | .isFalse h => Decidable.isFalse (fun e => h (List.cons.inj e).1)
    | .isTrue h => match D.decAll xs ys with
      | .isTrue h2 => Decidable.isTrue (by rw [h, h2])
      | .isFalse h2 => Decidable.isFalse (fun e => h2 (List.cons.inj e).2)
end
instance : DecidableEq D := D.dec
instance : Inhabited D := ⟨.non⟩
/-- what stands in a cell of the store -/
inductive Cell where
  | lst (xs : List D)
  deriving DecidableEq, Inhabited
abbrev Store := List Cell
abbrev Sl := List (Option D)
/-- an exception: its class, its fields -/
structure Xc where
  cls : D
  fs : List (Str × D) := []
/-- what an evaluation gives -/
inductive ER (α : Type) where
  | ok (a : α) (st : Store) | exc (x : Xc) (st : Store) | bad
def ER.bind {α β : Type} (r : ER α) (k : α → Store → ER β) : ER β := match r with
  | .ok a st => k a st
  | .exc x st => .exc x st
  | .bad => .bad
@[simp] theorem ER.bind_ok {α β : Type} (a : α) (st : Store) (k : α → Store → ER β) : (ER.ok a st).bind k = k a st := rfl
@[simp] theorem ER.bind_exc {α β : Type} (x : Xc) (st : Store) (k : α → Store → ER β) : (ER.exc x st : ER α).bind k = .exc x st := rfl
@[simp] theorem ER.bind_bad {α β : Type} (k : α → Store → ER β) : (ER.bad : ER α).bind k = .bad := rfl
/-- what a statement gives -/
inductive SR where
  | nx (τ : Sl) (st : Store) | bk (τ : Sl) (st : Store) | ct (τ : Sl) (st : Store) | rt (d : D) (st : Store) | exc (x : Xc) (τ : Sl) (st : Store) | bad
abbrev EM (α : Type) := Sl → Store → ER α
abbrev SM := Sl → Store → SR

/-! ### how values stand for those of the layer -/
/-- a list that nobody writes -/
def FzL (K : PySem.W.Frag) (H : Hp) (a : Addr) (xs : List V) : Prop :=
  (∃ o, H a = some (.frz o (.lst xs))) ∨
    ∃ (o : Obj) (its : Array Value) (n : Nat), K.lookup a = some o ∧ o.cls = .type "list" ∧ o.dict = none ∧ o.data = .seq its n ∧ its.size ≤ sizeLine ∧ Vals xs its.toList
theorem FzL.sq {K : PySem.W.Frag} {H : Hp} {a : Addr} {xs : List V} (h : FzL K H a xs) : SqL K H a xs := by
  rcases h with ⟨o, h⟩ | h
  · exact .inl (.inr ⟨o, h⟩)
  · exact .inr h
theorem FzL.of {K : PySem.W.Frag} {H : Hp} {a : Addr} {xs : List V} (h : SqL K H a xs) (n : ∀ ys, H a ≠ some (.lst ys)) : FzL K H a xs := by
  rcases h with (h | h) | h
  · exact absurd h (n xs)
  · exact .inl h
  · exact .inr h
theorem FzL.new {K : PySem.W.Frag} {H : Hp} {p : Addr} {o : HO} (h : H p = none) {a : Addr} {vs : List V} (s : FzL K H a vs) : FzL K (upd H p o) a vs := by
  rcases s with ⟨ob, s⟩ | s
  · exact .inl ⟨ob, by rw [upd_ne (ne_of_none s h)]; exact s⟩
  · exact .inr s
mutual
inductive RD (K : PySem.W.Frag) (m : List Addr) (H : Hp) : D → V → Prop
  | non : RD K m H .non .non
  | bl (b : Bool) : RD K m H (.bl b) (.bl b)
  | int (i : Int) : RD K m H (.int i) (.int i)
  | str (x : List Nat) : RD K m H (.str x) (.str ⟨x.toArray⟩)
  | ty (n : String) : RD K m H (.ty n) (.ty n)
  | adr (a : Addr) : RD K m H (.adr a) (.ref a)
  | tup {a : Addr} {vs : List V} {ds : List D} : SqT K H a vs → RDs K m H ds vs → RD K m H (.tup ds) (.ref a)
  | rol {a : Addr} {vs : List V} {ds : List D} : FzL K H a vs → RDs K m H ds vs → RD K m H (.rol ds) (.ref a)
  | ref {n : Nat} {a : Addr} : m[n]? = some a → RD K m H (.ref n) (.ref a)
inductive RDs (K : PySem.W.Frag) (m : List Addr) (H : Hp) : List D → List V → Prop
  | nil : RDs K m H [] []
  | cons {d : D} {v : V} {ds : List D} {vs : List V} : RD K m H d v → RDs K m H ds vs → RDs K m H (d :: ds) (v :: vs)
end
/-- what values lean on is kept -/
structure Kp (K : PySem.W.Frag) (m : List Addr) (H : Hp) (m' : List Addr) (H' : Hp) : Prop where
  pre : ∀ (n : Nat) (a : Addr), m[n]? = some a → m'[n]? = some a
  tup : ∀ (a : Addr) (vs : List V), SqT K H a vs → SqT K H' a vs
  fzl : ∀ (a : Addr) (vs : List V), FzL K H a vs → FzL K H' a vs
/-- all that was is kept, but what the store may change -/
structure Ext (K : PySem.W.Frag) (m : List Addr) (H : Hp) (m' : List Addr) (H' : Hp) : Prop extends Kp K m H m' H' where
  frm : ∀ (a : Addr) (o : HO), a ∉ m → H a = some o → H' a = some o
  new : ∀ a : Addr, a ∈ m' → a ∉ m → H a = none
section
variable {K : PySem.W.Frag} {m m1 m2 m' : List Addr} {H H1 H2 H' : Hp}
theorem Ext.refl : Ext K m H m H := ⟨⟨fun _ _ h => h, fun _ _ h => h, fun _ _ h => h⟩, fun _ _ _ h => h, fun _ h n => absurd h n⟩
theorem Ext.mem (e : Ext K m H m1 H1) {a : Addr} (h : a ∈ m) : a ∈ m1 := by
  obtain ⟨n, q⟩ := List.getElem?_of_mem h
  exact List.mem_of_getElem? (e.pre n a q)
theorem Ext.trans (e : Ext K m H m1 H1) (f : Ext K m1 H1 m2 H2) : Ext K m H m2 H2 where
  pre := fun n a h => f.pre n a (e.pre n a h)
  tup := fun a vs h => f.tup a vs (e.tup a vs h)
  fzl := fun a vs h => f.fzl a vs (e.fzl a vs h)
  frm := fun a o n h => by
    refine f.frm a o (fun q => ?_) (e.frm a o n h)
    rw [e.new a q n] at h
    cases h
  new := fun a h n => by
    by_cases q : a ∈ m1
    · exact e.new a q n
    · have z := f.new a h q
      cases r : H a with
      | none => rfl
      | some o =>
        rw [e.frm a o n r] at z
        cases z
mutual
theorem RD.kp (e : Kp K m H m' H') : ∀ {d : D} {v : V}, RD K m H d v → RD K m' H' d v
  | _, _, .non => .non
  | _, _, .bl b => .bl b
  | _, _, .int i => .int i
  | _, _, .str x => .str x
  | _, _, .ty n => .ty n
  | _, _, .adr a => .adr a
  | _, _, .tup h r => .tup (e.tup _ _ h) (RDs.kp e r)
  | _, _, .rol h r => .rol (e.fzl _ _ h) (RDs.kp e r)
  | _, _, .ref h => .ref (e.pre _ _ h)
theorem RDs.kp (e : Kp K m H m' H') : ∀ {ds : List D} {vs : List V}, RDs K m H ds vs → RDs K m' H' ds vs
  | _, _, .nil => .nil
  | _, _, .cons h r => .cons (RD.kp e h) (RDs.kp e r)
end
theorem RD.mono (e : Ext K m H m' H') {d : D} {v : V} (r : RD K m H d v) : RD K m' H' d v := r.kp e.toKp
theorem RDs.mono (e : Ext K m H m' H') {ds : List D} {vs : List V} (r : RDs K m H ds vs) : RDs K m' H' ds vs := r.kp e.toKp
theorem RDs.len : ∀ {ds : List D} {vs : List V}, RDs K m H ds vs → ds.length = vs.length
  | _, _, .nil => rfl
  | _, _, .cons _ r => congrArg (· + 1) r.len
theorem RDs.get : ∀ {ds : List D} {vs : List V} {i : Nat} {d : D}, RDs K m H ds vs → ds[i]? = some d → ∃ v, vs[i]? = some v ∧ RD K m H d v
  | _, _, _, _, .nil, e => by simp at e
  | _, _, 0, _, .cons h _, e => by
    simp at e
    subst e
    exact ⟨_, rfl, h⟩
  | _, _, i + 1, d, .cons _ r, e => by
    obtain ⟨v, h1, h2⟩ := RDs.get (i := i) (d := d) r (by simpa using e)
    exact ⟨v, by simpa using h1, h2⟩
theorem RDs.append : ∀ {ds es : List D} {vs us : List V}, RDs K m H ds vs → RDs K m H es us → RDs K m H (ds ++ es) (vs ++ us)
  | _, _, _, _, .nil, s => s
  | _, _, _, _, .cons h r, s => .cons h (RDs.append r s)
theorem RDs.take : ∀ {ds : List D} {vs : List V} (n : Nat), RDs K m H ds vs → RDs K m H (ds.take n) (vs.take n)
  | _, _, 0, _ => .nil
  | _, _, _ + 1, .nil => .nil
  | _, _, n + 1, .cons h r => .cons h (RDs.take n r)
theorem RDs.drop : ∀ {ds : List D} {vs : List V} (n : Nat), RDs K m H ds vs → RDs K m H (ds.drop n) (vs.drop n)
  | _, _, 0, r => r
  | _, _, _ + 1, .nil => .nil
  | _, _, n + 1, .cons _ r => RDs.drop n r
theorem RDs.set {d : D} {v : V} (h : RD K m H d v) : ∀ {ds : List D} {vs : List V} (i : Nat), RDs K m H ds vs → RDs K m H (ds.set i d) (vs.set i v)
  | _, _, _, .nil => .nil
  | _, _, 0, .cons _ r => .cons h r
  | _, _, i + 1, .cons g r => .cons g (RDs.set h i r)
theorem RDs.erase : ∀ {ds : List D} {vs : List V} (i : Nat), RDs K m H ds vs → RDs K m H (ds.eraseIdx i) (vs.eraseIdx i)
  | _, _, _, .nil => .nil
  | _, _, 0, .cons _ r => r
  | _, _, i + 1, .cons g r => .cons g (RDs.erase i r)
theorem RDs.dropLast {ds : List D} {vs : List V} (r : RDs K m H ds vs) : RDs K m H ds.dropLast vs.dropLast := by
  rw [List.dropLast_eq_take, List.dropLast_eq_take, r.len]
  exact r.take _
theorem RDs.one {d : D} {vs : List V} (r : RDs K m H [d] vs) : ∃ v, vs = [v] ∧ RD K m H d v := by
  cases r with
  | cons h r =>
    cases r
    exact ⟨_, rfl, h⟩
theorem RDs.two {d e : D} {vs : List V} (r : RDs K m H [d, e] vs) : ∃ v u, vs = [v, u] ∧ RD K m H d v ∧ RD K m H e u := by
  cases r with
  | cons h r =>
    obtain ⟨u, rfl, h2⟩ := r.one
    exact ⟨_, _, rfl, h, h2⟩
theorem RDs.reverse {ds : List D} {vs : List V} (r : RDs K m H ds vs) : RDs K m H ds.reverse vs.reverse := by
  induction ds generalizing vs with
  | nil =>
    cases r
    exact .nil
  | cons d ds ih =>
    cases r with
    | cons h r =>
      rw [List.reverse_cons, List.reverse_cons]
      exact (ih r).append (.cons h .nil)
theorem RDs.ints : ∀ (ns : List Int), RDs K m H (ns.map D.int) (ns.map V.int)
  | [] => .nil
  | n :: r => .cons (.int n) (RDs.ints r)
/-- a cell and what stands at its address -/
def RC (K : PySem.W.Frag) (m : List Addr) (H : Hp) (a : Addr) : Cell → Prop
  | .lst ds => ∃ vs, H a = some (.lst vs) ∧ RDs K m H ds vs
structure SS (K : PySem.W.Frag) (m : List Addr) (st : Store) (H : Hp) : Prop where
  len : m.length = st.length
  nd : m.Nodup
  cel : ∀ (n : Nat) (c : Cell) (a : Addr), st[n]? = some c → m[n]? = some a → RC K m H a c
/-- the slots -/
structure SL (K : PySem.W.Frag) (m : List Addr) (H : Hp) (τ : Sl) (σ : L2.St) : Prop where
  len : τ.length = σ.length
  get : ∀ (i : Nat) (d : D), τ[i]? = some (some d) → ∃ v, σ[i]? = some (some v) ∧ RD K m H d v
theorem SL.mono {τ : Sl} {σ : L2.St} (s : SL K m H τ σ) (e : Ext K m H m' H') : SL K m' H' τ σ :=
  ⟨s.len, fun i d h => let ⟨v, h1, h2⟩ := s.get i d h; ⟨v, h1, h2.mono e⟩⟩
theorem SL.set {τ : Sl} {σ : L2.St} {d : D} {v : V} (s : SL K m H τ σ) (i : Nat) (r : RD K m H d v) : SL K m H (τ.set i (some d)) (σ.set i (some v)) := by
  refine ⟨by simpa using s.len, fun j e h => ?_⟩
  by_cases hj : i = j
  · subst hj
    by_cases hl : i < τ.length
    · rw [List.getElem?_set_self hl] at h
      simp only [Option.some.injEq] at h
      subst h
      exact ⟨v, by rw [List.getElem?_set_self (by rw [← s.len]; exact hl)], r⟩
    · rw [List.getElem?_eq_none (by simpa using hl)] at h
      cases h
  · rw [List.getElem?_set_ne hj] at h
    rw [List.getElem?_set_ne hj]
    exact s.get j e h
theorem SS.at {st : Store} {n : Nat} {c : Cell} (s : SS K m st H) (h : st[n]? = some c) : ∃ a, m[n]? = some a ∧ RC K m H a c := by
  have hl : n < m.length := by
    rw [s.len]
    exact (List.getElem?_eq_some_iff.mp h).1
  exact ⟨m[n], by simp, s.cel n c _ h (by simp)⟩
theorem sqT_new {p : Addr} {o : HO} (h : H p = none) {a : Addr} {vs : List V} (s : SqT K H a vs) : SqT K (upd H p o) a vs := by
  rcases s with (s | ⟨ob, s⟩) | s
  · exact .inl (.inl (by rw [upd_ne (ne_of_none s h)]; exact s))
  · exact .inl (.inr ⟨ob, by rw [upd_ne (ne_of_none s h)]; exact s⟩)
  · exact .inr s
theorem sqL_new {p : Addr} {o : HO} (h : H p = none) {a : Addr} {vs : List V} (s : SqL K H a vs) : SqL K (upd H p o) a vs := by
  rcases s with (s | ⟨ob, s⟩) | s
  · exact .inl (.inl (by rw [upd_ne (ne_of_none s h)]; exact s))
  · exact .inl (.inr ⟨ob, by rw [upd_ne (ne_of_none s h)]; exact s⟩)
  · exact .inr s
theorem sqL_ne {p a : Addr} {o : HO} {vs : List V} (h : a ≠ p) (s : SqL K H a vs) : SqL K (upd H p o) a vs := by
  rcases s with (s | ⟨ob, s⟩) | s
  · exact .inl (.inl (by rw [upd_ne h]; exact s))
  · exact .inl (.inr ⟨ob, by rw [upd_ne h]; exact s⟩)
  · exact .inr s
theorem RC.here {a : Addr} {c : Cell} (r : RC K m H a c) : ∃ o, H a = some o := by
  cases c with
  | lst ds =>
    obtain ⟨vs, h, _⟩ := r
    exact ⟨_, h⟩
/-- a new object that the store does not hold -/
theorem Ext.fresh {p : Addr} {o : HO} (h : H p = none) : Ext K m H m (upd H p o) :=
  ⟨⟨fun _ _ h => h, fun _ _ s => sqT_new h s, fun _ _ s => s.new h⟩, fun a ob _ q => by rw [upd_ne (ne_of_none q h)]; exact q, fun _ q n => absurd q n⟩
theorem RC.fresh {p a : Addr} {o : HO} {c : Cell} (h : H p = none) (r : RC K m H a c) : RC K m (upd H p o) a c := by
  cases c with
  | lst ds =>
    obtain ⟨vs, q, r⟩ := r
    exact ⟨vs, by rw [upd_ne (ne_of_none q h)]; exact q, r.mono (Ext.fresh h)⟩
theorem SS.fresh {p : Addr} {o : HO} {st : Store} (s : SS K m st H) (h : H p = none) : SS K m st (upd H p o) :=
  ⟨s.len, s.nd, fun n c a h1 h2 => (s.cel n c a h1 h2).fresh h⟩
/-- a new object of the store's -/
theorem Ext.app {p : Addr} {o : HO} (h : H p = none) : Ext K m H (m ++ [p]) (upd H p o) where
  pre := fun n a q => by
    rw [List.getElem?_append_left (List.getElem?_eq_some_iff.mp q).1]
    exact q
  tup := fun _ _ s => sqT_new h s
  fzl := fun _ _ s => s.new h
  frm := fun a ob _ q => by rw [upd_ne (ne_of_none q h)]; exact q
  new := fun a q n => by
    rcases List.mem_append.mp q with q | q
    · exact absurd q n
    · have e : a = p := by simpa using q
      rw [e]
      exact h
theorem Ext.grow {p : Addr} : (H p = none) → Ext K m H (m ++ [p]) H := fun h => {
  pre := fun n a q => by
    rw [List.getElem?_append_left (List.getElem?_eq_some_iff.mp q).1]
    exact q
  tup := fun _ _ s => s
  fzl := fun _ _ s => s
  frm := fun a ob _ q => q
  new := fun a q n => by
    rcases List.mem_append.mp q with q | q
    · exact absurd q n
    · have e : a = p := by simpa using q
      rw [e]
      exact h }
theorem RC.kp {a : Addr} {c : Cell} (r : RC K m H a c) (e : Kp K m H m' H') (h : ∀ o, H a = some o → H' a = some o) : RC K m' H' a c := by
  cases c with
  | lst ds =>
    obtain ⟨vs, q, r⟩ := r
    exact ⟨vs, h _ q, r.kp e⟩
theorem Kp.grow {p : Addr} : Kp K m H (m ++ [p]) H := ⟨fun n a q => by
    rw [List.getElem?_append_left (List.getElem?_eq_some_iff.mp q).1]
    exact q, fun _ _ s => s, fun _ _ s => s⟩
/-- an object that is there becomes the store's -/
theorem SS.grow {p : Addr} {c : Cell} {st : Store} (s : SS K m st H) (hp : p ∉ m) (r : RC K (m ++ [p]) H p c) : SS K (m ++ [p]) (st ++ [c]) H where
  len := by simp [s.len]
  nd := by
    rw [List.nodup_append]
    refine ⟨s.nd, by simp, fun a h1 b h2 e => ?_⟩
    have e2 : b = p := by simpa using h2
    rw [e, e2] at h1
    exact hp h1
  cel := fun n d a h1 h2 => by
    by_cases hn : n < st.length
    · rw [List.getElem?_append_left hn] at h1
      rw [List.getElem?_append_left (by rw [s.len]; exact hn)] at h2
      exact (s.cel n d a h1 h2).kp Kp.grow fun _ q => q
    · have hl : n < (st ++ [c]).length := (List.getElem?_eq_some_iff.mp h1).1
      have e : n = st.length := by
        rw [List.length_append, List.length_singleton] at hl
        omega
      subst e
      have e1 : c = d := by simpa using h1
      have e2 : p = a := by
        rw [← s.len] at h2
        simpa using h2
      rw [← e1, ← e2]
      exact r
theorem SS.notin {st : Store} {p : Addr} (s : SS K m st H) (h : H p = none) : p ∉ m := fun q => by
  obtain ⟨n, e⟩ := List.getElem?_of_mem q
  have hl : n < st.length := by
    rw [← s.len]
    exact (List.getElem?_eq_some_iff.mp e).1
  obtain ⟨o, z⟩ := (s.cel n st[n] p (by simp) e).here
  rw [h] at z
  cases z
/-- a list is written -/
theorem Kp.write {p : Addr} {xs : List V} {o : HO} (h : H p = some (.lst xs)) : Kp K m H m (upd H p o) where
  pre := fun _ _ q => q
  tup := fun a vs s => by
    rcases s with (s | ⟨ob, s⟩) | s
    · exact .inl (.inl (by rw [upd_ne (fun e => by rw [e, h] at s; cases s)]; exact s))
    · exact .inl (.inr ⟨ob, by rw [upd_ne (fun e => by rw [e, h] at s; cases s)]; exact s⟩)
    · exact .inr s
  fzl := fun a vs s => by
    rcases s with ⟨ob, s⟩ | s
    · exact .inl ⟨ob, by rw [upd_ne (fun e => by rw [e, h] at s; cases s)]; exact s⟩
    · exact .inr s
/-- a list that is not the store's is written -/
theorem SS.other {st : Store} {p : Addr} {xs : List V} {o : HO} (s : SS K m st H) (h : H p = some (.lst xs)) (hp : p ∉ m) : SS K m st (upd H p o) :=
  ⟨s.len, s.nd, fun n c a h1 h2 => (s.cel n c a h1 h2).kp (Kp.write h) fun ob q => by rw [upd_ne (fun e : a = p => hp (by rw [← e]; exact List.mem_of_getElem? h2))]; exact q⟩
/-- a list of the store's is written -/
theorem Ext.write {n : Nat} {p : Addr} {xs : List V} {o : HO} (h : H p = some (.lst xs)) (hn : m[n]? = some p) : Ext K m H m (upd H p o) :=
  { Kp.write h with
    frm := fun a ob q z => by rw [upd_ne (fun e : a = p => q (by rw [e]; exact List.mem_of_getElem? hn))]; exact z
    new := fun a q n => absurd q n }
theorem SS.write {st : Store} {n : Nat} {p : Addr} {xs ys : List V} {ds : List D} (s : SS K m st H) (h : H p = some (.lst xs)) (hn : m[n]? = some p) (r : RDs K m H ds ys) : SS K m (st.set n (.lst ds)) (upd H p (.lst ys)) where
  len := by rw [List.length_set]; exact s.len
  nd := s.nd
  cel := fun i c a h1 h2 => by
    by_cases hi : n = i
    · subst hi
      rw [hn] at h2
      cases h2
      have hl : n < st.length := by
        rw [← s.len]
        exact (List.getElem?_eq_some_iff.mp hn).1
      rw [List.getElem?_set_self hl] at h1
      cases h1
      exact ⟨ys, upd_same, r.kp (Kp.write h)⟩
    · rw [List.getElem?_set_ne hi] at h1
      refine (s.cel i c a h1 h2).kp (Kp.write h) fun ob q => ?_
      rw [upd_ne fun e => hi ?_]
      · exact q
      · subst e
        obtain ⟨l1, e1⟩ := List.getElem?_eq_some_iff.mp hn
        obtain ⟨l2, e2⟩ := List.getElem?_eq_some_iff.mp h2
        exact (List.getElem_inj s.nd).mp (e1.trans e2.symm)
end
end HM

/-! HM, part 2: what an evaluation promises; expressions. -/
namespace HM
open PySem PySem.Spec PyProof.Rows L2

/-- an exception and how it flies -/
def XR (K : PySem.W.Frag) (m : List Addr) (H : Hp) (x : Xc) (c : Value) (d : Option Addr) : Prop := match x.cls with
  | .ty n => c = .type n ∧ x.fs = []
  | .adr a => c = .ref a ∧ (x.fs = [] ∨ ∃ da vs, d = some da ∧ H da = some (.xd vs) ∧ Paired (fun (p : Str × D) (q : Str × V) => p.1 = q.1 ∧ RD K m H p.2 q.2) x.fs vs)
  | _ => False
/-- behind an evaluation -/
def Pe {α β : Type} (K : PySem.W.Frag) (E : XK) (R : List Addr → Hp → α → β → Prop) (m : List Addr) (H : Hp) (r : ER α) (Q : β → Hp → Prop) : Prop := match r with
  | .ok a st => ∀ m' H' b, Ext K m H m' H' → SS K m' st H' → R m' H' a b → Q b H'
  | .exc x st => ∀ m' H' c d, Ext K m H m' H' → SS K m' st H' → XR K m' H' x c d → E c d H'
  | .bad => False
section
variable {α β γ δ : Type} {K : PySem.W.Frag} {E : XK} {R : List Addr → Hp → α → β → Prop} {S : List Addr → Hp → γ → δ → Prop} {m m1 : List Addr} {H H1 : Hp} {r : ER α} {Q : β → Hp → Prop}
theorem Pe.up (h : Pe K E R m H r Q) (e : Ext K m H m1 H1) : Pe K E R m1 H1 r Q := by
  cases r with
  | ok a st => exact fun m' H' b e' s q => h m' H' b (e.trans e') s q
  | exc x st => exact fun m' H' c d e' s q => h m' H' c d (e.trans e') s q
  | bad => exact h
theorem Pe.bind {k : α → Store → ER γ} {Q' : δ → Hp → Prop} (h : Pe K E S m H (r.bind k) Q')
    (hk : ∀ a st m' H' b, Ext K m H m' H' → SS K m' st H' → R m' H' a b → Pe K E S m' H' (k a st) Q' → Q b H') : Pe K E R m H r Q := by
  cases r with
  | ok a st => exact fun m' H' b e s q => hk a st m' H' b e s q (Pe.up h e)
  | exc x st => exact h
  | bad => exact h
theorem Pe.now {a : α} {st : Store} {b : β} (h : Pe K E R m H (.ok a st) Q) (s : SS K m st H) (q : R m H a b) : Q b H := h m H b .refl s q
theorem Pe.imp {Q' : β → Hp → Prop} (h : Pe K E R m H r Q) (hQ : ∀ b H, Q b H → Q' b H) : Pe K E R m H r Q' := by
  cases r with
  | ok a st => exact fun m' H' b e s q => hQ _ _ (h m' H' b e s q)
  | exc x st => exact h
  | bad => exact h
end
abbrev RB : List Addr → Hp → Bool → Bool → Prop := fun _ _ a b => a = b

/-! ### judgements -/
def wE (X : Cx) (e : Expr) : TE := fun σ H Q => ∀ (pins : List (Addr × Obj)) (s : Shared), Inv X pins σ H s → wpAny (model X.prog X.w) X.A (eval e X.env) (EP X pins σ Q) X.xe s
def wT (X : Cx) (e : Expr) : TT := fun σ H Q => ∀ (pins : List (Addr × Obj)) (s : Shared), Inv X pins σ H s → wpAny (model X.prog X.w) X.A (isTrue e X.env (eval e X.env)) (TP X pins σ Q) X.xe s
def wW (X : Cx) (e : Expr) : TT := fun σ H Q => ∀ (whole : Sem Value) (pins : List (Addr × Obj)) (s : Shared), Inv X pins σ H s → wpAny (model X.prog X.w) X.A (isTrue e X.env whole) (TP X pins σ Q) X.xe s
def wA (X : Cx) (es : List Expr) : TA := fun σ H Q => ∀ (pos : Pos) (pins : List (Addr × Obj)) (s : Shared), Inv X pins σ H s → wpAny (model X.prog X.w) X.A (spliced (backTo pos (starEach es X.env))) (AP X pins σ Q) X.xe s
theorem peW {X : Cx} {e : Expr} : PE X e (wE X e) := ⟨fun pins s σ H Q I h => h pins s I⟩
theorem ptW {X : Cx} {e : Expr} : PT X e (wT X e) := ⟨fun pins s σ H Q I h => h pins s I⟩
theorem pwW {X : Cx} {e : Expr} : PW X e (wW X e) := ⟨fun wh pins s σ H Q I h => h wh pins s I⟩
theorem paW {X : Cx} {es : List Expr} : PA X es (wA X es) := ⟨fun pos pins s σ H Q I h => h pos pins s I⟩
/-- an expression -/
structure Ex (X : Cx) (W : WX) (e : Expr) (f : EM D) : Prop where
  run : ∀ (m : List Addr) (τ : Sl) (st : Store) (σ : L2.St) (H : Hp) (Q : VK), SL X.K m H τ σ → SS X.K m st H → Pe X.K (fun c d H' => W c d σ H') (RD X.K) m H (f τ st) Q → wE X e σ H Q
/-- a test -/
structure Et (X : Cx) (W : WX) (e : Expr) (f : EM Bool) : Prop where
  run : ∀ (m : List Addr) (τ : Sl) (st : Store) (σ : L2.St) (H : Hp) (Q : Bool → Hp → Prop), SL X.K m H τ σ → SS X.K m st H → Pe X.K (fun c d H' => W c d σ H') RB m H (f τ st) Q → wT X e σ H Q
/-- a test whatever its whole is -/
structure Ew (X : Cx) (W : WX) (e : Expr) (f : EM Bool) : Prop where
  run : ∀ (m : List Addr) (τ : Sl) (st : Store) (σ : L2.St) (H : Hp) (Q : Bool → Hp → Prop), SL X.K m H τ σ → SS X.K m st H → Pe X.K (fun c d H' => W c d σ H') RB m H (f τ st) Q → wW X e σ H Q
/-- arguments -/
structure Ea (X : Cx) (W : WX) (es : List Expr) (f : EM (List D)) : Prop where
  run : ∀ (m : List Addr) (τ : Sl) (st : Store) (σ : L2.St) (H : Hp) (Q : List V → Hp → Prop), SL X.K m H τ σ → SS X.K m st H → Pe X.K (fun c d H' => W c d σ H') (RDs X.K) m H (f τ st) Q → wA X es σ H Q
section
variable {X : Cx} {W : WX} {e a b c : Expr} {es rest : List Expr} {pos : Pos} {f fa fb fc : EM D} {fs : EM (List D)} {g : EM Bool}
theorem Ex.le {f' : EM D} (h : Ex X W e f) (hl : ∀ (m : List Addr) (τ : Sl) (st : Store) (H : Hp) (E : XK) (Q : VK), SS X.K m st H → Pe X.K E (RD X.K) m H (f' τ st) Q → Pe X.K E (RD X.K) m H (f τ st) Q) : Ex X W e f' :=
  ⟨fun m τ st σ H Q hL hS hP => h.run m τ st σ H Q hL hS (hl m τ st H _ Q hS hP)⟩

/-! ### names, constants -/
def eVar (i : Nat) : EM D := fun τ st => match τ[i]? with
  | some (some d) => .ok d st
  | _ => .bad
theorem ex_var {i : Nat} {x : Str} (hN : X.N[i]? = some x) (hv : Vis X.env.scope x) (hd : (x == ("__debug__" : Str)) = false := by decide) (hcd : (x == ("__classdict__" : Str)) = false := by decide) : Ex X W (.Name x pos) (eVar i) := by
  refine ⟨fun m τ st σ H Q hL hS hP pins s I => ?_⟩
  refine (pe_var hN hv hd hcd).run pins s σ H Q I ?_
  unfold eVar at hP
  split at hP
  · rename_i d hd
    obtain ⟨v, h1, h2⟩ := hL.get i d hd
    exact ⟨v, h1, hP.now hS h2⟩
  · exact hP.elim
theorem xv (i : Nat) {x : Str} (hN : X.N[i]? = some x := by rfl) (hv : Vis X.env.scope x := by first | exact Or.inl rfl | exact Or.inr (Or.inl rfl) | exact Or.inr (Or.inr rfl)) (hd : (x == ("__debug__" : Str)) = false := by decide)
    (hcd : (x == ("__classdict__" : Str)) = false := by decide) : Ex X W (.Name x pos) (eVar i) := ex_var hN hv hd hcd
def eC (d : D) : EM D := fun _ st => .ok d st
theorem ex_c {t : TE} {d : D} {v : V} (h : PE X e t) (ht : ∀ σ H Q, Q v H → t σ H Q) (r : ∀ m H, RD X.K m H d v) : Ex X W e (eC d) :=
  ⟨fun m τ st σ H Q hL hS hP pins s I => h.run pins s σ H Q I (ht _ _ _ (hP.now hS (r m H)))⟩
theorem ex_int {i j} : Ex X W (.Constant (.int i) j pos) (eC (.int i)) := ex_c pe_int (fun _ _ _ h => h) fun _ _ => .int i
theorem ex_bl {i j} : Ex X W (.Constant (.bool i) j pos) (eC (.bl i)) := ex_c pe_bl (fun _ _ _ h => h) fun _ _ => .bl i
theorem ex_non {j} : Ex X W (.Constant .none j pos) (eC .non) := ex_c pe_non (fun _ _ _ h => h) fun _ _ => .non
theorem ex_str {x : Str} {j} : Ex X W (.Constant (.str x) j pos) (eC (.str x.cps.toList)) := ex_c pe_str (fun _ _ _ h => h) fun _ _ => by
  have e : x = ⟨x.cps.toList.toArray⟩ := by simp
  exact e ▸ .str x.cps.toList
theorem ex_strc {x : Str} {j} (l : List Nat) (h : x.cps.toList = l) : Ex X W (.Constant (.str x) j pos) (eC (.str l)) := by
  subst h
  exact ex_str
/-- a module's constant -/
theorem ex_glob {x : Str} {v : V} {u : Value} {d : D} (hg : Gl X x) (hm : X.mg x = some u) (r : RelV v u) (rd : ∀ m H, RD X.K m H d v) (hd : (x == ("__debug__" : Str)) = false := by decide) : Ex X W (.Name x pos) (eC d) :=
  ex_c (pe_glob hg hm r hd) (fun _ _ _ h => h) rd
theorem ex_bltn {x : Str} {v : V} {u : Value} {d : D} (hg : Gl X x) (hm : X.mg x = none) (hv : bootBuiltins x = some u) (r : RelV v u) (rd : ∀ m H, RD X.K m H d v) (hn : x ≠ "__name__" := by decide) (hd : (x == ("__debug__" : Str)) = false := by decide) : Ex X W (.Name x pos) (eC d) :=
  ex_c (pe_bltn hg hm hv r hn hd) (fun _ _ _ h => h) rd

/-! ### operators -/
abbrev O1 := D → Store → ER D
abbrev O2 := D → D → Store → ER D
/-- a rule by values -/
def OpM (X : Cx) (W : WX) (f : Value → Value → Sem Value) (g : O2) : Prop :=
  ∀ (m : List Addr) (st : Store) (σ : L2.St) (H : Hp) (dx dy : D) (x y : V) (Q : VK), SS X.K m st H → RD X.K m H dx x → RD X.K m H dy y → Pe X.K (fun c d H' => W c d σ H') (RD X.K) m H (g dx dy st) Q →
    ∀ (pins : List (Addr × Obj)) (s : Shared) (v u : Value), Inv X pins σ H s → RelV x v → RelV y u → wpAny (model X.prog X.w) X.A (f v u) (EP X pins σ Q) X.xe s
theorem OpM.opr {F : Value → Value → Sem Value} {g : O2} (h : OpM X W F g) : OpR X F (fun x y H Q => ∀ (pins : List (Addr × Obj)) (s : Shared) (σ : L2.St) (v u : Value), Inv X pins σ H s → RelV x v → RelV y u → wpAny (model X.prog X.w) X.A (F v u) (EP X pins σ Q) X.xe s) :=
  fun pins s σ H x y v u Q I rx ry z => z pins s σ v u I rx ry
def eBin (g : O2) (fa fb : EM D) : EM D := fun τ st => (fa τ st).bind fun x s1 => (fb τ s1).bind fun y s2 => g x y s2
def wR2 (X : Cx) (f : Value → Value → Sem Value) (σ : L2.St) : R2 := fun x y H Q => ∀ (pins : List (Addr × Obj)) (s : Shared) (v u : Value), Inv X pins σ H s → RelV x v → RelV y u → wpAny (model X.prog X.w) X.A (f v u) (EP X pins σ Q) X.xe s
/-- two expressions in a row -/
theorem two {g : D → D → Store → ER α} {α' : Type} {RA : List Addr → Hp → α → α' → Prop} {Q : α' → Hp → Prop} (ha : Ex X W a fa) (hb : Ex X W b fb) {m : List Addr} {τ : Sl} {st : Store} {σ : L2.St} {H : Hp} (hL : SL X.K m H τ σ) (hS : SS X.K m st H)
    (hP : Pe X.K (fun c d H' => W c d σ H') RA m H ((fa τ st).bind fun x s1 => (fb τ s1).bind fun y s2 => g x y s2) Q) {R : V → V → Hp → Prop}
    (hk : ∀ (m2 : List Addr) (st2 : Store) (H2 : Hp) (dx dy : D) (x y : V), Ext X.K m H m2 H2 → SS X.K m2 st2 H2 → RD X.K m2 H2 dx x → RD X.K m2 H2 dy y → Pe X.K (fun c d H' => W c d σ H') RA m2 H2 (g dx dy st2) Q → R x y H2) :
    wE X a σ H fun x H1 => wE X b σ H1 fun y H2 => R x y H2 :=
  ha.run m τ st σ H _ hL hS (hP.bind fun dx s1 m1 H1 x e1 hS1 r1 hP1 => hb.run m1 τ s1 σ H1 _ (hL.mono e1) hS1 (hP1.bind fun dy s2 m2 H2 y e2 hS2 r2 hP2 => hk m2 s2 H2 dx dy x y (e1.trans e2) hS2 (r1.mono e2) r2 hP2))
theorem ex_op {op : Operator} {g : O2} (ho : OpM X W (binaryOp op) g) (ha : Ex X W a fa) (hb : Ex X W b fb) : Ex X W (.BinOp a op b pos) (eBin g fa fb) := by
  refine ⟨fun m τ st σ H Q hL hS hP pins s I => ?_⟩
  refine wpAny_BinOp (binT peW peW I (R := fun x y H2 => wR2 X (binaryOp op) σ x y H2 Q) (two ha hb hL hS hP fun m2 st2 H2 dx dy x y e2 hS2 r1 r2 hP2 pins s v u I rx ry => ho m2 st2 σ H2 dx dy x y Q hS2 r1 r2 hP2 pins s v u I rx ry) fun v u s2 x y H2 I2 rx ry q => q pins s2 v u I2 rx ry)
end
end HM

/-! HM, part 3: operators by values. -/
namespace HM
open PySem PySem.Spec PyProof.Rows L2
section
variable {X : Cx} {W : WX}
theorem opm_of {f : Value → Value → Sem Value} {r : R2} {g : O2} (hr : OpR X f r) (h : ∀ (m : List Addr) (st : Store) (H : Hp) (dx dy : D) (x y : V) (E : XK) (Q : VK), SS X.K m st H → RD X.K m H dx x → RD X.K m H dy y → Pe X.K E (RD X.K) m H (g dx dy st) Q → r x y H Q) : OpM X W f g :=
  fun m st σ H dx dy x y Q hS r1 r2 hP pins s v u I rx ry => hr pins s σ H x y v u Q I rx ry (h m st H dx dy x y _ Q hS r1 r2 hP)
end
section
variable {K : PySem.W.Frag} {E : XK} {m : List Addr} {st : Store} {H : Hp} {Q : VK}
/-- a new tuple -/
theorem Pe.tup {ds : List D} {vs : List V} (h : Pe K E (RD K) m H (.ok (.tup ds) st) Q) (s : SS K m st H) (r : RDs K m H ds vs) : ∀ p, H p = none → Q (.ref p) (upd H p (.tup vs)) := fun p hp =>
  h m _ _ (Ext.fresh hp) (s.fresh hp) (.tup (SqT.of upd_same) (r.mono (Ext.fresh hp)))
/-- a new list of the store's -/
theorem SS.app {c : Cell} {p : Addr} {o : HO} (s : SS K m st H) (hp : H p = none) (r : RC K (m ++ [p]) (upd H p o) p c) : SS K (m ++ [p]) (st ++ [c]) (upd H p o) :=
  (s.fresh hp).grow (s.notin hp) r
theorem Pe.lst {ds : List D} {vs : List V} (h : Pe K E (RD K) m H (.ok (.ref st.length) (st ++ [.lst ds])) Q) (s : SS K m st H) (r : RDs K m H ds vs) : ∀ p, H p = none → Q (.ref p) (upd H p (.lst vs)) := fun p hp => by
  refine h (m ++ [p]) _ _ (Ext.app hp) (s.app hp ⟨vs, upd_same, r.mono (Ext.app hp)⟩) (.ref ?_)
  rw [← s.len]
  simp
end
/-- the items of a list -/
def lstAt (st : Store) (n : Nat) : Option (List D) := match st[n]? with
  | some (.lst xs) => some xs
  | none => none
@[simp] theorem lstAt_app {st : Store} {xs : List D} : lstAt (st ++ [.lst xs]) st.length = some xs := by simp [lstAt]
theorem lstAt_left {st more : Store} {n : Nat} (h : n < st.length) : lstAt (st ++ more) n = lstAt st n := by
  unfold lstAt
  rw [List.getElem?_append_left h]
theorem SS.list {K : PySem.W.Frag} {m : List Addr} {st : Store} {H : Hp} {n : Nat} {xs : List D} {a : Addr} (s : SS K m st H) (h : lstAt st n = some xs) (e : m[n]? = some a) : ∃ vs, H a = some (.lst vs) ∧ RDs K m H xs vs := by
  unfold lstAt at h
  split at h
  · rename_i ys q
    cases h
    exact s.cel n _ a q e
  · cases h
theorem lstAt_lt {st : Store} {n : Nat} {xs : List D} (h : lstAt st n = some xs) : n < st.length := by
  unfold lstAt at h
  split at h
  · rename_i q
    exact (List.getElem?_eq_some_iff.mp q).1
  · cases h

/-! ### arithmetic -/
def oAdd : O2 := fun x y st => match x, y with
  | .int i, .int j => .ok (.int (i + j)) st
  | .str a, .str b => if a.length + b.length ≤ 16777216 then .ok (.str (a ++ b)) st else .bad
  | .tup a, .tup b => if a.length + b.length ≤ 16777216 then .ok (.tup (a ++ b)) st else .bad
  | .ref a, .ref b => match lstAt st a, lstAt st b with
    | some xs, some ys => if xs.length + ys.length ≤ 16777216 then .ok (.ref st.length) (st ++ [.lst (xs ++ ys)]) else .bad
    | _, _ => .bad
  | _, _ => .bad
def oInt (g : Int → Int → Int) : O2 := fun x y st => match x, y with
  | .int i, .int j => .ok (.int (g i j)) st
  | _, _ => .bad
def oIntC (C : Int → Int → Bool) (g : Int → Int → Int) : O2 := fun x y st => match x, y with
  | .int i, .int j => if C i j then .ok (.int (g i j)) st else .bad
  | _, _ => .bad
abbrev oSub : O2 := oInt fun i j => i - j
def oIAdd : O2 := fun x y st => match x, y with
  | .int i, .int j => .ok (.int (i + j)) st
  | .str a, .str b => if a.length + b.length ≤ 16777216 then .ok (.str (a ++ b)) st else .bad
  | _, _ => .bad
def okMul (i j : Int) : Bool := decide ((i.natAbs < 18446744073709551616 ∨ j.natAbs < 18446744073709551616) ∨ i.natAbs.log2 + j.natAbs.log2 < 1000000)
def okDiv (_ j : Int) : Bool := decide (j ≠ 0 ∧ j.natAbs.log2 < 9000)
def okMod (_ j : Int) : Bool := decide (j ≠ 0)
def okPow (i j : Int) : Bool := decide (0 ≤ j ∧ j ≤ 1000000 ∧ i.natAbs < 18446744073709551616)
def okShr (_ j : Int) : Bool := decide (0 ≤ j)
abbrev oMulI : O2 := oIntC okMul fun i j => i * j
abbrev oDiv : O2 := oIntC okDiv fun i j => i.fdiv j
abbrev oMod : O2 := oIntC okMod fun i j => i.fmod j
abbrev oPow : O2 := oIntC okPow fun i j => i ^ j.toNat
abbrev oShl : O2 := oIntC okPow fun i j => i * 2 ^ j.toNat
abbrev oShr : O2 := oIntC okShr fun i j => i / 2 ^ j.toNat
abbrev oAnd : O2 := oInt Builtin.bitAnd
section
variable {X : Cx} {W : WX}
theorem line_of {n : Nat} (h : n ≤ 16777216) : n ≤ sizeLine := by
  rw [PySem.sizeLine_eq]
  exact h
theorem op_add_all : OpR X (binaryOp .Add) (fun x y H Q => (rI0 (fun i j => .int (i + j)) x y H Q ∨ (∃ i j, x = .str i ∧ y = .str j ∧ i.length + j.length ≤ sizeLine ∧ Q (.str (i ++ j)) H)) ∨ (rCatA X.K x y H Q ∨ rCat x y H Q)) :=
  (op_add.or op_add_str).or (op_catA.or op_cat)
theorem m_add : OpM X W (binaryOp .Add) oAdd := opm_of op_add_all fun m st H dx dy x y E Q hS r1 r2 hP => by
  unfold oAdd at hP
  split at hP
  · cases r1
    cases r2
    exact .inl (.inl ⟨_, _, rfl, rfl, hP.now hS (.int _)⟩)
  · split at hP
    · rename_i hl
      cases r1
      cases r2
      refine .inl (.inr ⟨_, _, rfl, rfl, line_of hl, ?_⟩)
      have q := hP.now hS (.str _)
      have e : ∀ a b : List Nat, (⟨(a ++ b).toArray⟩ : PySem.Str) = (⟨a.toArray⟩ : PySem.Str) ++ (⟨b.toArray⟩ : PySem.Str) := fun a b => by
        show (⟨(a ++ b).toArray⟩ : PySem.Str) = ⟨a.toArray ++ b.toArray⟩
        simp
      rw [e] at q
      exact q
    · exact hP.elim
  · split at hP
    · rename_i a b hl
      cases r1 with
      | tup s1 h1 =>
        rename_i va
        cases r2 with
        | tup s2 h2 =>
          rename_i vb
          refine .inr (.inl ⟨_, _, _, _, rfl, rfl, s1, s2, line_of (by rw [← h1.len, ← h2.len]; exact hl), fun e => ?_, fun _ e => ?_, fun _ _ => ?_⟩)
          · subst e
            cases h1
            exact hP.now hS (.tup s2 h2)
          · subst e
            cases h2
            rw [List.append_nil] at hP
            exact hP.now hS (.tup s1 h1)
          · exact hP.tup hS (h1.append h2)
    · exact hP.elim
  · rename_i a b
    split at hP
    · rename_i xs ys ex ey
      split at hP
      · rename_i hl
        cases r1 with
        | ref e1 =>
          cases r2 with
          | ref e2 =>
            obtain ⟨va, ha, ra⟩ := hS.list ex e1
            obtain ⟨vb, hb, rb⟩ := hS.list ey e2
            exact .inr (.inr ⟨_, _, va, vb, rfl, rfl, ha, hb, line_of (by rw [← ra.len, ← rb.len]; exact hl), hP.lst hS (ra.append rb)⟩)
      · exact hP.elim
    · exact hP.elim
  · exact hP.elim
theorem m_int {f : Value → Value → Sem Value} {g : Int → Int → Int} (h : OpR X f (rI0 fun i j => .int (g i j))) : OpM X W f (oInt g) := opm_of h fun m st H dx dy x y E Q hS r1 r2 hP => by
  unfold oInt at hP
  split at hP
  · cases r1
    cases r2
    exact ⟨_, _, rfl, rfl, hP.now hS (.int _)⟩
  · exact hP.elim
theorem m_intC {f : Value → Value → Sem Value} {C : Int → Int → Bool} {C' : Int → Int → Prop} {g : Int → Int → Int} (h : OpR X f (rI C' fun i j => .int (g i j))) (hC : ∀ i j, C i j = true → C' i j) : OpM X W f (oIntC C g) := opm_of h fun m st H dx dy x y E Q hS r1 r2 hP => by
  unfold oIntC at hP
  split at hP
  · split at hP
    · rename_i hc
      cases r1
      cases r2
      exact ⟨_, _, rfl, rfl, hC _ _ hc, hP.now hS (.int _)⟩
    · exact hP.elim
  · exact hP.elim
theorem m_sub : OpM X W (binaryOp .Sub) oSub := m_int op_sub
theorem op_mulAny : OpR X (binaryOp .Mult) (rI IntMulOk fun i j => .int (i * j)) := opI fun _ _ _ _ _ _ _ hc q => mul_int q hc
theorem m_mulI : OpM X W (binaryOp .Mult) oMulI := m_intC op_mulAny fun i j h => by
  have q : (i.natAbs < 18446744073709551616 ∨ j.natAbs < 18446744073709551616) ∨ i.natAbs.log2 + j.natAbs.log2 < 1000000 := of_decide_eq_true h
  rcases q with (q | q) | q
  · exact CMul.ok (.inl (by omega))
  · exact CMul.ok (.inr (by omega))
  · exact CMulW.ok q
theorem op_fdivAny : OpR X (binaryOp .FloorDiv) (rI (fun _ j => j ≠ 0 ∧ j.natAbs.log2 < 9000) fun i j => .int (i.fdiv j)) := opI fun _ _ _ _ _ _ _ hc q => floordiv_int hc.1 q (.inl (PyProof.noPylong_of_log2 hc.2))
theorem m_div : OpM X W (binaryOp .FloorDiv) oDiv := m_intC op_fdivAny fun i j h => of_decide_eq_true h
theorem m_mod : OpM X W (binaryOp .Mod) oMod := m_intC op_modN fun i j h => of_decide_eq_true h
theorem ok_pow {i j : Int} (h : okPow i j = true) : CPow i j := by
  have q : 0 ≤ j ∧ j ≤ 1000000 ∧ i.natAbs < 18446744073709551616 := of_decide_eq_true h
  exact q
theorem m_pow : OpM X W (binaryOp .Pow) oPow := m_intC op_pow fun i j h => ok_pow h
theorem m_shl : OpM X W (binaryOp .LShift) oShl := m_intC op_shl fun i j h => ok_pow h
theorem m_shr : OpM X W (binaryOp .RShift) oShr := m_intC op_shr fun i j h => of_decide_eq_true h
theorem m_and : OpM X W (binaryOp .BitAnd) oAnd := m_int op_and
/-- in place -/
theorem mi_add : OpM X W (inplaceOp .Add) oIAdd := opm_of (iop_add.or iop_add_str) fun m st H dx dy x y E Q hS r1 r2 hP => by
  unfold oIAdd at hP
  split at hP
  · cases r1
    cases r2
    exact .inl ⟨_, _, rfl, rfl, hP.now hS (.int _)⟩
  · split at hP
    · rename_i hl
      cases r1
      cases r2
      refine .inr ⟨_, _, rfl, rfl, line_of hl, ?_⟩
      have q := hP.now hS (.str _)
      have e : ∀ a b : List Nat, (⟨(a ++ b).toArray⟩ : PySem.Str) = (⟨a.toArray⟩ : PySem.Str) ++ (⟨b.toArray⟩ : PySem.Str) := fun a b => by
        show (⟨(a ++ b).toArray⟩ : PySem.Str) = ⟨a.toArray ++ b.toArray⟩
        simp
      rw [e] at q
      exact q
    · exact hP.elim
  · exact hP.elim
theorem mi_sub : OpM X W (inplaceOp .Sub) oSub := m_int iop_sub
end

/-! ### == by what is data -/
def D.plain : Nat → D → Bool
  | _, .non => true
  | _, .int _ => true
  | _, .str x => x.all fun c => decide (c < 1114112)
  | 0, .tup _ => false
  | n + 1, .tup xs => xs.all (D.plain n)
  | _, _ => false
def D.toP : Nat → D → PyData
  | _, .int i => .int i
  | _, .str x => .str ⟨x.toArray⟩
  | n + 1, .tup xs => .tuple (xs.map (D.toP n))
  | _, .bl b => .bool b
  | _, _ => .none
theorem plain_all {K : PySem.W.Frag} {m : List Addr} {H : Hp} {n : Nat} (ih : ∀ (d : D) (v : V), d.plain n = true → RD K m H d v → Dp K H v (d.toP n) ∧ (d.toP n).canLay0 = true ∧ (d.toP n).depth ≤ n) : ∀ (ds : List D) (vs : List V), ds.all (D.plain n) = true → RDs K m H ds vs →
    DpAll K H vs (ds.map (D.toP n)) ∧ PyData.canLayAll0 (ds.map (D.toP n)) = true ∧ PyData.depthAll (ds.map (D.toP n)) ≤ n
  | [], _, _, r => by
    cases r
    exact ⟨.nil, by simp [PyData.canLayAll0], by simp [PyData.depthAll]⟩
  | d :: ds, _, h, r => by
    cases r with
    | cons r1 r2 =>
      rw [List.all_cons, Bool.and_eq_true] at h
      obtain ⟨a1, a2, a3⟩ := ih d _ h.1 r1
      obtain ⟨b1, b2, b3⟩ := plain_all ih ds _ h.2 r2
      refine ⟨.cons a1 b1, ?_, ?_⟩
      · simp only [List.map_cons, PyData.canLayAll0, a2, b2, Bool.and_self]
      · simp only [List.map_cons, PyData.depthAll]
        omega
theorem str_ok {x : List Nat} {n : Nat} (h : (x.all fun c => decide (c < 1114112)) = true) : ((D.str x).toP n).canLay0 = true := by
  have e : (D.str x).toP n = .str ⟨x.toArray⟩ := by cases n <;> rfl
  rw [e]
  simp only [PyData.canLay0, PyData.strOk]
  simpa using h
theorem plain_dp {K : PySem.W.Frag} {m : List Addr} {H : Hp} : ∀ (n : Nat) (d : D) (v : V), d.plain n = true → RD K m H d v → Dp K H v (d.toP n) ∧ (d.toP n).canLay0 = true ∧ (d.toP n).depth ≤ n := by
  intro n
  induction n with
  | zero =>
    intro d v h r
    cases r <;> simp [D.plain] at h
    · exact ⟨.non, by simp [D.toP, PyData.canLay0], by simp [D.toP, PyData.depth]⟩
    · exact ⟨.int _, by simp [D.toP, PyData.canLay0], by simp [D.toP, PyData.depth]⟩
    · exact ⟨.str _, str_ok (by simpa using h), by simp [D.toP, PyData.depth]⟩
  | succ n ih =>
    intro d v h r
    cases r with
    | non => exact ⟨.non, by simp [D.toP, PyData.canLay0], by simp [D.toP, PyData.depth]⟩
    | int i => exact ⟨.int _, by simp [D.toP, PyData.canLay0], by simp [D.toP, PyData.depth]⟩
    | str x => exact ⟨.str _, str_ok h, by simp [D.toP, PyData.depth]⟩
    | tup s rs =>
      rename_i a vs ds
      obtain ⟨b1, b2, b3⟩ := plain_all ih ds vs h rs
      refine ⟨.tup s b1, by simpa only [D.toP, PyData.canLay0] using b2, ?_⟩
      simp only [D.toP, PyData.depth]
      omega
    | _ => simp [D.plain] at h
theorem eqvAll_map {n : Nat} (ih : ∀ x y : D, x.plain n = true → y.plain n = true → PyData.eqv (x.toP n) (y.toP n) = decide (x = y)) : ∀ xs ys : List D, xs.all (D.plain n) = true → ys.all (D.plain n) = true → PyData.eqvAll (xs.map (D.toP n)) (ys.map (D.toP n)) = decide (xs = ys)
  | [], [], _, _ => by simp [PyData.eqvAll]
  | [], _ :: _, _, _ => by simp [PyData.eqvAll]
  | _ :: _, [], _, _ => by simp [PyData.eqvAll]
  | x :: xs, y :: ys, h1, h2 => by
    rw [List.all_cons, Bool.and_eq_true] at h1 h2
    simp only [List.map_cons, PyData.eqvAll, ih x y h1.1 h2.1, eqvAll_map ih xs ys h1.2 h2.2, List.cons.injEq, Bool.decide_and]
theorem eqv_plain : ∀ (n : Nat) (x y : D), x.plain n = true → y.plain n = true → PyData.eqv (x.toP n) (y.toP n) = decide (x = y) := by
  intro n
  induction n with
  | zero =>
    intro x y h1 h2
    cases x <;> simp [D.plain] at h1 <;> cases y <;> simp [D.plain] at h2 <;> simp [D.toP, PyData.eqv]
    all_goals first | rfl | (rw [Bool.eq_iff_iff]; simp)
  | succ n ih =>
    intro x y h1 h2
    cases x <;> simp only [D.plain, Bool.false_eq_true] at h1 <;> cases y <;> simp only [D.plain, Bool.false_eq_true] at h2 <;> first
      | (simp only [D.toP, PyData.eqv, D.tup.injEq]; exact eqvAll_map ih _ _ h1 h2)
      | (simp only [D.toP, PyData.eqv]; first | rfl | (rw [Bool.eq_iff_iff]; simp))
/-- a value as data that == compares: one by itself, or a list -/
def D.pd (st : Store) (d : D) : Option (D ⊕ List D) := match d with
  | .ref n => match lstAt st n with
    | some xs => if xs.all (D.plain 59) then some (.inr xs) else none
    | none => none
  | .rol xs => if xs.all (D.plain 59) then some (.inr xs) else none
  | d => if d.plain 60 then some (.inl d) else none
def pdP : D ⊕ List D → PyData
  | .inl d => d.toP 60
  | .inr xs => .list (xs.map (D.toP 59))
theorem pd_dp {K : PySem.W.Frag} {m : List Addr} {st : Store} {H : Hp} {d : D} {v : V} {p : D ⊕ List D} (s : SS K m st H) (h : d.pd st = some p) (r : RD K m H d v) : Dp K H v (pdP p) ∧ SeqAt.shaped (pdP p) = true := by
  have fin : ∀ {q : PyData}, q.canLay0 = true → q.depth ≤ 60 → SeqAt.shaped q = true := fun {q} h1 h2 => by
    unfold SeqAt.shaped
    rw [h1, Bool.true_and, decide_eq_true_eq]
    omega
  have one : ∀ {d : D}, RD K m H d v → d.plain 60 = true → Dp K H v (d.toP 60) ∧ SeqAt.shaped (d.toP 60) = true := fun {d} r h => by
    obtain ⟨a, b, c⟩ := plain_dp 60 d v h r
    exact ⟨a, fin b c⟩
  have lst : ∀ {xs : List D} {vs : List V} {a : Addr}, SqL K H a vs → RDs K m H xs vs → xs.all (D.plain 59) = true → Dp K H (.ref a) (.list (xs.map (D.toP 59))) ∧ SeqAt.shaped (.list (xs.map (D.toP 59))) = true := fun {xs vs a} hl rs h => by
    obtain ⟨a, b, c⟩ := plain_all (plain_dp 59) xs vs h rs
    refine ⟨.lst hl a, fin (by simpa only [PyData.canLay0] using b) ?_⟩
    simp only [PyData.depth]
    omega
  unfold D.pd at h
  split at h
  · split at h
    · split at h
      · rename_i n _ xs e ha
        cases h
        cases r with
        | ref q =>
          obtain ⟨vs, h1, h2⟩ := s.list e q
          exact lst (SqL.of h1) h2 ha
      · cases h
    · cases h
  · split at h
    · rename_i ha
      cases h
      cases r with
      | rol q rs => exact lst q.sq rs ha
    · cases h
  · split at h
    · rename_i ha
      cases h
      exact one r ha
    · cases h
theorem pd_ok {st : Store} {d : D} {p : D ⊕ List D} (h : d.pd st = some p) : (∃ e : D, p = .inl e ∧ e.plain 60 = true) ∨ ∃ xs : List D, p = .inr xs ∧ xs.all (D.plain 59) = true := by
  unfold D.pd at h
  split at h
  · split at h
    · split at h
      · cases h
        exact .inr ⟨_, rfl, by assumption⟩
      · cases h
    · cases h
  · split at h
    · cases h
      exact .inr ⟨_, rfl, by assumption⟩
    · cases h
  · split at h
    · cases h
      exact .inl ⟨_, rfl, by assumption⟩
    · cases h
theorem pd_eqv {st st' : Store} {d e : D} {p q : D ⊕ List D} (h : d.pd st = some p) (h' : e.pd st' = some q) : PyData.eqv (pdP p) (pdP q) = decide (p = q) := by
  rcases pd_ok h with ⟨x, rfl, hx⟩ | ⟨xs, rfl, hx⟩
  · rcases pd_ok h' with ⟨y, rfl, hy⟩ | ⟨ys, rfl, hy⟩
    · show PyData.eqv (x.toP 60) (y.toP 60) = _
      rw [eqv_plain 60 x y hx hy]
      simp
    · show PyData.eqv (x.toP 60) _ = _
      cases x <;> simp [D.plain] at hx <;> simp [D.toP, pdP, PyData.eqv]
  · rcases pd_ok h' with ⟨y, rfl, hy⟩ | ⟨ys, rfl, hy⟩
    · show PyData.eqv _ (y.toP 60) = _
      cases y <;> simp [D.plain] at hy <;> simp [D.toP, pdP, PyData.eqv]
    · show PyData.eqvAll (xs.map (D.toP 59)) (ys.map (D.toP 59)) = _
      rw [eqvAll_map (eqv_plain 59) xs ys hx hy]
      simp
def dEq (x y : D) (st : Store) : Option Bool := match x, y with
  | .str a, .str b => some (decide (a = b))
  | .bl a, .bl b => some (decide (a = b))
  | .int a, .int b => some (decide (a = b))
  | .bl a, .int b => some (decide ((if a then 1 else 0) = b))
  | .int a, .bl b => some (decide (a = (if b then 1 else 0)))
  | x, y => match x.pd st, y.pd st with
    | some p, some q => some (decide (p = q))
    | _, _ => none
def oEq : O2 := fun x y st => match dEq x y st with
  | some b => .ok (.bl b) st
  | none => .bad
def oNe : O2 := fun x y st => match dEq x y st with
  | some b => .ok (.bl !b) st
  | none => .bad
section
variable {X : Cx} {W : WX}
theorem m_eqB {op : CmpOp} {neg : Bool → Bool} {r1 r2 : R2} (h1 : OpR X (compareOp op) r1) (h2 : OpR X (compareOp op) r2) (s1 : ∀ x y H Q, scal x y = true → Q (.bl (neg (decide (x = y)))) H → r1 x y H Q)
    (s2 : ∀ x y H Q d e, Dp X.K H x d → Dp X.K H y e → SeqAt.shaped d = true → SeqAt.shaped e = true → Q (.bl (neg (PyData.eqv d e))) H → r2 x y H Q) : OpM X W (compareOp op) (fun x y st => match dEq x y st with
    | some b => .ok (.bl (neg b)) st
    | none => .bad) := opm_of (h1.or h2) fun m st H dx dy x y E Q hS ra rb hP => by
  split at hP
  · rename_i b hb
    have q := hP.now hS (.bl _)
    unfold dEq at hb
    split at hb
    · cases ra
      cases rb
      cases hb
      refine .inl (s1 _ _ _ _ rfl ?_)
      simpa using q
    · cases ra
      cases rb
      cases hb
      refine .inl (s1 _ _ _ _ rfl ?_)
      simpa using q
    · cases ra
      cases rb
      cases hb
      refine .inl (s1 _ _ _ _ rfl ?_)
      simpa using q
    · cases ra
      cases rb
      cases hb
      refine .inr (s2 _ _ _ _ _ _ (.bl _) (.int _) rfl rfl ?_)
      simpa [PyData.eqv, Bool.beq_eq_decide_eq] using q
    · cases ra
      cases rb
      cases hb
      refine .inr (s2 _ _ _ _ _ _ (.int _) (.bl _) rfl rfl ?_)
      simpa [PyData.eqv, Bool.beq_eq_decide_eq] using q
    · split at hb
      · rename_i p q' e1 e2
        cases hb
        obtain ⟨a1, a2⟩ := pd_dp hS e1 ra
        obtain ⟨b1, b2⟩ := pd_dp hS e2 rb
        refine .inr (s2 _ _ _ _ _ _ a1 b1 a2 b2 ?_)
        rw [pd_eqv e1 e2]
        exact q
      · cases hb
  · exact hP.elim
theorem m_eq (hu : X.A.units + 64 < cLine) : OpM X W (compareOp .Eq) oEq := m_eqB (neg := id) op_eq (op_eqD hu) (fun x y H Q h q => ⟨h, q⟩) fun x y H Q d e h1 h2 h3 h4 q => ⟨d, e, h1, h2, h3, h4, q⟩
theorem m_ne (hu : X.A.units + 64 < cLine) : OpM X W (compareOp .NotEq) oNe := m_eqB (neg := Bool.not) op_ne (op_neD hu) (fun x y H Q h q => ⟨h, q⟩) fun x y H Q d e h1 h2 h3 h4 q => ⟨d, e, h1, h2, h3, h4, q⟩
/-! ### order of ints, is -/
def oCmp (g : Int → Int → Bool) : O2 := fun x y st => match x, y with
  | .int i, .int j => .ok (.bl (g i j)) st
  | _, _ => .bad
theorem m_cmp {f : Value → Value → Sem Value} {g : Int → Int → Bool} (h : OpR X f (rI0 fun i j => .bl (g i j))) : OpM X W f (oCmp g) := opm_of h fun m st H dx dy x y E Q hS r1 r2 hP => by
  unfold oCmp at hP
  split at hP
  · cases r1
    cases r2
    exact ⟨_, _, rfl, rfl, hP.now hS (.bl _)⟩
  · exact hP.elim
abbrev oLt : O2 := oCmp fun i j => decide (i < j)
abbrev oLe : O2 := oCmp fun i j => decide (i ≤ j)
abbrev oGt : O2 := oCmp fun i j => decide (j < i)
abbrev oGe : O2 := oCmp fun i j => decide (j ≤ i)
theorem m_lt : OpM X W (compareOp .Lt) oLt := m_cmp op_lt
theorem m_le : OpM X W (compareOp .LtE) oLe := m_cmp op_le
theorem m_gt : OpM X W (compareOp .Gt) oGt := m_cmp op_gt
theorem m_ge : OpM X W (compareOp .GtE) oGe := m_cmp op_ge
def dIs (x y : D) : Option Bool := match x, y with
  | .non, .non => some true
  | .bl _, .non | .int _, .non | .str _, .non | .tup _, .non | .ref _, .non | .rol _, .non => some false
  | .bl a, .bl b => some (decide (a = b))
  | _, _ => none
def oIs : O2 := fun x y st => match dIs x y with
  | some b => .ok (.bl b) st
  | none => .bad
def oIsNot : O2 := fun x y st => match dIs x y with
  | some b => .ok (.bl !b) st
  | none => .bad
theorem m_isB {op : CmpOp} {neg : Bool → Bool} {r1 r2 : R2} (h1 : OpR X (compareOp op) r1) (h2 : OpR X (compareOp op) r2) (s1 : ∀ x H (Q : VK), Q (.bl (neg (decide (x = .non)))) H → r1 x .non H Q)
    (s2 : ∀ a b H (Q : VK), Q (.bl (neg (decide (a = b)))) H → r2 (.bl a) (.bl b) H Q) : OpM X W (compareOp op) (fun x y st => match dIs x y with
    | some b => .ok (.bl (neg b)) st
    | none => .bad) := opm_of (h1.or h2) fun m st H dx dy x y E Q hS ra rb hP => by
  split at hP
  · rename_i b hb
    have q := hP.now hS (.bl _)
    unfold dIs at hb
    split at hb <;> cases hb <;> cases ra <;> cases rb <;> first | exact .inl (s1 _ _ _ q) | exact .inr (s2 _ _ _ _ q)
  · exact hP.elim
theorem m_is : OpM X W (compareOp .Is) oIs := m_isB (neg := id) op_isN op_is_bl (fun x H Q q => ⟨rfl, q⟩) fun a b H Q q => ⟨_, _, rfl, rfl, q⟩
theorem m_isnot : OpM X W (compareOp .IsNot) oIsNot := m_isB (neg := Bool.not) op_notN op_isnot_bl (fun x H Q q => ⟨rfl, q⟩) fun a b H Q q => ⟨_, _, rfl, rfl, q⟩
end
end HM

/-! HM, part 4: expressions. -/
namespace HM
open PySem PySem.Spec PyProof.Rows L2
section
variable {X : Cx} {W : WX} {e a b c : Expr} {es rest : List Expr} {pos : Pos} {f fa fb fc : EM D} {fs : EM (List D)} {g ga gb : EM Bool}

/-! ### unary, comparisons -/
def eUn (o : O1) (fa : EM D) : EM D := fun τ st => (fa τ st).bind o
def UnM (X : Cx) (W : WX) (F : Value → Sem Value) (g : O1) : Prop :=
  ∀ (m : List Addr) (st : Store) (σ : L2.St) (H : Hp) (dx : D) (x : V) (Q : VK), SS X.K m st H → RD X.K m H dx x → Pe X.K (fun c d H' => W c d σ H') (RD X.K) m H (g dx st) Q →
    ∀ (pins : List (Addr × Obj)) (s : Shared) (v : Value), Inv X pins σ H s → RelV x v → wpAny (model X.prog X.w) X.A (F v) (EP X pins σ Q) X.xe s
theorem ex_un {op : UnaryOp} {o : O1} (ho : UnM X W (unaryOp op) o) (ha : Ex X W a fa) : Ex X W (.UnaryOp op a pos) (eUn o fa) := by
  refine ⟨fun m τ st σ H Q hL hS hP pins s I => ?_⟩
  refine UnaryOp_ (thn (ha.run m τ st σ H (fun x H1 => ∀ (pins : List (Addr × Obj)) (s : Shared) (v : Value), Inv X pins σ H1 s → RelV x v → wpAny (model X.prog X.w) X.A (unaryOp op v) (EP X pins σ Q) X.xe s) hL hS (hP.bind fun dx s1 m1 H1 x e1 hS1 r1 hP1 pins s v I rx => ho m1 s1 σ H1 dx x Q hS1 r1 hP1 pins s v I rx) pins s I) fun v s1 ⟨x, H1, I1, r1, q1⟩ => q1 pins s1 v I1 r1)
def oNeg : O1 := fun x st => match x with
  | .int i => .ok (.int (-i)) st
  | _ => .bad
theorem m_neg : UnM X W (unaryOp .USub) oNeg := fun m st σ H dx x Q hS r hP pins s v I rx => by
  unfold oNeg at hP
  split at hP
  · cases r
    exact un_neg pins s σ H _ v Q I rx ⟨_, rfl, hP.now hS (.int _)⟩
  · exact hP.elim
theorem ex_cmp {op : CmpOp} {o : O2} (ho : OpM X W (compareOp op) o) (ha : Ex X W a fa) (hb : Ex X W b fb) (hm : behindInMarks op b = false) : Ex X W (.Compare a [op] [b] pos) (eBin o fa fb) := by
  refine ⟨fun m τ st σ H Q hL hS hP pins s I => ?_⟩
  exact wpAny_Compare1 (binT peW peW I (R := fun x y H2 => wR2 X (compareOp op) σ x y H2 Q) (two ha hb hL hS hP fun m2 st2 H2 dx dy x y e2 hS2 r1 r2 hP2 pins s v u I rx ry => ho m2 st2 σ H2 dx dy x y Q hS2 r1 r2 hP2 pins s v u I rx ry) fun v u s2 x y H2 I2 rx ry q => q pins s2 v u I2 rx ry) hm
/-- a bool as a test -/
def dBl (x : D) (st : Store) : ER Bool := match x with
  | .bl b => .ok b st
  | _ => .bad
def tBl (fa : EM D) : EM Bool := fun τ st => (fa τ st).bind dBl
theorem bl_post {K : PySem.W.Frag} {E : XK} {m : List Addr} {H : Hp} {dx : D} {s1 : Store} {x : V} {Q : Bool → Hp → Prop} (hS : SS K m s1 H) (r : RD K m H dx x) (hP : Pe K E RB m H (dBl dx s1) Q) : ∃ k, x = .bl k ∧ Q k H := by
  unfold dBl at hP
  split at hP
  · cases r
    exact ⟨_, rfl, hP.now hS rfl⟩
  · exact hP.elim
theorem et_cmp {op : CmpOp} {o : O2} (ho : OpM X W (compareOp op) o) (ha : Ex X W a fa) (hb : Ex X W b fb) (hm : behindInMarks op b = false) : Et X W (.Compare a [op] [b] pos) (tBl (eBin o fa fb)) := by
  refine ⟨fun m τ st σ H Q hL hS hP pins s I => ?_⟩
  have q : wE X (.Compare a [op] [b] pos) σ H fun x H1 => ∃ k, x = .bl k ∧ Q k H1 := (ex_cmp ho ha hb hm).run m τ st σ H _ hL hS (hP.bind fun dx s1 m1 H1 x e1 hS1 r1 hP1 => bl_post hS1 r1 hP1)
  refine wpAny_isTrue_Compare1 (binT peW peW I (R := fun x y H2 => wR2 X (compareOp op) σ x y H2 fun x H1 => ∃ k, x = .bl k ∧ Q k H1) ?_ fun v u s2 x y H2 I2 rx ry q => thn (q pins s2 v u I2 rx ry) fun c s3 ⟨x, H1, I1, r1, q1⟩ => ?_) hm
  · have hP' : Pe X.K (fun c d H' => W c d σ H') (RD X.K) m H (eBin o fa fb τ st) fun x H1 => ∃ k, x = .bl k ∧ Q k H1 := hP.bind fun dx s1 m1 H1 x e1 hS1 r1 hP1 => bl_post hS1 r1 hP1
    exact two ha hb hL hS hP' fun m2 st2 H2 dx dy x y e2 hS2 r1 r2 hP2 pins s v u I rx ry => ho m2 st2 σ H2 dx dy x y _ hS2 r1 r2 hP2 pins s v u I rx ry
  · obtain ⟨k, rfl, q1⟩ := q1
    cases r1
    exact wpAny_truthy_bool ⟨H1, I1, q1⟩
/-- a chain of two comparisons -/
def eChain (o o' : O2) (fa fb fc : EM D) : EM D := fun τ st => (fa τ st).bind fun x s1 => (fb τ s1).bind fun y s2 => (o x y s2).bind fun z s3 => match z with
  | .bl true => (fc τ s3).bind fun w s4 => o' y w s4
  | .bl false => .ok (.bl false) s3
  | _ => .bad
theorem chain_read {op op' : CmpOp} {o o' : O2} (ho : OpM X W (compareOp op) o) (ho' : OpM X W (compareOp op') o') (ha : Ex X W a fa) (hb : Ex X W b fb) (hc : Ex X W c fc) {m : List Addr} {τ : Sl} {st : Store} {σ : L2.St} {H : Hp} {Q : VK} (hL : SL X.K m H τ σ) (hS : SS X.K m st H)
    (hP : Pe X.K (fun c d H' => W c d σ H') (RD X.K) m H (eChain o o' fa fb fc τ st) Q) : tChain (fun x y H Q => wR2 X (compareOp op) σ x y H Q) (fun x y H Q => wR2 X (compareOp op') σ x y H Q) (wE X a) (wE X b) (wE X c) σ H Q := by
  refine two ha hb hL hS hP fun m2 st2 H2 dx dy x y e2 hS2 r1 r2 hP2 pins s v u I rx ry => ?_
  refine ho m2 st2 σ H2 dx dy x y _ hS2 r1 r2 (hP2.bind fun dz s3 m3 H3 z e3 hS3 r3 hP3 => ?_) pins s v u I rx ry
  split at hP3
  · cases r3
    refine ⟨true, rfl, ?_⟩
    rw [if_pos rfl]
    exact hc.run m3 τ s3 σ H3 _ (hL.mono (e2.trans e3)) hS3 (hP3.bind fun dw s4 m4 H4 w e4 hS4 r4 hP4 pins s v u I rx ry => ho' m4 s4 σ H4 dy dw y w Q hS4 ((r2.mono e3).mono e4) r4 hP4 pins s v u I rx ry)
  · cases r3
    refine ⟨false, rfl, ?_⟩
    rw [if_neg Bool.false_ne_true]
    exact hP3.now hS3 (.bl _)
  · exact hP3.elim
/-- a rule of the layer's whose premises may speak of the slots at hand -/
theorem oprS {F : Value → Value → Sem Value} {σ : L2.St} : ∀ (pins : List (Addr × Obj)) (s : Shared) (H : Hp) (x y : V) (v u : Value) (Q : VK), Inv X pins σ H s → RelV x v → RelV y u → wR2 X F σ x y H Q → wpAny (model X.prog X.w) X.A (F v u) (EP X pins σ Q) X.xe s :=
  fun pins s H x y v u Q I rx ry q => q pins s v u I rx ry
theorem ex_chain {op op' : CmpOp} {o o' : O2} (ho : OpM X W (compareOp op) o) (ho' : OpM X W (compareOp op') o') (ha : Ex X W a fa) (hb : Ex X W b fb) (hc : Ex X W c fc) (hm : lastMarks [op, op'] [b, c] = false := by with_unfolding_all rfl) : Ex X W (.Compare a [op, op'] [b, c] pos) (eChain o o' fa fb fc) := by
  refine ⟨fun m τ st σ H Q hL hS hP pins s I => ?_⟩
  have h := chain_read ho ho' ha hb hc hL hS hP
  refine Compare_chain (thn (peW.run pins s σ H _ I h) fun v s1 ⟨x, H1, I1, r1, q1⟩ => chain_link (thn (peW.run pins s1 σ H1 _ I1 q1) fun u s2 ⟨y, H2, I2, r2, q2⟩ =>
    thn (q2 pins s2 v u I2 r1 r2) fun d s3 ⟨z, H3, I3, r3, k, e, q3⟩ => ?_)) hm
  subst e
  cases r3
  refine wpAny_truthy_bool ?_
  cases k with
  | false => exact ite_ff ⟨.bl false, H3, I3, rfl, q3⟩
  | true => exact ite_tt (chain_last (thn (peW.run pins s3 σ H3 _ I3 q3) fun w' s4 ⟨z', H4, I4, r4, q4⟩ => q4 pins s4 u w' I4 r2 r4))
theorem et_chain {op op' : CmpOp} {o o' : O2} (ho : OpM X W (compareOp op) o) (ho' : OpM X W (compareOp op') o') (ha : Ex X W a fa) (hb : Ex X W b fb) (hc : Ex X W c fc) (hm : lastMarks [op, op'] [b, c] = false := by with_unfolding_all rfl) : Et X W (.Compare a [op, op'] [b, c] pos) (tBl (eChain o o' fa fb fc)) := by
  refine ⟨fun m τ st σ H Q hL hS hP pins s I => ?_⟩
  have hP' : Pe X.K (fun c d H' => W c d σ H') (RD X.K) m H (eChain o o' fa fb fc τ st) fun x H1 => ∃ k, x = .bl k ∧ Q k H1 := hP.bind fun dx s1 m1 H1 x e1 hS1 r1 hP1 => bl_post hS1 r1 hP1
  have h := chain_read ho ho' ha hb hc hL hS hP'
  refine isTrue_chain (thn (peW.run pins s σ H _ I h) fun v s1 ⟨x, H1, I1, r1, q1⟩ => test_link (thn (peW.run pins s1 σ H1 _ I1 q1) fun u s2 ⟨y, H2, I2, r2, q2⟩ =>
    thn (q2 pins s2 v u I2 r1 r2) fun d s3 ⟨z, H3, I3, r3, k, e, q3⟩ => ?_)) hm
  subst e
  cases r3
  refine wpAny_truthy_bool ?_
  cases k with
  | false =>
    obtain ⟨k', e', q'⟩ := q3
    cases e'
    exact ite_ff ⟨H3, I3, q'⟩
  | true =>
    refine ite_tt (test_last (thn (peW.run pins s3 σ H3 _ I3 q3) fun w' s4 ⟨z', H4, I4, r4, q4⟩ => thn (q4 pins s4 u w' I4 r2 r4) fun d' s5 ⟨z2, H5, I5, r5, k2, e2, q5⟩ => ?_))
    subst e2
    cases r5
    exact wpAny_truthy_bool ⟨H5, I5, q5⟩

/-! ### tests -/
/-- a value's truth -/
def dTru (st : Store) : D → Option Bool
  | .non => some false
  | .bl b => some b
  | .int i => some (i != 0)
  | .str x => if x.length ≤ 16777216 then some (!x.isEmpty) else none
  | .tup xs => some (!xs.isEmpty)
  | .rol xs => some (!xs.isEmpty)
  | .ref n => (lstAt st n).map fun xs => !xs.isEmpty
  | _ => none
def tVal (fa : EM D) : EM Bool := fun τ st => (fa τ st).bind fun x s1 => match dTru s1 x with
  | some b => .ok b s1
  | none => .bad
theorem empty_of {K : PySem.W.Frag} {m : List Addr} {H : Hp} {ds : List D} {vs : List V} (r : RDs K m H ds vs) : ds.isEmpty = vs.isEmpty := by
  cases r <;> rfl
theorem tru_read {K : PySem.W.Frag} {m : List Addr} {st : Store} {H : Hp} {d : D} {v : V} {b : Bool} (s : SS K m st H) (h : dTru st d = some b) (r : RD K m H d v) : TruV K v H b := by
  cases r with
  | non =>
    cases h
    exact rfl
  | bl b =>
    cases h
    exact rfl
  | int i =>
    cases h
    exact rfl
  | str x =>
    have h : (if x.length ≤ 16777216 then some (!x.isEmpty) else none) = some b := h
    split at h
    · rename_i hl
      cases h
      refine ⟨line_of (by simpa [PySem.Str.length] using hl), ?_⟩
      cases x with
      | nil => rfl
      | cons c x =>
        have e : ((⟨(c :: x).toArray⟩ : PySem.Str).length : Int) ≠ 0 := by
          show (((c :: x).toArray.size : Nat) : Int) ≠ 0
          rw [List.size_toArray, List.length_cons]
          omega
        simp [PySem.Str.length]
        omega
    · cases h
  | tup q rs =>
    cases h
    exact .inr (.inl ⟨_, q, by rw [empty_of rs]⟩)
  | rol q rs =>
    cases h
    exact .inl ⟨_, q.sq, by rw [empty_of rs]⟩
  | ref q =>
    unfold dTru at h
    simp only [Option.map_eq_some_iff] at h
    obtain ⟨xs, e, rfl⟩ := h
    obtain ⟨vs, h1, h2⟩ := s.list e q
    exact .inl ⟨vs, SqL.of h1, by rw [empty_of h2]⟩
  | _ => cases h
theorem et_val (ha : Ex X W a fa) (he : ∀ whole, isTrue a X.env whole = (do let v ← whole; standAt a.pos; holding [v] (truthy v)) := by intro _; rfl) : Et X W a (tVal fa) := by
  refine ⟨fun m τ st σ H Q hL hS hP pins s I => ?_⟩
  refine isTrue_plain (thn (ha.run m τ st σ H (fun x H' => ∃ k, TruV X.K x H' k ∧ Q k H') hL hS (hP.bind fun dx s1 m1 H1 x e1 hS1 r1 hP1 => ?_) pins s I) fun v s1 ⟨x, H1, I1, r1, q1⟩ => tru_ok pins s1 σ H1 x v Q I1 r1 q1) (he _)
  split at hP1
  · rename_i k hk
    exact ⟨k, tru_read hS1 hk r1, hP1.now hS1 rfl⟩
  · exact hP1.elim
def tAnd (ga gb : EM Bool) : EM Bool := fun τ st => (ga τ st).bind fun x s1 => if x then gb τ s1 else .ok false s1
def tOr (ga gb : EM Bool) : EM Bool := fun τ st => (ga τ st).bind fun x s1 => if x then .ok true s1 else gb τ s1
def tNot (ga : EM Bool) : EM Bool := fun τ st => (ga τ st).bind fun x s1 => .ok (!x) s1
theorem Ew.et (h : Ew X W e g) : Et X W e g := ⟨fun m τ st σ H Q hL hS hP pins s I => h.run m τ st σ H Q hL hS hP _ pins s I⟩
theorem ew_and1 (ha : Et X W a ga) : Ew X W (.BoolOp .And [a] pos) ga := ⟨fun m τ st σ H Q hL hS hP wh pins s I => (pw_and1 ptW).run wh pins s σ H Q I (ha.run m τ st σ H Q hL hS hP)⟩
theorem ew_or1 (ha : Et X W a ga) : Ew X W (.BoolOp .Or [a] pos) ga := ⟨fun m τ st σ H Q hL hS hP wh pins s I => (pw_or1 ptW).run wh pins s σ H Q I (ha.run m τ st σ H Q hL hS hP)⟩
theorem ew_and (ha : Et X W a ga) (hb : Ew X W (.BoolOp .And (b :: rest) pos) gb) : Ew X W (.BoolOp .And (a :: b :: rest) pos) (tAnd ga gb) := by
  refine ⟨fun m τ st σ H Q hL hS hP wh pins s I => (pw_and ptW pwW).run wh pins s σ H Q I ?_⟩
  refine ha.run m τ st σ H _ hL hS (hP.bind fun dx s1 m1 H1 x e1 hS1 r1 hP1 => ?_)
  subst r1
  cases dx with
  | true => exact iteT (hb.run m1 τ s1 σ H1 Q (hL.mono e1) hS1 hP1)
  | false => exact iteF (hP1.now hS1 rfl)
theorem ew_or (ha : Et X W a ga) (hb : Ew X W (.BoolOp .Or (b :: rest) pos) gb) : Ew X W (.BoolOp .Or (a :: b :: rest) pos) (tOr ga gb) := by
  refine ⟨fun m τ st σ H Q hL hS hP wh pins s I => (pw_or ptW pwW).run wh pins s σ H Q I ?_⟩
  refine ha.run m τ st σ H _ hL hS (hP.bind fun dx s1 m1 H1 x e1 hS1 r1 hP1 => ?_)
  subst r1
  cases dx with
  | true => exact iteT (hP1.now hS1 rfl)
  | false => exact iteF (hb.run m1 τ s1 σ H1 Q (hL.mono e1) hS1 hP1)
theorem et_not (ha : Et X W a ga) : Et X W (.UnaryOp .Not a pos) (tNot ga) := by
  refine ⟨fun m τ st σ H Q hL hS hP pins s I => (pt_not ptW).run pins s σ H Q I ?_⟩
  refine ha.run m τ st σ H _ hL hS (hP.bind fun dx s1 m1 H1 x e1 hS1 r1 hP1 => ?_)
  subst r1
  exact hP1.now hS1 rfl
/-! ### and, or, not as values -/
def eAnd (fa fb : EM D) : EM D := fun τ st => (fa τ st).bind fun x s1 => match dTru s1 x with
  | some true => fb τ s1
  | some false => .ok x s1
  | none => .bad
def eOr (fa fb : EM D) : EM D := fun τ st => (fa τ st).bind fun x s1 => match dTru s1 x with
  | some true => .ok x s1
  | some false => fb τ s1
  | none => .bad
def eNot (fa : EM D) : EM D := fun τ st => (fa τ st).bind fun x s1 => match dTru s1 x with
  | some b => .ok (.bl !b) s1
  | none => .bad
theorem ex_one {op} (h : Ex X W a fa) : Ex X W (.BoolOp op [a] pos) fa := ⟨fun m τ st σ H Q hL hS hP pins s I => BoolOp_one (h.run m τ st σ H Q hL hS hP pins s I)⟩
theorem ex_and (ha : Ex X W a fa) (hb : Ex X W (.BoolOp .And (b :: rest) pos) fb) : Ex X W (.BoolOp .And (a :: b :: rest) pos) (eAnd fa fb) := by
  refine ⟨fun m τ st σ H Q hL hS hP pins s I => (pe_andT peW peW).run pins s σ H Q I ?_⟩
  refine ha.run m τ st σ H _ hL hS (hP.bind fun dx s1 m1 H1 x e1 hS1 r1 hP1 => ?_)
  split at hP1
  · rename_i hk
    exact ⟨true, tru_read hS1 hk r1, iteT (hb.run m1 τ s1 σ H1 Q (hL.mono e1) hS1 hP1)⟩
  · rename_i hk
    exact ⟨false, tru_read hS1 hk r1, iteF (hP1.now hS1 r1)⟩
  · exact hP1.elim
theorem ex_or (ha : Ex X W a fa) (hb : Ex X W (.BoolOp .Or (b :: rest) pos) fb) : Ex X W (.BoolOp .Or (a :: b :: rest) pos) (eOr fa fb) := by
  refine ⟨fun m τ st σ H Q hL hS hP pins s I => (pe_orT peW peW).run pins s σ H Q I ?_⟩
  refine ha.run m τ st σ H _ hL hS (hP.bind fun dx s1 m1 H1 x e1 hS1 r1 hP1 => ?_)
  split at hP1
  · rename_i hk
    exact ⟨true, tru_read hS1 hk r1, iteT (hP1.now hS1 r1)⟩
  · rename_i hk
    exact ⟨false, tru_read hS1 hk r1, iteF (hb.run m1 τ s1 σ H1 Q (hL.mono e1) hS1 hP1)⟩
  · exact hP1.elim
theorem ex_not (ha : Ex X W a fa) : Ex X W (.UnaryOp .Not a pos) (eNot fa) := by
  refine ⟨fun m τ st σ H Q hL hS hP pins s I => (pe_notT peW).run pins s σ H Q I ?_⟩
  refine ha.run m τ st σ H _ hL hS (hP.bind fun dx s1 m1 H1 x e1 hS1 r1 hP1 => ?_)
  split at hP1
  · rename_i k hk
    exact ⟨k, tru_read hS1 hk r1, hP1.now hS1 (.bl _)⟩
  · exact hP1.elim
def eIf (g : EM Bool) (fa fb : EM D) : EM D := fun τ st => (g τ st).bind fun x s1 => if x then fa τ s1 else fb τ s1
theorem ex_if {c : Expr} (hc : Et X W c g) (ha : Ex X W a fa) (hb : Ex X W b fb) : Ex X W (.IfExp c a b pos) (eIf g fa fb) := by
  refine ⟨fun m τ st σ H Q hL hS hP pins s I => (pe_ifExp ptW peW peW).run pins s σ H Q I ?_⟩
  refine hc.run m τ st σ H _ hL hS (hP.bind fun dx s1 m1 H1 x e1 hS1 r1 hP1 => ?_)
  subst r1
  cases dx with
  | true => exact iteT (ha.run m1 τ s1 σ H1 Q (hL.mono e1) hS1 hP1)
  | false => exact iteF (hb.run m1 τ s1 σ H1 Q (hL.mono e1) hS1 hP1)

/-! ### arguments, displays -/
def aNil : EM (List D) := fun _ st => .ok [] st
def aCons (f : EM D) (fs : EM (List D)) : EM (List D) := fun τ st => (f τ st).bind fun x s1 => (fs τ s1).bind fun xs s2 => .ok (x :: xs) s2
theorem ea_nil : Ea X W [] aNil := ⟨fun m τ st σ H Q hL hS hP pos pins s I => pa_nil.run pos pins s σ H Q I (hP.now hS .nil)⟩
theorem ea_cons (ha : Ex X W e f) (hr : Ea X W es fs) (hs : starEach (e :: es) X.env = (false, eval e X.env) :: starEach es X.env := by rfl) : Ea X W (e :: es) (aCons f fs) := by
  refine ⟨fun m τ st σ H Q hL hS hP pos pins s I => (pa_cons peW paW hs).run pos pins s σ H Q I ?_⟩
  refine ha.run m τ st σ H _ hL hS (hP.bind fun dx s1 m1 H1 x e1 hS1 r1 hP1 => ?_)
  exact hr.run m1 τ s1 σ H1 _ (hL.mono e1) hS1 (hP1.bind fun ds s2 m2 H2 xs e2 hS2 r2 hP2 => hP2.now hS2 (.cons (r1.mono e2) r2))
def eTup (fs : EM (List D)) : EM D := fun τ st => (fs τ st).bind fun xs s1 => if xs.length ≤ 16777216 then .ok (.tup xs) s1 else .bad
def eLst (fs : EM (List D)) : EM D := fun τ st => (fs τ st).bind fun xs s1 => if xs.length ≤ 16777216 then .ok (.ref s1.length) (s1 ++ [.lst xs]) else .bad
theorem ex_tup {x1} (h : Ea X W es fs) : Ex X W (.Tuple es x1 pos) (eTup fs) := by
  refine ⟨fun m τ st σ H Q hL hS hP pins s I => (pe_tup paW).run pins s σ H Q I ?_⟩
  refine h.run m τ st σ H _ hL hS (hP.bind fun ds s1 m1 H1 vs e1 hS1 r1 hP1 => ?_)
  split at hP1
  · rename_i hl
    exact ⟨line_of (by rw [← r1.len]; exact hl), hP1.tup hS1 r1⟩
  · exact hP1.elim
theorem ex_lst (h : Ea X W es fs) : Ex X W (.List es pos) (eLst fs) := by
  refine ⟨fun m τ st σ H Q hL hS hP pins s I => (pe_lst paW).run pins s σ H Q I ?_⟩
  refine h.run m τ st σ H _ hL hS (hP.bind fun ds s1 m1 H1 vs e1 hS1 r1 hP1 => ?_)
  split at hP1
  · rename_i hl
    exact ⟨line_of (by rw [← r1.len]; exact hl), hP1.lst hS1 r1⟩
  · exact hP1.elim

/-! ### subscripts -/
def IxM (X : Cx) (W : WX) (g : O2) : Prop :=
  ∃ r : R2, IxR X r ∧ ∀ (m : List Addr) (st : Store) (H : Hp) (dx dy : D) (x y : V) (E : XK) (Q : VK), SS X.K m st H → RD X.K m H dx x → RD X.K m H dy y → Pe X.K E (RD X.K) m H (g dx dy st) Q → r x y H Q
theorem ex_ix {o : O2} (ho : IxM X W o) (ha : Ex X W a fa) (hb : Ex X W b fb) (hs : PlainIx b := by exact fun _ _ => rfl) : Ex X W (.Subscript a b pos) (eBin o fa fb) := by
  obtain ⟨r, hr, h⟩ := ho
  refine ⟨fun m τ st σ H Q hL hS hP pins s I => (pe_ix hr peW peW hs).run pins s σ H Q I ?_⟩
  exact two ha hb hL hS hP fun m2 st2 H2 dx dy x y e2 hS2 r1 r2 hP2 => h m2 st2 H2 dx dy x y _ Q hS2 r1 r2 hP2
def oIx : O2 := fun x y st => match x, y with
  | .tup xs, .int i => match atI xs i with
    | some d => .ok d st
    | none => .bad
  | .rol xs, .int i => match atI xs i with
    | some d => .ok d st
    | none => .bad
  | .ref n, .int i => match lstAt st n with
    | some xs => match atI xs i with
      | some d => .ok d st
      | none => .bad
    | none => .bad
  | .str x, .int i => if x.length ≤ 16777216 then match atI x i with
      | some c => .ok (.str [c]) st
      | none => .bad
    else .bad
  | _, _ => .bad
theorem atI_rds {K : PySem.W.Frag} {m : List Addr} {H : Hp} {ds : List D} {vs : List V} {i : Int} {d : D} (r : RDs K m H ds vs) (h : atI ds i = some d) : ∃ v, atI vs i = some v ∧ RD K m H d v := by
  unfold atI at h ⊢
  rw [← r.len]
  cases e : ixN ds.length i with
  | none =>
    rw [e] at h
    cases h
  | some j =>
    rw [e] at h
    exact r.get h
theorem m_ix : IxM X W oIx := ⟨_, ix_seq, fun m st H dx dy x y E Q hS r1 r2 hP => by
  unfold oIx at hP
  split at hP
  · split at hP
    · rename_i d e
      cases r1 with
      | tup q rs =>
        cases r2
        obtain ⟨v, h1, h2⟩ := atI_rds rs e
        exact .inr (.inl ⟨_, _, _, v, rfl, rfl, q, h1, hP.now hS h2⟩)
    · exact hP.elim
  · split at hP
    · rename_i d e
      cases r1 with
      | rol q rs =>
        cases r2
        obtain ⟨v, h1, h2⟩ := atI_rds rs e
        exact .inl ⟨_, _, _, v, rfl, rfl, q.sq, h1, hP.now hS h2⟩
    · exact hP.elim
  · split at hP
    · split at hP
      · rename_i ex _ _ e
        cases r1 with
        | ref q =>
          cases r2
          obtain ⟨vs, h1, h2⟩ := hS.list ex q
          obtain ⟨v, h3, h4⟩ := atI_rds h2 e
          exact .inl ⟨_, _, _, v, rfl, rfl, SqL.of h1, h3, hP.now hS h4⟩
      · exact hP.elim
    · exact hP.elim
  · split at hP
    · split at hP
      · rename_i hl _ c e
        cases r1
        cases r2
        exact .inr (.inr ⟨_, _, c, rfl, rfl, line_of (by simpa [PySem.Str.length] using hl), by simpa using e, hP.now hS (.str [c])⟩)
      · exact hP.elim
    · exact hP.elim
  · exact hP.elim⟩
end
end HM

/-! HM, part 5: calls, what is walked, comprehensions. -/
namespace HM
open PySem PySem.Spec PyProof.Rows L2

/-! ### defs -/
abbrev FM := List D → Store → ER D
/-- a def's promise by its mirror -/
def spM (K : PySem.W.Frag) (n : Nat) (mf : FM) : Sp := fun vs H Q E => ∃ (m : List Addr) (st : Store) (ds : List D), ds.length = n ∧ SS K m st H ∧ RDs K m H ds vs ∧ Pe K E (RD K) m H (mf ds st) Q
/-- the def f keeps the mirror -/
abbrev FnM (P : Program) (w : World) (K : PySem.W.Frag) (mg : Str → Option Value) (base : Heap) (k : Nat) (f : Addr) (fd : FuncData) (ps : List Str) (mf : FM) : Prop :=
  FnOk P w K mg base (L2.CX P w) k f fd ps (spM K ps.length mf)
section
variable {X : Cx} {W : WX} {e a b c : Expr} {es rest : List Expr} {pos p : Pos} {f fa fb fc : EM D} {fs : EM (List D)} {g ga gb : EM Bool}
def eCall (n : Nat) (mf : FM) (fs : EM (List D)) : EM D := fun τ st => (fs τ st).bind fun ds s1 => if ds.length = n then mf ds s1 else .bad
theorem ex_call {k : Nat} {fa : Addr} {fd : FuncData} {ps : List Str} {mf : FM} {x : Str} (tk : Takes X W) (F : FnM X.prog X.w X.K X.mg X.base k fa fd ps mf) (hr : Room k X.A) (hg : Gl X x) (hm : X.mg x = some (.ref fa)) (hk : PySem.W.keepIn X.K (.ref fa) = true) (hb : Binds X.K fd ps [])
    (ha : Ea X W (e :: es) fs) (hdb : (x == ("__debug__" : Str)) = false := by decide) (he : starEach (e :: es) X.env = (false, eval e X.env) :: starEach es X.env := by rfl) (hpl : (backTo pos (starEach es X.env)).any (·.1) = false := by rfl) :
    Ex X W (.Call (.Name x p) (e :: es) [] pos) (eCall ps.length mf fs) := by
  refine ⟨fun m τ st σ H Q hL hS hP pins s I => ?_⟩
  refine wpAny_Call_Name_kw (ld_glob I hg hm ?_ hdb)
  have q : wA X (e :: es) σ H fun vs H1 => spM X.K ps.length mf (vs ++ []) H1 Q (WE W σ) := ha.run m τ st σ H _ hL hS (hP.bind fun ds s1 m1 H1 vs e1 hS1 r1 hP1 => by
    split at hP1
    · rename_i hl
      rw [List.append_nil]
      exact ⟨m1, s1, ds, hl, hS1, r1, hP1⟩
    · exact hP1.elim)
  refine PySem.W.callWith_K (h₀ := X.base) I.ok.mod.kin hk (thn (q pos pins s I) fun us s1 ⟨vs, H1, I1, r, q⟩ => ⟨I1.kIn, ?_⟩) he hpl
  exact run_fnSD (E := WE W) F hr hb .nil (passAt tk σ) I1 r q
theorem ex_call0 {k : Nat} {fa : Addr} {fd : FuncData} {ps : List Str} {mf : FM} {x : Str} (tk : Takes X W) (F : FnM X.prog X.w X.K X.mg X.base k fa fd ps mf) (hr : Room k X.A) (hg : Gl X x) (hm : X.mg x = some (.ref fa)) (hk : PySem.W.keepIn X.K (.ref fa) = true) (hb : Binds X.K fd ps [])
    (hdb : (x == ("__debug__" : Str)) = false := by decide) : Ex X W (.Call (.Name x p) [] [] pos) (eCall ps.length mf aNil) := by
  refine ⟨fun m τ st σ H Q hL hS hP pins s I => ?_⟩
  refine wpAny_Call_Name_kw (ld_glob I hg hm ?_ hdb)
  refine PySem.W.callWith_K0 I.kIn hk (run_fnSD (E := WE W) (us := []) (vs := []) F hr hb .nil (passAt tk σ) I .nil ?_)
  have hP : Pe X.K (fun c d H' => W c d σ H') (RD X.K) m H (if ([] : List D).length = ps.length then mf [] st else .bad) Q := hP
  split at hP
  · rename_i hl
    exact ⟨m, st, [], hl, hS, .nil, hP⟩
  · exact hP.elim

/-! ### built-ins by values -/
def CallM (X : Cx) (fv : Value) (g : FM) : Prop :=
  ∃ r, CallR X fv r ∧ ∀ (m : List Addr) (st : Store) (H : Hp) (ds : List D) (vs : List V) (E : XK) (Q : VK), SS X.K m st H → RDs X.K m H ds vs → Pe X.K E (RD X.K) m H (g ds st) Q → r vs H Q
def eCB (mf : FM) (fs : EM (List D)) : EM D := fun τ st => (fs τ st).bind mf
theorem ex_callB {x : Str} {id : String} {mf : FM} (hc : CallM X (.builtin id) mf) (hg : Gl X x) (hm : X.mg x = none) (hv : bootBuiltins x = some (.builtin id)) (ha : Ea X W (e :: es) fs) (hn : x ≠ "__name__" := by decide) (hdb : (x == ("__debug__" : Str)) = false := by decide)
    (he : starEach (e :: es) X.env = (false, eval e X.env) :: starEach es X.env := by rfl) (hpl : (backTo pos (starEach es X.env)).any (·.1) = false := by rfl) : Ex X W (.Call (.Name x p) (e :: es) [] pos) (eCB mf fs) := by
  obtain ⟨r, hr, h⟩ := hc
  refine ⟨fun m τ st σ H Q hL hS hP pins s I => (pe_callB hr hg hm hv paW hn hdb he hpl).run pins s σ H Q I ?_⟩
  exact ha.run m τ st σ H _ hL hS (hP.bind fun ds s1 m1 H1 vs e1 hS1 r1 hP1 => h m1 s1 H1 ds vs _ Q hS1 r1 hP1)
theorem ex_callT {x : Str} {T : String} {mf : FM} (hc : CallM X (.type T) mf) (hg : Gl X x) (hm : X.mg x = none) (hv : bootBuiltins x = some (.type T)) (ha : Ea X W (e :: es) fs) (hn : x ≠ "__name__" := by decide) (hdb : (x == ("__debug__" : Str)) = false := by decide)
    (he : starEach (e :: es) X.env = (false, eval e X.env) :: starEach es X.env := by rfl) (hpl : (backTo pos (starEach es X.env)).any (·.1) = false := by rfl) : Ex X W (.Call (.Name x p) (e :: es) [] pos) (eCB mf fs) := by
  obtain ⟨r, hr, h⟩ := hc
  refine ⟨fun m τ st σ H Q hL hS hP pins s I => (pe_callTy hr hg hm hv paW hn hdb he hpl).run pins s σ H Q I ?_⟩
  exact ha.run m τ st σ H _ hL hS (hP.bind fun ds s1 m1 H1 vs e1 hS1 r1 hP1 => h m1 s1 H1 ds vs _ Q hS1 r1 hP1)
theorem ex_callF {x : Str} {id : String} {mf : FM} (hc : CallM X (.builtin id) mf) (hg : Gl X x) (hm : X.mg x = some (.builtin id)) (ha : Ea X W (e :: es) fs) (hdb : (x == ("__debug__" : Str)) = false := by decide)
    (he : starEach (e :: es) X.env = (false, eval e X.env) :: starEach es X.env := by rfl) (hpl : (backTo pos (starEach es X.env)).any (·.1) = false := by rfl) : Ex X W (.Call (.Name x p) (e :: es) [] pos) (eCB mf fs) := by
  obtain ⟨r, hr, h⟩ := hc
  refine ⟨fun m τ st σ H Q hL hS hP pins s I => (pe_callBfun hr hg hm paW hdb he hpl).run pins s σ H Q I ?_⟩
  exact ha.run m τ st σ H _ hL hS (hP.bind fun ds s1 m1 H1 vs e1 hS1 r1 hP1 => h m1 s1 H1 ds vs _ Q hS1 r1 hP1)
/-- the items of what is a list or a tuple -/
def dSeq (st : Store) : D → Option (List D)
  | .tup xs => some xs
  | .rol xs => some xs
  | .ref n => lstAt st n
  | _ => none
def SqV (K : PySem.W.Frag) (m : List Addr) (H : Hp) (ds : List D) (v : V) : Prop := ∃ a vs, v = .ref a ∧ (SqL K H a vs ∨ SqT K H a vs) ∧ RDs K m H ds vs
theorem dSeq_read {K : PySem.W.Frag} {m : List Addr} {st : Store} {H : Hp} {d : D} {v : V} {xs : List D} (s : SS K m st H) (h : dSeq st d = some xs) (r : RD K m H d v) : SqV K m H xs v := by
  cases r with
  | tup q rs =>
    cases h
    exact ⟨_, _, rfl, .inr q, rs⟩
  | rol q rs =>
    cases h
    exact ⟨_, _, rfl, .inl q.sq, rs⟩
  | ref q =>
    obtain ⟨vs, h1, h2⟩ := s.list h q
    exact ⟨_, vs, rfl, .inl (SqL.of h1), h2⟩
  | _ => cases h
def fLen : FM := fun ds st => match ds with
  | [.str x] => if x.length ≤ 16777216 then .ok (.int x.length) st else .bad
  | [d] => match dSeq st d with
    | some xs => .ok (.int xs.length) st
    | none => .bad
  | _ => .bad
theorem c_len : CallM X (.builtin "len") fLen := ⟨_, call_len_seq.or call_len_str, fun m st H ds vs E Q hS r hP => by
  unfold fLen at hP
  split at hP
  · split at hP
    · rename_i x hl
      obtain ⟨v, rfl, r1⟩ := r.one
      cases r1
      refine .inr ⟨_, rfl, line_of (by simpa [PySem.Str.length] using hl), ?_⟩
      have e : (((⟨x.toArray⟩ : PySem.Str).length : Nat) : Int) = (x.length : Int) := by simp [PySem.Str.length]
      rw [e]
      exact hP.now hS (.int _)
    · exact hP.elim
  · split at hP
    · rename_i xs hx
      obtain ⟨v, rfl, r1⟩ := r.one
      obtain ⟨a, vs, rfl, q, rs⟩ := dSeq_read hS hx r1
      refine .inl ⟨a, vs, rfl, q, ?_⟩
      rw [← rs.len]
      exact hP.now hS (.int _)
    · exact hP.elim
  · exact hP.elim⟩
def fInt : FM := fun ds st => match ds with
  | [.int i] => .ok (.int i) st
  | [.bl b] => .ok (.int (if b then 1 else 0)) st
  | _ => .bad
theorem c_int : CallM X (.type "int") fInt := ⟨_, call_int1, fun m st H ds vs E Q hS r hP => by
  unfold fInt at hP
  split at hP
  · obtain ⟨v, rfl, r1⟩ := r.one
    cases r1
    exact .inl ⟨_, rfl, hP.now hS (.int _)⟩
  · obtain ⟨v, rfl, r1⟩ := r.one
    cases r1
    exact .inr ⟨_, rfl, hP.now hS (.int _)⟩
  · exact hP.elim⟩
def fAbs : FM := fun ds st => match ds with
  | [.int i] => .ok (.int (i.natAbs : Nat)) st
  | _ => .bad
theorem c_abs : CallM X (.builtin "abs") fAbs := ⟨_, call_abs, fun m st H ds vs E Q hS r hP => by
  unfold fAbs at hP
  split at hP
  · rename_i i
    obtain ⟨v, rfl, r1⟩ := r.one
    cases r1
    refine ⟨_, rfl, ?_⟩
    have e : (if i < 0 then -i else i) = ((i.natAbs : Nat) : Int) := by split <;> omega
    rw [e]
    exact hP.now hS (.int _)
  · exact hP.elim⟩
def fGcd : FM := fun ds st => match ds with
  | [.int i, .int j] => .ok (.int (Nat.gcd i.natAbs j.natAbs : Nat)) st
  | _ => .bad
theorem c_gcd : CallM X (.builtin "math.gcd") fGcd := ⟨_, cr_gcd, fun m st H ds vs E Q hS r hP => by
  unfold fGcd at hP
  split at hP
  · obtain ⟨v, u, rfl, r1, r2⟩ := r.two
    cases r1
    cases r2
    exact ⟨_, _, rfl, hP.now hS (.int _)⟩
  · exact hP.elim⟩
def fTuple : FM := fun ds st => match ds with
  | [d] => match dSeq st d with
    | some xs => .ok (.tup xs) st
    | none => .bad
  | _ => .bad
theorem c_tuple : CallM X (.type "tuple") fTuple := ⟨_, call_tuple_of, fun m st H ds vs E Q hS r hP => by
  unfold fTuple at hP
  split at hP
  · split at hP
    · rename_i xs hx
      obtain ⟨v, rfl, r1⟩ := r.one
      obtain ⟨a, vs, rfl, q, rs⟩ := dSeq_read hS hx r1
      rcases q with q | q
      · exact ⟨a, vs, rfl, .inl ⟨q, hP.tup hS rs⟩⟩
      · exact ⟨a, vs, rfl, .inr ⟨q, hP.now hS (.tup q rs)⟩⟩
    · exact hP.elim
  · exact hP.elim⟩
def fList : FM := fun ds st => match ds with
  | [d] => match dSeq st d with
    | some xs => .ok (.ref st.length) (st ++ [.lst xs])
    | none => .bad
  | _ => .bad
theorem c_list : CallM X (.type "list") fList := ⟨_, call_list_of, fun m st H ds vs E Q hS r hP => by
  unfold fList at hP
  split at hP
  · split at hP
    · rename_i xs hx
      obtain ⟨v, rfl, r1⟩ := r.one
      obtain ⟨a, vs, rfl, q, rs⟩ := dSeq_read hS hx r1
      exact ⟨a, vs, rfl, q, hP.lst hS rs⟩
    · exact hP.elim
  · exact hP.elim⟩
def fMin2 : FM := fun ds st => match ds with
  | [.int i, .int j] => .ok (.int (if j < i then j else i)) st
  | _ => .bad
theorem c_min2 (hc : X.calm = true) : CallM X (.builtin "min") fMin2 := ⟨_, call_min2 hc, fun m st H ds vs E Q hS r hP => by
  unfold fMin2 at hP
  split at hP
  · obtain ⟨v, u, rfl, r1, r2⟩ := r.two
    cases r1
    cases r2
    exact ⟨_, _, rfl, hP.now hS (.int _)⟩
  · exact hP.elim⟩
def fMax2 : FM := fun ds st => match ds with
  | [.int i, .int j] => .ok (.int (if j > i then j else i)) st
  | _ => .bad
theorem c_max2 (hc : X.calm = true) : CallM X (.builtin "max") fMax2 := ⟨_, call_max2 hc, fun m st H ds vs E Q hS r hP => by
  unfold fMax2 at hP
  split at hP
  · obtain ⟨v, u, rfl, r1, r2⟩ := r.two
    cases r1
    cases r2
    exact ⟨_, _, rfl, hP.now hS (.int _)⟩
  · exact hP.elim⟩
/-! ### isinstance -/
def dTy (st : Store) : D → Option String
  | .non => some "NoneType"
  | .bl _ => some "bool"
  | .int _ => some "int"
  | .str _ => some "str"
  | .tup _ => some "tuple"
  | .rol _ => some "list"
  | .ref n => (lstAt st n).map fun _ => "list"
  | _ => none
def isiT (a b : String) : Option Bool :=
  if (["NoneType", "bool", "int", "str", "tuple", "list"].contains a && ["bool", "int", "str", "tuple", "list"].contains b) = true then some (decide (a = b) || (decide (a = "bool") && decide (b = "int"))) else none
theorem isiT_ok {a b : String} {r : Bool} (h : isiT a b = some r) : kitB a b = some r := by
  have all : (["NoneType", "bool", "int", "str", "tuple", "list"].all fun a => ["bool", "int", "str", "tuple", "list"].all fun b => decide (kitB a b = some (decide (a = b) || (decide (a = "bool") && decide (b = "int"))))) = true := by decide +kernel
  unfold isiT at h
  split at h
  · rename_i c
    rw [Bool.and_eq_true] at c
    have z := List.all_eq_true.mp (List.all_eq_true.mp all a (List.contains_iff_mem.mp c.1)) b (List.contains_iff_mem.mp c.2)
    rw [of_decide_eq_true z]
    exact h
  · cases h
theorem ty_read {K : PySem.W.Frag} {m : List Addr} {st : Store} {H : Hp} {d : D} {v : V} {t : String} (s : SS K m st H) (h : dTy st d = some t) (r : RD K m H d v) : TyX K H v (.type t) := by
  cases r with
  | non => cases h; exact .base .non
  | bl b => cases h; exact .base (.bl b)
  | int i => cases h; exact .base (.int i)
  | str x => cases h; exact .base (.str _)
  | tup q rs =>
    cases h
    rcases q with (q | ⟨o, q⟩) | ⟨o, its, n, q1, q2, _⟩
    · exact .base (.tup q)
    · exact .fTuple q
    · exact .kTuple q1 q2
  | rol q rs =>
    cases h
    rcases q with ⟨o, q⟩ | ⟨o, its, n, q1, q2, _⟩
    · exact .base (.frz q)
    · exact .kList q1 q2
  | ref q =>
    have h : (lstAt st _).map (fun _ => "list") = some t := h
    simp only [Option.map_eq_some_iff] at h
    obtain ⟨xs, e, rfl⟩ := h
    obtain ⟨vs, h1, h2⟩ := s.list e q
    exact .base (.lst h1)
  | _ => cases h
def fIsi : FM := fun ds st => match ds with
  | [d, .ty c] => match dTy st d with
    | some t => match isiT t c with
      | some b => .ok (.bl b) st
      | none => .bad
    | none => .bad
  | _ => .bad
theorem c_isi : CallM X (.builtin "isinstance") fIsi := ⟨_, call_isi, fun m st H ds vs E Q hS r hP => by
  unfold fIsi at hP
  split at hP
  · split at hP
    · rename_i t ht
      split at hP
      · rename_i b hb
        obtain ⟨v, u, rfl, r1, r2⟩ := r.two
        cases r2
        exact ⟨_, _, _, _, b, rfl, by constructor, ty_read hS ht r1, kit_ty (isiT_ok hb), hP.now hS (.bl _)⟩
      · exact hP.elim
    · exact hP.elim
  · exact hP.elim⟩

/-! ### fresh lists, sequences as arguments -/
/-- an expression that makes a list that nobody else has -/
structure El (X : Cx) (W : WX) (e : Expr) (f : EM (List D)) : Prop where
  run : ∀ (m : List Addr) (τ : Sl) (st : Store) (σ : L2.St) (H : Hp) (Q : VK), SL X.K m H τ σ → SS X.K m st H →
    Pe X.K (fun c d H' => W c d σ H') (fun m' H' ds v => ∃ a vs, v = .ref a ∧ H' a = some (.lst vs) ∧ a ∉ m' ∧ H a = none ∧ RDs X.K m' H' ds vs) m H (f τ st) Q → wE X e σ H Q
def eEl (f : EM (List D)) : EM D := fun τ st => (f τ st).bind fun ds s1 => .ok (.ref s1.length) (s1 ++ [.lst ds])
theorem Ext.back {K : PySem.W.Frag} {m m1 : List Addr} {H H1 : Hp} {s1 : Store} {a : Addr} (e : Ext K m H m1 H1) (s : SS K m1 s1 H1) (h : H1 a = none) : H a = none := by
  cases q : H a with
  | none => rfl
  | some o =>
    by_cases hm : a ∈ m
    · exact absurd (e.mem hm) (s.notin h)
    · rw [e.frm a o hm q] at h
      cases h
theorem Ext.own {K : PySem.W.Frag} {m m1 : List Addr} {H H1 : Hp} {a : Addr} (e : Ext K m H m1 H1) (h : H a = none) : Ext K m H (m1 ++ [a]) H1 where
  pre := fun n b q => by
    have z := e.pre n b q
    rw [List.getElem?_append_left (List.getElem?_eq_some_iff.mp z).1]
    exact z
  tup := e.tup
  fzl := e.fzl
  frm := e.frm
  new := fun b q n => by
    rcases List.mem_append.mp q with q | q
    · exact e.new b q n
    · have z : b = a := by simpa using q
      rw [z]
      exact h
theorem ex_el {fl : EM (List D)} (h : El X W e fl) : Ex X W e (eEl fl) := by
  refine ⟨fun m τ st σ H Q hL hS hP => h.run m τ st σ H Q hL hS ?_⟩
  unfold eEl at hP
  cases hq : fl τ st with
  | ok ds s1 =>
    rw [hq] at hP
    intro m1 H1 v e1 hS1 ⟨a, vs, e, ha, na, hn, rs⟩
    subst e
    refine hP (m1 ++ [a]) H1 (.ref a) (e1.own hn) (hS1.grow na ⟨vs, ha, rs.kp Kp.grow⟩) (.ref ?_)
    rw [← hS1.len]
    simp
  | exc x st' =>
    rw [hq] at hP
    exact hP
  | bad =>
    rw [hq] at hP
    exact hP.elim
/-- the items of an expression's list or tuple -/
structure Es (X : Cx) (W : WX) (e : Expr) (f : EM (List D)) : Prop where
  run : ∀ (m : List Addr) (τ : Sl) (st : Store) (σ : L2.St) (H : Hp) (Q : VK), SL X.K m H τ σ → SS X.K m st H → Pe X.K (fun c d H' => W c d σ H') (SqV X.K) m H (f τ st) Q → wE X e σ H Q
theorem es_el {fl : EM (List D)} (h : El X W e fl) : Es X W e fl := by
  refine ⟨fun m τ st σ H Q hL hS hP => h.run m τ st σ H Q hL hS ?_⟩
  cases hq : fl τ st with
  | ok ds s1 =>
    rw [hq] at hP
    intro m1 H1 v e1 hS1 ⟨a, vs, e, ha, na, hn, rs⟩
    exact hP m1 H1 v e1 hS1 ⟨a, vs, e, .inl (SqL.of ha), rs⟩
  | exc x st' =>
    rw [hq] at hP
    exact hP
  | bad =>
    rw [hq] at hP
    exact hP.elim
def sEx (f : EM D) : EM (List D) := fun τ st => (f τ st).bind fun d s1 => match dSeq s1 d with
  | some xs => .ok xs s1
  | none => .bad
theorem es_ex (h : Ex X W e f) : Es X W e (sEx f) := by
  refine ⟨fun m τ st σ H Q hL hS hP => h.run m τ st σ H Q hL hS (hP.bind fun d s1 m1 H1 v e1 hS1 r1 hP1 => ?_)⟩
  split at hP1
  · rename_i xs hx
    exact hP1.now hS1 (dSeq_read hS1 hx r1)
  · exact hP1.elim
/-- a built-in of one argument, by its items -/
abbrev SM1 := List D → Store → ER D
def CallS (X : Cx) (fv : Value) (g : SM1) : Prop :=
  ∃ r, CallR X fv r ∧ ∀ (m : List Addr) (st : Store) (H : Hp) (ds : List D) (v : V) (E : XK) (Q : VK), SS X.K m st H → SqV X.K m H ds v → Pe X.K E (RD X.K) m H (g ds st) Q → r [v] H Q
def eCS (g : SM1) (f : EM (List D)) : EM D := fun τ st => (f τ st).bind g
theorem ex_callBs {x : Str} {id : String} {g : SM1} {fl : EM (List D)} (hc : CallS X (.builtin id) g) (hg : Gl X x) (hm : X.mg x = none) (hv : bootBuiltins x = some (.builtin id)) (ha : Es X W e fl) (hn : x ≠ "__name__" := by decide) (hdb : (x == ("__debug__" : Str)) = false := by decide)
    (he : starEach [e] X.env = (false, eval e X.env) :: starEach [] X.env := by rfl) (hpl : (backTo pos (starEach [] X.env)).any (·.1) = false := by rfl) : Ex X W (.Call (.Name x p) [e] [] pos) (eCS g fl) := by
  obtain ⟨r, hr, h⟩ := hc
  refine ⟨fun m τ st σ H Q hL hS hP pins s I => (pe_callB hr hg hm hv (pa_cons peW pa_nil he) hn hdb he hpl).run pins s σ H Q I ?_⟩
  exact ha.run m τ st σ H _ hL hS (hP.bind fun ds s1 m1 H1 v e1 hS1 r1 hP1 => h m1 s1 H1 ds v _ Q hS1 r1 hP1)
theorem ex_callTs {x : Str} {T : String} {g : SM1} {fl : EM (List D)} (hc : CallS X (.type T) g) (hg : Gl X x) (hm : X.mg x = none) (hv : bootBuiltins x = some (.type T)) (ha : Es X W e fl) (hn : x ≠ "__name__" := by decide) (hdb : (x == ("__debug__" : Str)) = false := by decide)
    (he : starEach [e] X.env = (false, eval e X.env) :: starEach [] X.env := by rfl) (hpl : (backTo pos (starEach [] X.env)).any (·.1) = false := by rfl) : Ex X W (.Call (.Name x p) [e] [] pos) (eCS g fl) := by
  obtain ⟨r, hr, h⟩ := hc
  refine ⟨fun m τ st σ H Q hL hS hP pins s I => (pe_callTy hr hg hm hv (pa_cons peW pa_nil he) hn hdb he hpl).run pins s σ H Q I ?_⟩
  exact ha.run m τ st σ H _ hL hS (hP.bind fun ds s1 m1 H1 v e1 hS1 r1 hP1 => h m1 s1 H1 ds v _ Q hS1 r1 hP1)
def gTuple : SM1 := fun xs st => .ok (.tup xs) st
theorem s_tuple : CallS X (.type "tuple") gTuple := ⟨_, call_tuple_of, fun m st H ds v E Q hS r hP => by
  obtain ⟨a, vs, rfl, q, rs⟩ := r
  rcases q with q | q
  · exact ⟨a, vs, rfl, .inl ⟨q, hP.tup hS rs⟩⟩
  · exact ⟨a, vs, rfl, .inr ⟨q, hP.now hS (.tup q rs)⟩⟩⟩
def gLen : SM1 := fun xs st => .ok (.int xs.length) st
theorem s_len : CallS X (.builtin "len") gLen := ⟨_, call_len_seq, fun m st H ds v E Q hS r hP => by
  obtain ⟨a, vs, rfl, q, rs⟩ := r
  refine ⟨a, vs, rfl, q, ?_⟩
  rw [← rs.len]
  exact hP.now hS (.int _)⟩

/-! ### targets -/
def wG (X : Cx) (tg : Expr) : TG := fun v σ H Q => ∀ (pins : List (Addr × Obj)) (s : Shared) (u : Value), Inv X pins σ H s → RelV v u → wpAny (model X.prog X.w) X.A (assign tg X.env u) (fun _ s' => ∃ σ' H', Inv X pins σ' H' s' ∧ Q σ' H') X.xe s
theorem pgW {X : Cx} {tg : Expr} : PG X tg (wG X tg) := ⟨fun pins s σ H v u Q I r h => h pins s u I r⟩
/-- a target: the slots at ix are set -/
structure Eg (X : Cx) (tg : Expr) (ix : List Nat) (set : D → Sl → Option Sl) : Prop where
  run : ∀ (m : List Addr) (τ τ' : Sl) (st : Store) (σ : L2.St) (H : Hp) (d : D) (v : V) (Q : L2.St → Hp → Prop), SL X.K m H τ σ → SS X.K m st H → RD X.K m H d v → set d τ = some τ' →
    (∀ σ', σ'.length = σ.length → (∀ j, j ∉ ix → σ'[j]? = σ[j]?) → SL X.K m H τ' σ' → Q σ' H) → wG X tg v σ H Q
def gN (i : Nat) : D → Sl → Option Sl := fun d τ => some (τ.set i (some d))
theorem eg_name {i : Nat} {x : Str} (hN : X.N.Nodup) (hi : X.N[i]? = some x := by rfl) (hx : Loc X.env.scope x := by first | exact Or.inl rfl | exact Or.inr rfl) (hf : X.fn x = true ∨ X.env.scope.names.lookup x = some .local := by first | exact .inl rfl | exact .inr rfl) : Eg X (.Name x pos) [i] (gN i) := by
  refine ⟨fun m τ τ' st σ H d v Q hL hS r e k pins s u I ru => (pg_name hN hi hx hf).run pins s σ H v u Q I ru ?_⟩
  cases e
  exact k _ (by simp) (fun j hj => List.getElem?_set_ne (fun z => hj (by simp [z]))) (hL.set i r)
/-- several names, one after another -/
structure Egs (X : Cx) (ts : List Expr) (ix : List Nat) (set : List D → Sl → Option Sl) : Prop where
  run : ∃ t : TGs, PGs X ts t ∧ ∀ (m : List Addr) (τ τ' : Sl) (σ : L2.St) (H : Hp) (ds : List D) (vs : List V) (Q : L2.St → Hp → Prop), SL X.K m H τ σ → RDs X.K m H ds vs → set ds τ = some τ' →
    (∀ σ', σ'.length = σ.length → (∀ j, j ∉ ix → σ'[j]? = σ[j]?) → SL X.K m H τ' σ' → Q σ' H) → t vs σ H Q
def gNil0 : List D → Sl → Option Sl := fun ds τ => match ds with
  | [] => some τ
  | _ => none
theorem egs_nil : Egs X [] [] gNil0 := ⟨_, pgs_nil, fun m τ τ' σ H ds vs Q hL r e k => by
    cases r with
    | nil =>
      cases e
      exact ⟨rfl, k σ rfl (fun _ _ => rfl) hL⟩
    | cons _ _ => cases e⟩
def gCs (i : Nat) (set : List D → Sl → Option Sl) : List D → Sl → Option Sl := fun ds τ => match ds with
  | d :: r => set r (τ.set i (some d))
  | [] => none
theorem egs_cons {i : Nat} {ix : List Nat} {x : Str} {ts : List Expr} {set : List D → Sl → Option Sl} (hN : X.N.Nodup) (hr : Egs X ts ix set) (hi : X.N[i]? = some x := by rfl) (hx : Loc X.env.scope x := by first | exact Or.inl rfl | exact Or.inr rfl) (hf : X.fn x = true ∨ X.env.scope.names.lookup x = some .local := by first | exact .inl rfl | exact .inr rfl)
    (hs : (assignEach (.Name x pos :: ts) X.env).map (·.2) = assign (.Name x pos) X.env :: (assignEach ts X.env).map (·.2) := by rfl) : Egs X (.Name x pos :: ts) (i :: ix) (gCs i set) := by
  obtain ⟨t, ht, h⟩ := hr
  refine ⟨_, pgs_cons (pg_name hN hi hx hf) ht hs, fun m τ τ' σ H ds vs Q hL r e k => ?_⟩
  cases r with
  | nil => cases e
  | cons r1 r2 =>
    refine ⟨_, _, rfl, h m _ τ' _ H _ _ Q (hL.set i r1) r2 e fun σ' l q s => k σ' (by rw [l, List.length_set]) (fun j hj => ?_) s⟩
    rw [q j fun z => hj (List.mem_cons_of_mem _ z)]
    exact List.getElem?_set_ne (fun z => hj (by simp [z]))
def gT (n : Nat) (set : List D → Sl → Option Sl) : D → Sl → Option Sl := fun d τ => match d with
  | .tup ds => if ds.length = n then set ds τ else none
  | _ => none
theorem eg_tup {ts : List Expr} {kk : Nat} {ix : List Nat} {set : List D → Sl → Option Sl} {n : Nat} (hc : X.calm = true) (h : Egs X ts ix set) (hn : (assignEach ts X.env).length = n := by rfl) (hst : (assignEach ts X.env).findIdx? (·.1) = none := by rfl) : Eg X (.Tuple ts kk pos) ix (gT n set) := by
  obtain ⟨t, ht, h⟩ := h
  refine ⟨fun m τ τ' st σ H d v Q hL hS r e k pins s u I ru => (pg_tup hc ht hn hst).run pins s σ H v u Q I ru ?_⟩
  unfold gT at e
  split at e
  · split at e
    · rename_i hl
      cases r with
      | tup q rs => exact ⟨_, _, rfl, q, by rw [← rs.len]; exact hl, h m τ τ' σ H _ _ Q hL rs e k⟩
    · cases e
  · cases e

/-! ### what is walked -/
inductive Sq where
  /-- items that stay -/
  | fix (xs : List D)
  /-- the items of a list of the store's, which must stay as long as it is walked -/
  | cell (n : Nat) (xs : List D)
  /-- pairs of the items of two lists of the store's -/
  | two (n k : Nat) (xs ys : List D)
  /-- pairs of the items of a list of the store's (the first one if l, otherwise the second one) and of a tuple -/
  | mix (l : Bool) (n : Nat) (xs ys : List D)
/-- pairs -/
def zipD (xs ys : List D) : List D := (List.zip xs ys).map fun p => .tup [p.1, p.2]
def Sq.items : Sq → List D
  | .fix xs => xs
  | .cell _ xs => xs
  | .two _ _ xs ys => zipD xs ys
  | .mix _ _ xs ys => zipD xs ys
def Sq.chk (q : Sq) (st : Store) : Bool := match q with
  | .fix _ => true
  | .cell n xs => decide (lstAt st n = some xs)
  | .two n k xs ys => decide (lstAt st n = some xs) && decide (lstAt st k = some ys)
  | .mix l n xs ys => decide (lstAt st n = some (if l then xs else ys))
def JOk (K : PySem.W.Frag) (m0 : List Addr) (H0 : Hp) (q : Sq) (J : It) : Prop :=
  ∀ (m : List Addr) (H : Hp) (st : Store), Ext K m0 H0 m H → SS K m st H → q.chk st = true →
    (∀ (i : Nat) (d : D), q.items[i]? = some d → J.go i H ∧ ∀ x H', J.yld i H x H' → Ext K m H m H' ∧ SS K m st H' ∧ RD K m H' d x) ∧ J.stop q.items.length H
def wI (X : Cx) (tg iter : Expr) : TI := fun σ H R => ∀ (pins : List (Addr × Obj)) (s : Shared), Inv X pins σ H s → wpAny (model X.prog X.w) X.A (eval iter X.env) (fun v s1 => wpAny (model X.prog X.w) X.A (pyIter v) (PIE X pins σ tg R) X.xe s1) X.xe s
theorem piW {X : Cx} {tg iter : Expr} : PI X tg iter (wI X tg iter) := ⟨fun pins s σ H R I h => h pins s I⟩
structure Ei (X : Cx) (W : WX) (tg iter : Expr) (f : EM Sq) : Prop where
  run : ∀ (m : List Addr) (τ : Sl) (st : Store) (σ : L2.St) (H : Hp) (R : It → Hp → Prop), SL X.K m H τ σ → SS X.K m st H → Pe X.K (fun c d H' => W c d σ H') (JOk X.K) m H (f τ st) R → wI X tg iter σ H R
theorem j_list {K : PySem.W.Frag} {m0 : List Addr} {H0 : Hp} {a : Addr} {q : Sq} (h : ∀ (m : List Addr) (H : Hp) (st : Store), Ext K m0 H0 m H → SS K m st H → q.chk st = true → ∃ vs, SqL K H a vs ∧ RDs K m H q.items vs) : JOk K m0 H0 q (Itl K a) := fun m H st e s hc => by
  obtain ⟨vs, hq, rs⟩ := h m H st e s hc
  refine ⟨fun i d hd => ?_, ⟨vs, hq, by rw [rs.len]; exact Nat.le_refl _⟩⟩
  obtain ⟨v, hv, r⟩ := rs.get hd
  refine ⟨⟨vs, v, hq, hv⟩, fun x H' hy => ?_⟩
  obtain ⟨rfl, y⟩ := hy
  have z := y vs hq
  rw [hv] at z
  cases z
  exact ⟨.refl, s, r⟩
theorem j_tup {K : PySem.W.Frag} {m0 : List Addr} {H0 : Hp} {a : Addr} {vs : List V} {xs : List D} (hq : SqT K H0 a vs) (rs : RDs K m0 H0 xs vs) : JOk K m0 H0 (.fix xs) (Itt K a) := fun m H st e s _ => by
  have hq' := e.tup a vs hq
  have rs' := rs.mono e
  refine ⟨fun i d hd => ?_, ⟨vs, hq', by show vs.length ≤ xs.length; rw [← rs.len]; exact Nat.le_refl _⟩⟩
  obtain ⟨v, hv, r⟩ := rs'.get (show xs[i]? = some d from hd)
  refine ⟨⟨vs, v, hq', hv⟩, fun x H' hy => ?_⟩
  obtain ⟨rfl, y⟩ := hy
  have z := y vs hq'
  rw [hv] at z
  cases z
  exact ⟨.refl, s, r⟩
def dSq (st : Store) : D → Option Sq
  | .tup xs => some (.fix xs)
  | .rol xs => some (.fix xs)
  | .ref n => (lstAt st n).map (.cell n)
  | .str x => some (.fix (x.map fun c => .str [c]))
  | _ => none
def iEx (f : EM D) : EM Sq := fun τ st => (f τ st).bind fun d s1 => match dSq s1 d with
  | some q => .ok q s1
  | none => .bad
theorem j_str {K : PySem.W.Frag} {m0 : List Addr} {H0 : Hp} (x : List Nat) : JOk K m0 H0 (.fix (x.map fun c => .str [c])) (Its ⟨x.toArray⟩) := fun m H st e s _ => by
  refine ⟨fun i d hd => ?_, ?_⟩
  · have hd : (x.map fun c => D.str [c])[i]? = some d := hd
    rw [List.getElem?_map] at hd
    cases hx : x[i]? with
    | none =>
      rw [hx] at hd
      cases hd
    | some c =>
      rw [hx] at hd
      cases hd
      refine ⟨(List.getElem?_eq_some_iff.mp hx).1, fun y H' hy => ?_⟩
      obtain ⟨e, c', h1, h2⟩ := hy
      subst e
      have h3 : x[i]? = some c' := by simpa using h1
      rw [hx] at h3
      cases h3
      subst h2
      exact ⟨.refl, s, .str [c]⟩
  · show (⟨x.toArray⟩ : PySem.Str).cps.size ≤ (x.map fun c => D.str [c]).length
    simp
theorem ei_ex {tg : Expr} (h : Ex X W e f) : Ei X W tg e (iEx f) := by
  refine ⟨fun m τ st σ H R hL hS hP pins s I => ?_⟩
  unfold iEx at hP
  have hrun := h.run m τ st σ H
  cases hq : f τ st with
  | bad =>
    rw [hq] at hP
    exact hP.elim
  | exc x s1 =>
    rw [hq] at hP
    refine (pi_list (tg := tg) peW).run pins s σ H R I (hrun _ hL hS ?_)
    rw [hq]
    exact hP
  | ok d s1 =>
    rw [hq] at hP
    have hP : Pe X.K (fun c d H' => W c d σ H') (JOk X.K) m H (match dSq s1 d with
      | some q => .ok q s1
      | none => .bad) R := hP
    cases hd : dSq s1 d with
    | none =>
      rw [hd] at hP
      exact hP.elim
    | some q =>
      rw [hd] at hP
      cases d with
      | tup xs =>
        cases hd
        refine (pi_tup (tg := tg) peW).run pins s σ H R I (hrun _ hL hS ?_)
        rw [hq]
        intro m1 H1 v e1 hS1 r1
        cases r1 with
        | tup sq rs => exact ⟨_, rfl, ⟨_, sq⟩, hP m1 H1 _ e1 hS1 (j_tup sq rs)⟩
      | rol xs =>
        cases hd
        refine (pi_list (tg := tg) peW).run pins s σ H R I (hrun _ hL hS ?_)
        rw [hq]
        intro m1 H1 v e1 hS1 r1
        cases r1 with
        | rol sq rs => exact ⟨_, rfl, ⟨_, sq.sq⟩, hP m1 H1 _ e1 hS1 (j_list fun m H st e s _ => ⟨_, (e.fzl _ _ sq).sq, rs.mono e⟩)⟩
      | ref n =>
        have hd : (lstAt s1 n).map (Sq.cell n) = some q := hd
        simp only [Option.map_eq_some_iff] at hd
        obtain ⟨xs, hx, rfl⟩ := hd
        refine (pi_list (tg := tg) peW).run pins s σ H R I (hrun _ hL hS ?_)
        rw [hq]
        intro m1 H1 v e1 hS1 r1
        cases r1 with
        | ref z =>
          obtain ⟨vs, h1, h2⟩ := hS1.list hx z
          refine ⟨_, rfl, ⟨vs, SqL.of h1⟩, hP m1 H1 _ e1 hS1 (j_list fun m H st e s hc => ?_)⟩
          obtain ⟨us, h3, h4⟩ := s.list (of_decide_eq_true hc) (e.pre _ _ z)
          exact ⟨us, SqL.of h3, h4⟩
      | str x =>
        cases hd
        refine (pi_str (tg := tg) peW).run pins s σ H R I (hrun _ hL hS ?_)
        rw [hq]
        intro m1 H1 v e1 hS1 r1
        cases r1
        exact ⟨_, rfl, hP m1 H1 _ e1 hS1 (j_str x)⟩
      | _ => cases hd
def iEl (f : EM (List D)) : EM Sq := fun τ st => (f τ st).bind fun xs s1 => .ok (.fix xs) s1
theorem ei_el {tg : Expr} {fl : EM (List D)} (h : El X W e fl) : Ei X W tg e (iEl fl) := by
  refine ⟨fun m τ st σ H R hL hS hP pins s I => (pi_list (tg := tg) peW).run pins s σ H R I (h.run m τ st σ H _ hL hS ?_)⟩
  unfold iEl at hP
  cases hq : fl τ st with
  | ok ds s1 =>
    rw [hq] at hP
    intro m1 H1 v e1 hS1 ⟨a, vs, e, ha, na, hn, rs⟩
    exact ⟨a, e, ⟨vs, SqL.of ha⟩, hP m1 H1 _ e1 hS1 (j_list fun m H st e s _ => ⟨vs, SqL.of (e.frm _ _ na ha), rs.mono e⟩)⟩
  | exc x st' =>
    rw [hq] at hP
    exact hP
  | bad =>
    rw [hq] at hP
    exact hP.elim
/-- lo, lo + 1, .. below hi -/
def rng (lo hi : Int) : List D := (List.range (hi - lo).toNat).map fun k => D.int (lo + (k : Nat))
theorem j_rng {K : PySem.W.Frag} {m0 : List Addr} {H0 : Hp} (lo hi : Int) : JOk K m0 H0 (.fix (rng lo hi)) (Itr lo (hi - lo).toNat) := fun m H st e s _ => by
  refine ⟨fun i d hd => ?_, ?_⟩
  · have hd : (rng lo hi)[i]? = some d := hd
    unfold rng at hd
    rw [List.getElem?_map] at hd
    cases hx : (List.range (hi - lo).toNat)[i]? with
    | none =>
      rw [hx] at hd
      cases hd
    | some k =>
      rw [hx] at hd
      cases hd
      obtain ⟨h1, h2⟩ := List.getElem?_eq_some_iff.mp hx
      rw [List.length_range] at h1
      rw [List.getElem_range] at h2
      subst h2
      refine ⟨h1, fun y H' hy => ?_⟩
      obtain ⟨rfl, rfl⟩ := hy
      exact ⟨.refl, s, .int _⟩
  · show (hi - lo).toNat ≤ (rng lo hi).length
    simp [rng]
def okRng (j : Int) : Bool := decide (j.natAbs < 4611686018427387904)
theorem okRng_ok {j : Int} (h : okRng j = true) : -(2 ^ 62) ≤ j ∧ j < 2 ^ 62 := by
  have q : j.natAbs < 4611686018427387904 := of_decide_eq_true h
  have q' : -4611686018427387904 ≤ j ∧ j < 4611686018427387904 := by omega
  exact q'
def iRg1 (f : EM D) : EM Sq := fun τ st => (f τ st).bind fun d s1 => match d with
  | .int j => if okRng j then .ok (.fix (rng 0 j)) s1 else .bad
  | _ => .bad
def iRg2 (fa fb : EM D) : EM Sq := fun τ st => (fa τ st).bind fun d s1 => (fb τ s1).bind fun e s2 => match d, e with
  | .int i, .int j => if okRng i && okRng j then .ok (.fix (rng i j)) s2 else .bad
  | _, _ => .bad
theorem ei_range1 {tg : Expr} (hg : Gl X "range") (hm : X.mg "range" = none) (ha : Ex X W a fa) (hs : starEach [a] X.env = [(false, eval a X.env)] := by rfl) : Ei X W tg (.Call (.Name "range" p) [a] [] pos) (iRg1 fa) := by
  refine ⟨fun m τ st σ H R hL hS hP pins s I => (pi_range1 (tg := tg) hg hm (pa_cons peW pa_nil (by rw [hs]; rfl)) hs).run pins s σ H R I (ha.run m τ st σ H _ hL hS (hP.bind fun d s1 m1 H1 v e1 hS1 r1 hP1 => ?_))⟩
  split at hP1
  · split at hP1
    · rename_i j hj
      cases r1
      obtain ⟨q1, q2⟩ := okRng_ok hj
      refine ⟨j, rfl, q1, q2, hP1.now hS1 ?_⟩
      have z := j_rng (K := X.K) (m0 := m1) (H0 := H1) 0 j
      rw [Int.sub_zero] at z
      exact z
    · exact hP1.elim
  · exact hP1.elim
theorem ei_range2 {tg : Expr} (hg : Gl X "range") (hm : X.mg "range" = none) (ha : Ex X W a fa) (hb : Ex X W b fb) (hs : starEach [a, b] X.env = [(false, eval a X.env), (false, eval b X.env)] := by rfl) (hs2 : starEach [b] X.env = [(false, eval b X.env)] := by rfl) :
    Ei X W tg (.Call (.Name "range" p) [a, b] [] pos) (iRg2 fa fb) := by
  refine ⟨fun m τ st σ H R hL hS hP pins s I => (pi_range2 (tg := tg) hg hm (pa_cons peW (pa_cons peW pa_nil (by rw [hs2]; rfl)) (by rw [hs, hs2])) hs hs2).run pins s σ H R I ?_⟩
  refine two ha hb hL hS hP fun m2 st2 H2 dx dy x y e2 hS2 r1 r2 hP2 => ?_
  split at hP2
  · split at hP2
    · rename_i i j hij
      cases r1
      cases r2
      rw [Bool.and_eq_true] at hij
      obtain ⟨q1, q2⟩ := okRng_ok hij.1
      obtain ⟨q3, q4⟩ := okRng_ok hij.2
      exact ⟨i, j, rfl, ⟨q1, q2, q3, q4⟩, hP2.now hS2 (j_rng i j)⟩
    · exact hP2.elim
  · exact hP2.elim

/-! ### comprehensions -/
def wipeD (τ : Sl) : List Nat → Sl
  | [] => τ
  | v :: vs => (wipeD τ vs).set v none
theorem wipeD_some {τ : Sl} {i : Nat} {d : D} : ∀ {vs : List Nat}, (wipeD τ vs)[i]? = some (some d) → τ[i]? = some (some d) ∧ i ∉ vs
  | [], h => ⟨h, by simp⟩
  | v :: vs, h => by
    unfold wipeD at h
    by_cases hi : v = i
    · subst hi
      by_cases hv : v < (wipeD τ vs).length
      · rw [List.getElem?_set_self hv] at h
        cases h
      · rw [List.getElem?_eq_none (by simpa using hv)] at h
        cases h
    · rw [List.getElem?_set_ne hi] at h
      obtain ⟨h1, h2⟩ := wipeD_some h
      exact ⟨h1, by simp only [List.mem_cons, not_or]; exact ⟨fun e => hi e.symm, h2⟩⟩
theorem wipeD_len (τ : Sl) : ∀ vs : List Nat, (wipeD τ vs).length = τ.length
  | [] => rfl
  | v :: vs => by unfold wipeD; rw [List.length_set, wipeD_len τ vs]
theorem SL.wipe {K : PySem.W.Frag} {m : List Addr} {H : Hp} {τ : Sl} {σ : L2.St} (s : SL K m H τ σ) (vs : List Nat) : SL K m H (wipeD τ vs) (L2.wipe σ vs) :=
  ⟨by rw [wipeD_len, wipe_length, s.len], fun i d h => by
    obtain ⟨h1, h2⟩ := wipeD_some h
    obtain ⟨v, h3, h4⟩ := s.get i d h1
    exact ⟨v, by rw [wipe_out h2]; exact h3, h4⟩⟩
theorem wipe_same {σ σ' : L2.St} {vs : List Nat} (hl : σ'.length = σ.length) (h : ∀ j, j ∉ vs → σ'[j]? = σ[j]?) : L2.wipe σ' vs = L2.wipe σ vs := by
  apply List.ext_getElem?
  intro i
  by_cases hi : i ∈ vs
  · have z : ∀ (τ : L2.St) (us : List Nat), i ∈ us → (L2.wipe τ us)[i]? = if i < τ.length then some none else none := by
      intro τ us
      induction us with
      | nil => intro q; cases q
      | cons u us ih =>
        intro q
        unfold L2.wipe
        by_cases hu : u = i
        · subst hu
          split
          · rename_i hlt
            rw [List.getElem?_set_self (by rw [wipe_length]; exact hlt)]
          · rename_i hlt
            exact List.getElem?_eq_none (by rw [List.length_set, wipe_length]; omega)
        · rw [List.getElem?_set_ne hu]
          exact ih ((List.mem_cons.mp q).resolve_left fun e => hu e.symm)
    rw [z σ' vs hi, z σ vs hi, hl]
  · rw [wipe_out hi, wipe_out hi, h i hi]
/-- no exception leaves here -/
def _root_.HM.ER.bindN {α β : Type} (r : ER α) (k : α → Store → ER β) : ER β := match r with
  | .ok a st => k a st
  | _ => .bad
@[simp] theorem _root_.HM.ER.bindN_ok {α β : Type} (a : α) (st : Store) (k : α → Store → ER β) : (ER.ok a st).bindN k = k a st := rfl
theorem Pe.bindN {α β γ δ : Type} {K : PySem.W.Frag} {E E' : XK} {R : List Addr → Hp → α → β → Prop} {S : List Addr → Hp → γ → δ → Prop} {m : List Addr} {H : Hp} {r : ER α} {Q : β → Hp → Prop} {k : α → Store → ER γ} {Q' : δ → Hp → Prop} (h : Pe K E S m H (r.bindN k) Q')
    (hk : ∀ a st m' H' b, Ext K m H m' H' → SS K m' st H' → R m' H' a b → Pe K E S m' H' (k a st) Q' → Q b H') : Pe K E' R m H r Q := by
  cases r with
  | ok a st => exact fun m' H' b e s q => hk a st m' H' b e s q (Pe.up h e)
  | exc x st => exact h.elim
  | bad => exact h
/-- .. read from an earlier heap -/
theorem Pe.from {α β γ δ : Type} {K : PySem.W.Frag} {E E' : XK} {R : List Addr → Hp → α → β → Prop} {S : List Addr → Hp → γ → δ → Prop} {m m1 : List Addr} {H H1 : Hp} {r : ER α} {Q : β → Hp → Prop} {k : α → Store → ER γ} {Q' : δ → Hp → Prop} (h : Pe K E S m1 H1 (r.bindN k) Q')
    (hk : ∀ a st m' H' b, Ext K m H m' H' → SS K m' st H' → R m' H' a b → Pe K E S m1 H1 (k a st) Q' → Q b H') : Pe K E' R m H r Q := by
  cases r with
  | ok a st => exact fun m' H' b e s q => hk a st m' H' b e s q h
  | exc x st => exact h.elim
  | bad => exact h
/-- the turns of a comprehension -/
def compL (q : Sq) (set : D → Sl → Option Sl) (ft : EM Bool) (fe : EM D) (τ : Sl) : List D → List D → Store → ER (List D)
  | [], acc => fun st => if q.chk st then .ok acc st else .bad
  | d :: ds, acc => fun st => if q.chk st then match set d τ with
    | some τ1 => (ft τ1 st).bindN fun b s1 => if b then (fe τ1 s1).bindN fun x s2 => compL q set ft fe τ ds (acc ++ [x]) s2 else compL q set ft fe τ ds acc s1
    | none => .bad
  else .bad
def lComp (own : List Nat) (fi : EM Sq) (set : D → Sl → Option Sl) (ft : EM Bool) (fe : EM D) : EM (List D) := fun τ st => (fi τ st).bind fun q s1 =>
  if q.items.length ≤ 16777216 then compL q set ft fe (wipeD τ own) q.items [] s1 else .bad
/-- tests of a comprehension -/
def wTs (X : Cx) (ifs : List Expr) : TT := fun σ H Q => ∀ (pins : List (Addr × Obj)) (s : Shared), Inv X pins σ H s → wpAny (model X.prog X.w) X.A (forIn ifs true fun c r => if r = true then do let ok ← isTrue c X.env (eval c X.env); pure (ForInStep.yield ok) else pure (ForInStep.yield r)) (TP X pins σ Q) X.xe s
theorem ptsW {X : Cx} {ifs : List Expr} : PTs X ifs (wTs X ifs) := ⟨fun pins s σ H Q I h => h pins s I⟩
structure Ets (X : Cx) (W : WX) (ifs : List Expr) (f : EM Bool) : Prop where
  run : ∀ (m : List Addr) (τ : Sl) (st : Store) (σ : L2.St) (H : Hp) (Q : Bool → Hp → Prop), SL X.K m H τ σ → SS X.K m st H → Pe X.K (fun c d H' => W c d σ H') RB m H (f τ st) Q → wTs X ifs σ H Q
def tYes : EM Bool := fun _ st => .ok true st
theorem ets_nil : Ets X W [] tYes := ⟨fun m τ st σ H Q hL hS hP pins s I => pts_nil.run pins s σ H Q I (hP.now hS rfl)⟩
theorem ets_one (h : Et X W e g) : Ets X W [e] g := ⟨fun m τ st σ H Q hL hS hP pins s I => (pts_one ptW).run pins s σ H Q I (h.run m τ st σ H Q hL hS hP)⟩
abbrev W0 : WX := fun _ _ _ _ => False
/-- the context of a block, whatever it starts at -/
abbrev Blk (X : Cx) (scope : Scope) (P : Cx → Prop) : Prop := ∀ (s : Shared) (H : Hp) (C : Addr) (cl : List (Str × Addr)) (fp : List Addr), P (X.blk s H scope (compEnvC scope cl C X.env) fp)
abbrev BEx (X : Cx) (scope : Scope) (elt : Expr) (fe : EM D) : Prop := ∀ (s : Shared) (H : Hp) (C : Addr) (cl : List (Str × Addr)) (fp : List Addr), Ex (X.blk s H scope (compEnvC scope cl C X.env) fp) W0 elt fe
abbrev BEt (X : Cx) (scope : Scope) (ifs : List Expr) (ft : EM Bool) : Prop := ∀ (s : Shared) (H : Hp) (C : Addr) (cl : List (Str × Addr)) (fp : List Addr), Ets (X.blk s H scope (compEnvC scope cl C X.env) fp) W0 ifs ft
abbrev BEg (X : Cx) (scope : Scope) (tg : Expr) (ix : List Nat) (set : D → Sl → Option Sl) : Prop := ∀ (s : Shared) (H : Hp) (C : Addr) (cl : List (Str × Addr)) (fp : List Addr), Eg (X.blk s H scope (compEnvC scope cl C X.env) fp) tg ix set
def gAll (X : Cx) (scope : Scope) (tg : Expr) : TG := fun v σ H Q => Blk X scope fun Y => wG Y tg v σ H Q
def tAll (X : Cx) (scope : Scope) (ifs : List Expr) : TT := fun σ H Q => Blk X scope fun Y => wTs Y ifs σ H Q
def eAll (X : Cx) (scope : Scope) (e : Expr) : TE := fun σ H Q => Blk X scope fun Y => wE Y e σ H Q
/-- one turn after another -/
theorem comp_read {tg elt : Expr} {ifs : List Expr} {scope : Scope} {ix own : List Nat} {set : D → Sl → Option Sl} {ft : EM Bool} {fe : EM D} (hown : ∀ i ∈ ix, i ∈ own) (hg : BEg X scope tg ix set) (ht : BEt X scope ifs ft) (he : BEx X scope elt fe)
    {m0 : List Addr} {τ : Sl} {σ : L2.St} {H0 H1 : Hp} {st0 : Store} {m1 : List Addr} {q : Sq} {J : It} {Q : VK} {E : XK} (e1 : Ext X.K m0 H0 m1 H1) (hL : SL X.K m1 H1 τ σ) (hS : SS X.K m1 st0 H1) (hJ : JOk X.K m1 H1 q J) (hz : q.items.length ≤ 16777216)
    (hP : Pe X.K E (fun m' H' ds v => ∃ a vs, v = .ref a ∧ H' a = some (.lst vs) ∧ a ∉ m' ∧ H0 a = none ∧ RDs X.K m' H' ds vs) m1 H1 (compL q set ft fe (wipeD τ own) q.items [] st0) Q) (D' : Addr) (hD : H1 D' = none) :
    ∃ W : Nat → Nat → Hp → Prop, (∃ m, W 0 m (upd H1 D' (.lst []))) ∧ ∀ i m H, W i m H →
      (J.stop i H ∧ Q (.ref D') H) ∨ (J.go i H ∧ ∃ Nx : Hp → Prop, (∀ H', Nx H' → ∃ m', m' < m ∧ W (i + 1) m' H') ∧ ∀ x H', J.yld i H x H' → gAll X scope tg x (L2.wipe σ own) H' fun σ2 H2 => L2.wipe σ2 own = L2.wipe σ own ∧ tAll X scope ifs σ2 H2 fun b H3 =>
        if b = true then eAll X scope elt σ2 H3 fun y H4 => ∃ acc, H4 D' = some (.lst acc) ∧ acc.length < sizeLine ∧ Nx (upd H4 D' (.lst (acc ++ [y]))) else Nx H3) := by
  have hD0 : H0 D' = none := e1.back hS hD
  have hn : D' ∉ m1 := hS.notin hD
  obtain ⟨Z, hZ⟩ : ∃ Z : Nat → Hp → Prop, Z = fun i H => i ≤ q.items.length ∧ ∃ (m : List Addr) (st : Store) (acc : List D) (vs : List V), Ext X.K m1 H1 m H ∧ D' ∉ m ∧ SS X.K m st H ∧ H D' = some (.lst vs) ∧ RDs X.K m H acc vs ∧ acc.length ≤ i ∧
    Pe X.K E (fun m' H' ds v => ∃ a vs, v = .ref a ∧ H' a = some (.lst vs) ∧ a ∉ m' ∧ H0 a = none ∧ RDs X.K m' H' ds vs) m1 H1 (compL q set ft fe (wipeD τ own) (q.items.drop i) acc st) Q := ⟨_, rfl⟩
  refine ⟨fun i k H => k = q.items.length - i ∧ Z i H, ⟨_, rfl, ?_⟩, ?_⟩
  · rw [hZ]
    refine ⟨Nat.zero_le _, m1, st0, [], [], Ext.fresh hD, hn, hS.fresh hD, upd_same, .nil, Nat.le_refl _, ?_⟩
    rw [List.drop_zero]
    exact hP
  · rintro i k H ⟨rfl, hZi⟩
    rw [hZ] at hZi
    obtain ⟨hi, m, st, acc, vs, e, hm, s, hd, rs, hacc, hP⟩ := hZi
    by_cases hlt : i < q.items.length
    · rw [List.drop_eq_getElem_cons hlt] at hP
      unfold compL at hP
      split at hP
      · rename_i hc
        obtain ⟨hgo, _⟩ := hJ m H st e s hc
        obtain ⟨go, yl⟩ := hgo i q.items[i] (by simp [hlt])
        split at hP
        · rename_i τ1 hset
          refine .inr ⟨go, Z (i + 1), fun H' h => ⟨q.items.length - (i + 1), by omega, rfl, h⟩, fun x H' hy s0 H0' C cl fp => ?_⟩
          obtain ⟨e2, s2, r2⟩ := yl x H' hy
          refine (hg s0 H0' C cl fp).run m _ τ1 st _ H' _ x _ ((hL.mono (e.trans e2)).wipe own) s2 r2 hset fun σ2 l1 l2 hL2 => ?_
          have l3 : σ2.length = σ.length := by rw [l1, wipe_length]
          have l4 : ∀ j, j ∉ own → σ2[j]? = σ[j]? := fun j hj => by rw [l2 j fun z => hj (hown j z), wipe_out hj]
          refine ⟨wipe_same l3 l4, fun s0 H0' C cl fp => ?_⟩
          have keep : ∀ {m' : List Addr} {H' : Hp}, Ext X.K m H m' H' → H' D' = some (.lst vs) ∧ D' ∉ m' := fun {m' H'} e => by
            refine ⟨e.frm D' _ hm hd, fun z => ?_⟩
            have q := e.new D' z hm
            rw [hd] at q
            cases q
          refine (ht s0 H0' C cl fp).run m τ1 st σ2 H' _ hL2 s2 (Pe.from (m := m) (H := H') hP fun b s3 m3 H3 b' e3 hS3 r3 hP3 => ?_)
          subst r3
          cases b with
          | false =>
            refine iteF ?_
            rw [hZ]
            obtain ⟨k1, k2⟩ := keep (e2.trans e3)
            exact ⟨by omega, m3, s3, acc, vs, e.trans (e2.trans e3), k2, hS3, k1, rs.mono (e2.trans e3), by omega, hP3⟩
          | true =>
            refine iteT fun s0 H0' C cl fp => (he s0 H0' C cl fp).run m3 τ1 s3 σ2 H3 _ (hL2.mono e3) hS3 (Pe.from (m := m3) (H := H3) (k := fun x s2 => compL q set ft fe (wipeD τ own) (List.drop (i + 1) q.items) (acc ++ [x]) s2) hP3 fun y s4 m4 H4 y' e4 hS4 r4 hP4 => ?_)
            obtain ⟨k1, k2⟩ := keep ((e2.trans e3).trans e4)
            have rs4 := rs.mono ((e2.trans e3).trans e4)
            have hz' : vs.length < sizeLine := by
              rw [← rs.len, PySem.sizeLine_eq]
              omega
            have e5 : Ext X.K m1 H1 m4 H4 := e.trans ((e2.trans e3).trans e4)
            have e6 : Ext X.K m1 H1 m4 (upd H4 D' (.lst (vs ++ [y']))) := {
              pre := e5.pre
              tup := fun a us h => (Kp.write (K := X.K) (m := m4) k1).tup a us (e5.tup a us h)
              fzl := fun a us h => (Kp.write (K := X.K) (m := m4) k1).fzl a us (e5.fzl a us h)
              frm := fun a o q h => by
                rw [upd_ne (ne_of_none h hD)]
                exact e5.frm a o q h
              new := e5.new }
            refine ⟨vs, k1, hz', ?_⟩
            rw [hZ]
            refine ⟨by omega, m4, s4, acc ++ [y], vs ++ [y'], e6, k2, hS4.other k1 k2, upd_same, (rs4.append (.cons r4 .nil)).kp (Kp.write k1), by rw [List.length_append, List.length_singleton]; omega, ?_⟩
            exact hP4
        · exact hP.elim
      · exact hP.elim
    · have e0 : i = q.items.length := by omega
      subst e0
      rw [List.drop_length] at hP
      unfold compL at hP
      split at hP
      · rename_i hc
        obtain ⟨_, stop⟩ := hJ m H st e s hc
        exact .inl ⟨stop, hP m H (.ref D') e s ⟨D', vs, rfl, hd, hm, hD0, rs⟩⟩
      · exact hP.elim
end
end HM

/-! HM, part 6: list comprehensions, statements. -/
namespace HM
open PySem PySem.Spec PyProof.Rows L2
section
variable {X : Cx} {W : WX} {e a b c : Expr} {es rest : List Expr} {pos p : Pos} {f fa fb fc : EM D} {fs : EM (List D)} {g ga gb : EM Bool}
theorem comp_post {tg elt iter : Expr} {ifs : List Expr} {scope : Scope} {own : List (Str × Nat)} {ix : List Nat} {set : D → Sl → Option Sl} {ft : EM Bool} {fe : EM D} {fi : EM Sq} (hi : Ei X W tg iter fi) (hown : ∀ i ∈ ix, i ∈ own.map (·.2))
    (hg : BEg X scope tg ix set) (ht : BEt X scope ifs ft) (he : BEx X scope elt fe) {m : List Addr} {τ : Sl} {st : Store} {σ : L2.St} {H : Hp} {Q : VK} (hL : SL X.K m H τ σ) (hS : SS X.K m st H)
    (hP : Pe X.K (fun c d H' => W c d σ H') (fun m' H' ds v => ∃ a vs, v = .ref a ∧ H' a = some (.lst vs) ∧ a ∉ m' ∧ H a = none ∧ RDs X.K m' H' ds vs) m H (lComp (own.map (·.2)) fi set ft fe τ st) Q) :
    tLc (wI X tg iter) (gAll X scope tg) (tAll X scope ifs) (eAll X scope elt) (own.map (·.2)) σ H Q := by
  unfold lComp at hP
  refine hi.run m τ st σ H _ hL hS ?_
  cases hq : fi τ st with
  | bad =>
    rw [hq] at hP
    exact hP.elim
  | exc x s1 =>
    rw [hq] at hP
    exact hP
  | ok q s1 =>
    rw [hq] at hP
    intro m1 H1 J e1 hS1 hJ D' hD
    have hP : Pe X.K (fun c d H' => W c d σ H') (fun m' H' ds v => ∃ a vs, v = .ref a ∧ H' a = some (.lst vs) ∧ a ∉ m' ∧ H a = none ∧ RDs X.K m' H' ds vs) m H (if q.items.length ≤ 16777216 then compL q set ft fe (wipeD τ (own.map (·.2))) q.items [] s1 else .bad) Q := hP
    split at hP
    · rename_i hz
      exact comp_read (E := fun c d H' => W c d σ H') hown hg ht he e1 (hL.mono e1) hS1 hJ hz (hP.up e1) D' hD
    · exact hP.elim
theorem el_comp {tg elt iter : Expr} {ifs : List Expr} {scope : Scope} {own : List (Str × Nat)} {ix : List Nat} {set : D → Sl → Option Sl} {ft : EM Bool} {fe : EM D} {fi : EM Sq} (hc : X.calm = true) (hN : X.N.Nodup) (hi : Ei X W tg iter fi) (ok : BlkOk X.N X.env.scope scope own)
    (hg : BEg X scope tg ix set) (ht : BEt X scope ifs ft) (he : BEx X scope elt fe) (hown : ∀ i ∈ ix, i ∈ own.map (·.2) := by decide) (hs : ∀ x, foldedSetIterable iter X.env x = pure x := by intro _; rfl) :
    El X W (.ListComp elt [⟨tg, iter, ifs, 0⟩] scope pos) (lComp (own.map (·.2)) fi set ft fe) := by
  refine ⟨fun m τ st σ H Q hL hS hP pins s I => ?_⟩
  refine (pe_lc (g := gAll X scope tg) (tt := tAll X scope ifs) (te := eAll X scope elt) hc hN piW ok ?_ ?_ ?_ hs).run pins s σ H Q I (comp_post hi hown hg ht he hL hS hP)
  · exact fun s H C cl fp => ⟨fun pins s' σ H' v u Q I r h => h s H C cl fp pins s' u I r⟩
  · exact fun s H C cl fp => ⟨fun pins s' σ H' Q I h => h s H C cl fp pins s' I⟩
  · exact fun s H C cl fp => ⟨fun pins s' σ H' Q I h => h s H C cl fp pins s' I⟩
end

/-! ### statements -/
/-- behind a statement -/
def Ps (K : PySem.W.Frag) (W : WX) (m : List Addr) (H : Hp) (r : SR) (D : Ends) : Prop := match r with
  | .nx τ st => ∀ m' H' σ, Ext K m H m' H' → SS K m' st H' → SL K m' H' τ σ → D.nx σ H'
  | .bk τ st => ∀ m' H' σ, Ext K m H m' H' → SS K m' st H' → SL K m' H' τ σ → D.bk σ H'
  | .ct τ st => ∀ m' H' σ, Ext K m H m' H' → SS K m' st H' → SL K m' H' τ σ → D.ct σ H'
  | .rt d st => ∀ m' H' v, Ext K m H m' H' → SS K m' st H' → RD K m' H' d v → D.rt v H'
  | .exc x τ st => ∀ m' H' σ c d, Ext K m H m' H' → SS K m' st H' → SL K m' H' τ σ → XR K m' H' x c d → W c d σ H'
  | .bad => False
theorem Ps.up {K : PySem.W.Frag} {W : WX} {m m1 : List Addr} {H H1 : Hp} {r : SR} {D : Ends} (h : Ps K W m H r D) (e : Ext K m H m1 H1) : Ps K W m1 H1 r D := by
  cases r with
  | nx τ st => exact fun m' H' σ e' => h m' H' σ (e.trans e')
  | bk τ st => exact fun m' H' σ e' => h m' H' σ (e.trans e')
  | ct τ st => exact fun m' H' σ e' => h m' H' σ (e.trans e')
  | rt d st => exact fun m' H' σ e' => h m' H' σ (e.trans e')
  | exc x τ st => exact fun m' H' σ c d e' => h m' H' σ c d (e.trans e')
  | bad => exact h
def wS (X : Cx) (st : Stmt) : TS := fun D σ H => ∀ (pins : List (Addr × Obj)) (s : Shared), Inv X pins σ H s → wpAny (model X.prog X.w) X.A (exec st X.env) (SP X pins D) X.xe s
def wSs (X : Cx) (st : List Stmt) : TS := fun D σ H => ∀ (pins : List (Addr × Obj)) (s : Shared), Inv X pins σ H s → wpAny (model X.prog X.w) X.A (execs st X.env) (SP X pins D) X.xe s
theorem psW {X : Cx} {st : Stmt} : PS X st (wS X st) := ⟨fun pins s σ H D I h => h pins s I⟩
theorem pssW {X : Cx} {st : List Stmt} : PSs X st (wSs X st) := ⟨fun pins s σ H D I h => h pins s I⟩
structure Sx (X : Cx) (W : WX) (st : Stmt) (f : SM) : Prop where
  run : ∀ (m : List Addr) (τ : Sl) (s : Store) (σ : L2.St) (H : Hp) (D : Ends), SL X.K m H τ σ → SS X.K m s H → Ps X.K W m H (f τ s) D → wS X st D σ H
structure Sxs (X : Cx) (W : WX) (st : List Stmt) (f : SM) : Prop where
  run : ∀ (m : List Addr) (τ : Sl) (s : Store) (σ : L2.St) (H : Hp) (D : Ends), SL X.K m H τ σ → SS X.K m s H → Ps X.K W m H (f τ s) D → wSs X st D σ H
/-- an expression, then the rest of a statement -/
def bindE {α : Type} (r : ER α) (τ : Sl) (k : α → Store → SR) : SR := match r with
  | .ok a st => k a st
  | .exc x st => .exc x τ st
  | .bad => .bad
@[simp] theorem bindE_ok {α : Type} (a : α) (st : Store) (τ : Sl) (k : α → Store → SR) : bindE (.ok a st) τ k = k a st := rfl
@[simp] theorem bindE_exc {α : Type} (x : Xc) (st : Store) (τ : Sl) (k : α → Store → SR) : bindE (.exc x st : ER α) τ k = .exc x τ st := rfl
@[simp] theorem bindE_bad {α : Type} (τ : Sl) (k : α → Store → SR) : bindE (.bad : ER α) τ k = .bad := rfl
theorem Ps.bind {α β : Type} {K : PySem.W.Frag} {W : WX} {R : List Addr → Hp → α → β → Prop} {m : List Addr} {H : Hp} {r : ER α} {τ : Sl} {σ : L2.St} {k : α → Store → SR} {D : Ends} {Q : β → Hp → Prop} (hL : SL K m H τ σ) (h : Ps K W m H (bindE r τ k) D)
    (hk : ∀ a st m' H' b, Ext K m H m' H' → SS K m' st H' → R m' H' a b → Ps K W m' H' (k a st) D → Q b H') : Pe K (fun c d H' => W c d σ H') R m H r Q := by
  cases r with
  | ok a st => exact fun m' H' b e s q => hk a st m' H' b e s q (Ps.up h e)
  | exc x st => exact fun m' H' c d e s q => h m' H' σ c d e s (hL.mono e) q
  | bad => exact h
def sSeq (f g : SM) : SM := fun τ st => match f τ st with
  | .nx τ1 s1 => g τ1 s1
  | r => r
def sNil : SM := fun τ st => .nx τ st
section
variable {X : Cx} {W : WX} {e a b c : Expr} {es rest : List Expr} {pos p : Pos} {fa fb fc fe : EM D} {fs : EM (List D)} {g ga gb : EM Bool} {s1 : Stmt} {ss body : List Stmt} {f h k : SM}
theorem sx_nil : Sxs X W [] sNil := ⟨fun m τ s σ H D hL hS hP pins sh I => pss_nil.run pins sh σ H D I (hP m H σ .refl hS hL)⟩
theorem sx_cons (h1 : Sx X W s1 f) (h2 : Sxs X W ss h) : Sxs X W (s1 :: ss) (sSeq f h) := by
  refine ⟨fun m τ s σ H D hL hS hP pins sh I => (pss_cons psW pssW).run pins sh σ H D I (h1.run m τ s σ H _ hL hS ?_)⟩
  unfold sSeq at hP
  cases hq : f τ s with
  | nx τ1 s1 =>
    rw [hq] at hP
    exact fun m1 H1 σ1 e1 hS1 hL1 => h2.run m1 τ1 s1 σ1 H1 D hL1 hS1 (hP.up e1)
  | bk τ1 s1 =>
    rw [hq] at hP
    exact hP
  | ct τ1 s1 =>
    rw [hq] at hP
    exact hP
  | rt d s1 =>
    rw [hq] at hP
    exact hP
  | exc x τ1 s1 =>
    rw [hq] at hP
    exact hP
  | bad =>
    rw [hq] at hP
    exact hP
theorem sx_one (h1 : Sx X W s1 f) : Sxs X W [s1] f := by
  refine ⟨fun m τ s σ H D hL hS hP pins sh I => (pss_one psW).run pins sh σ H D I (h1.run m τ s σ H _ hL hS hP)⟩
theorem sx_pass : Sx X W (.Pass pos) sNil := ⟨fun m τ s σ H D hL hS hP pins sh I => ps_pass.run pins sh σ H D I (hP m H σ .refl hS hL)⟩
def sBrk : SM := fun τ st => .bk τ st
def sCnt : SM := fun τ st => .ct τ st
theorem sx_break : Sx X W (.Break pos) sBrk := ⟨fun m τ s σ H D hL hS hP pins sh I => ps_break.run pins sh σ H D I (hP m H σ .refl hS hL)⟩
theorem sx_continue : Sx X W (.Continue pos) sCnt := ⟨fun m τ s σ H D hL hS hP pins sh I => ps_continue.run pins sh σ H D I (hP m H σ .refl hS hL)⟩
def sRet (fe : EM D) : SM := fun τ st => bindE (fe τ st) τ fun d s1 => .rt d s1
theorem sx_ret (he : Ex X W e fe) : Sx X W (.Return (some e) pos) (sRet fe) := by
  refine ⟨fun m τ s σ H D hL hS hP pins sh I => (ps_ret peW).run pins sh σ H D I ?_⟩
  exact he.run m τ s σ H _ hL hS (hP.bind hL fun d s1 m1 H1 v e1 hS1 r1 hP1 => hP1 m1 H1 v .refl hS1 r1)
def sRetN : SM := fun _ st => .rt .non st
theorem sx_retN : Sx X W (.Return none pos) sRetN := ⟨fun m τ s σ H D hL hS hP pins sh I => ps_retN.run pins sh σ H D I (hP m H .non .refl hS .non)⟩
def sExpr (fe : EM D) : SM := fun τ st => bindE (fe τ st) τ fun _ s1 => .nx τ s1
theorem sx_expr (he : Ex X W e fe) (hs : swapsWith e none pos.line X.env = pure false := by rfl) : Sx X W (.Expr e pos) (sExpr fe) := by
  refine ⟨fun m τ s σ H D hL hS hP pins sh I => (ps_expr peW hs).run pins sh σ H D I ?_⟩
  exact he.run m τ s σ H _ hL hS (hP.bind hL fun d s1 m1 H1 v e1 hS1 r1 hP1 => hP1 m1 H1 σ .refl hS1 (hL.mono e1))
def sIf (g : EM Bool) (f h : SM) : SM := fun τ st => bindE (g τ st) τ fun b s1 => if b then f τ s1 else h τ s1
theorem sx_if {sa sb : List Stmt} (hc : Et X W c g) (ha : Sxs X W sa f) (hb : Sxs X W sb h) : Sx X W (.If c sa sb pos) (sIf g f h) := by
  refine ⟨fun m τ s σ H D hL hS hP pins sh I => (ps_if ptW pssW pssW).run pins sh σ H D I ?_⟩
  refine hc.run m τ s σ H _ hL hS (hP.bind hL fun d s1 m1 H1 v e1 hS1 r1 hP1 => ?_)
  subst r1
  cases d with
  | true => exact iteT (ha.run m1 τ s1 σ H1 D (hL.mono e1) hS1 hP1)
  | false => exact iteF (hb.run m1 τ s1 σ H1 D (hL.mono e1) hS1 hP1)
/-- name = e -/
def sSet (i : Nat) (fe : EM D) : SM := fun τ st => bindE (fe τ st) τ fun d s1 => .nx (τ.set i (some d)) s1
theorem sx_set {i : Nat} {x : Str} {pos' : Pos} (hN : X.N.Nodup) (he : Ex X W e fe) (hi : X.N[i]? = some x := by rfl) (hx : Loc X.env.scope x := by first | exact Or.inl rfl | exact Or.inr rfl) (hs : swapsWith e (some (.Name x pos')) pos.line X.env = pure false := by rfl)
    (hf : X.fn x = true ∨ X.env.scope.names.lookup x = some .local := by first | exact .inl rfl | exact .inr rfl) : Sx X W (.Assign [.Name x pos'] e pos) (sSet i fe) := by
  refine ⟨fun m τ s σ H D hL hS hP pins sh I => (ps_set hN hi hx peW hs hf).run pins sh σ H D I ?_⟩
  exact he.run m τ s σ H _ hL hS (hP.bind hL fun d s1 m1 H1 v e1 hS1 r1 hP1 => hP1 m1 H1 _ .refl hS1 ((hL.mono e1).set i r1))
/-- target = e -/
def sAsg (set : D → Sl → Option Sl) (fe : EM D) : SM := fun τ st => bindE (fe τ st) τ fun d s1 => match set d τ with
  | some τ1 => .nx τ1 s1
  | none => .bad
theorem sx_asg {tg : Expr} {ix : List Nat} {set : D → Sl → Option Sl} (he : Ex X W e fe) (hg : Eg X tg ix set) (hs : swapsWithSole [tg] e pos.line X.env = pure false := by rfl) (hw : swappedStores [tg] e X.env = pure none := by rfl) (h1 : (assignEach [tg] X.env).map (·.2) = [assign tg X.env] := by rfl) : Sx X W (.Assign [tg] e pos) (sAsg set fe) := by
  refine ⟨fun m τ s σ H D hL hS hP pins sh I => (ps_asg peW pgW hs hw h1).run pins sh σ H D I ?_⟩
  refine he.run m τ s σ H _ hL hS (hP.bind hL fun d s1 m1 H1 v e1 hS1 r1 hP1 => ?_)
  split at hP1
  · rename_i τ1 hset
    exact hg.run m1 τ τ1 s1 σ H1 d v _ (hL.mono e1) hS1 r1 hset fun σ2 _ _ hL2 => hP1 m1 H1 σ2 .refl hS1 hL2
  · exact hP1.elim
/-- name op= e -/
def sAug (i : Nat) (o : O2) (fe : EM D) : SM := fun τ st => match τ[i]? with
  | some (some x) => bindE (fe τ st) τ fun y s1 => bindE (o x y s1) τ fun z s2 => .nx (τ.set i (some z)) s2
  | _ => .bad
theorem sx_aug {i : Nat} {x : Str} {pos' : Pos} {op : Operator} {o : O2} (hN : X.N.Nodup) (he : Ex X W e fe) (ho : OpM X W (inplaceOp op) o) (hi : X.N[i]? = some x := by rfl) (hx : Loc X.env.scope x := by first | exact Or.inl rfl | exact Or.inr rfl)
    (hf : X.fn x = true ∨ X.env.scope.names.lookup x = some .local := by first | exact .inl rfl | exact .inr rfl) : Sx X W (.AugAssign (.Name x pos') op e pos) (sAug i o fe) := by
  refine ⟨fun m τ s σ H D hL hS hP pins sh I => ?_⟩
  unfold sAug at hP
  split at hP
  · rename_i d0 hd0
    obtain ⟨v0, h1, h2⟩ := hL.get i d0 hd0
    obtain ⟨mm, hn, hl⟩ := I.loc
    have vis : Vis X.env.scope x := by
      rcases hx with k | k
      · exact .inl k
      · exact .inr (.inl k)
    obtain ⟨u0, r0, l⟩ := hl i x v0 hi h1 vis
    refine wpAny_AugAssign_Name ?_
    have go : wpAny (model X.prog X.w) X.A (eval e X.env) (fun w s₂ => wpAny (model X.prog X.w) X.A (inplaceOp op u0 w) (fun r s₃ => wpAny (model X.prog X.w) X.A (storeName X.env x r) (fun _ => SP X pins D .next) X.xe s₃) X.xe s₂) X.xe sh := by
      refine thn (he.run m τ s σ H (fun y H1 => wR2 X (inplaceOp op) σ v0 y H1 fun z H2 => D.nx (σ.set i (some z)) H2) hL hS (hP.bind hL fun dy s1 m1 H1 y e1 hS1 r1 hP1 pins s v u I rx ry => ?_) pins sh I) fun w s1 ⟨y, H1, I1, r1, q1⟩ => ?_
      · exact ho m1 s1 σ H1 d0 dy v0 y _ hS1 (h2.mono e1) r1 (hP1.bind (hL.mono e1) fun dz s2 m2 H2 z e2 hS2 r2 hP2 => hP2 m2 H2 _ .refl hS2 (((hL.mono e1).mono e2).set i r2)) pins s v u I rx ry
      · refine thn (q1 pins s1 u0 w I1 r0 r1) fun z s2 ⟨zv, H2, I2, r2, q2⟩ => ?_
        exact store_ok I2 hN hi hx r2 (fun s3 I3 => ⟨_, H2, I3, q2⟩) hf
    rcases l with ⟨hk, hm⟩ | ⟨hk, c, hc, hcell⟩
    · exact wpAny_loadName_local I.ok.kind hk hn hm go
    · rcases hk with hk | hk
      · exact wpAny_loadName_cell I.ok.kind hk hc hcell go
      · rcases hx with k | k
        · have : X.env.scope.names.lookup x = some .free := hk
          rw [k] at this
          cases this
        · have : X.env.scope.names.lookup x = some .free := hk
          rw [k] at this
          cases this
  · exact hP.elim
/-- o[i] = e (a list) -/
def oSet : D → D → D → Store → Option Store := fun o i v st => match o, i with
  | .ref n, .int k => match lstAt st n with
    | some xs => match ixN xs.length k with
      | some j => some (st.set n (.lst (xs.set j v)))
      | none => none
    | none => none
  | _, _ => none
/-- the order: the value, then the object, then the index -/
def sSub (fo fi fe : EM D) : SM := fun τ st => bindE (fe τ st) τ fun v s1 => bindE (fo τ s1) τ fun o s2 => bindE (fi τ s2) τ fun i s3 => match oSet o i v s3 with
  | some s4 => .nx τ s4
  | none => .bad
theorem set_read {K : PySem.W.Frag} {m : List Addr} {st st' : Store} {H : Hp} {o i v : D} {vo vi vv : V} (hS : SS K m st H) (ro : RD K m H o vo) (ri : RD K m H i vi) (rv : RD K m H v vv) (h : oSet o i v st = some st') :
    ∃ p xs k j, vo = .ref p ∧ vi = .int k ∧ H p = some (.lst xs) ∧ ixN xs.length k = some j ∧ Ext K m H m (upd H p (.lst (xs.set j vv))) ∧ SS K m st' (upd H p (.lst (xs.set j vv))) := by
  unfold oSet at h
  split at h
  · split at h
    · rename_i xs hx
      split at h
      · rename_i j hj
        cases h
        cases ro with
        | ref q =>
          cases ri
          obtain ⟨vs, h1, h2⟩ := hS.list hx q
          exact ⟨_, vs, _, j, rfl, rfl, h1, by rw [← h2.len]; exact hj, Ext.write h1 q, hS.write h1 q (h2.set rv j)⟩
      · cases h
    · cases h
  · cases h
theorem sx_sub {o i : Expr} {p' : Pos} {fo fi : EM D} (he : Ex X W e fe) (ho : Ex X W o fo) (hi : Ex X W i fi)
    (ha : ∀ v, assign (.Subscript o i p') X.env v = (do
      let ov ← holding [v] (eval o X.env)
      let iv ← holding [v, ov] (eval i X.env)
      standAt p'
      holding [v, ov, iv] (setItem ov iv v)
      release [v, ov, iv] []) := by intro _; rfl)
    (hs : swapsWithSole [.Subscript o i p'] e pos.line X.env = pure false := by rfl) (hw : swappedStores [.Subscript o i p'] e X.env = pure none := by rfl) (h1 : (assignEach [.Subscript o i p'] X.env).map (·.2) = [assign (.Subscript o i p') X.env] := by rfl) : Sx X W (.Assign [.Subscript o i p'] e pos) (sSub fo fi fe) := by
  refine ⟨fun m τ s σ H D hL hS hP pins sh I => (ps_asg peW (pg_sub peW peW set_list ha) hs hw h1).run pins sh σ H D I ?_⟩
  refine he.run m τ s σ H _ hL hS (hP.bind hL fun v s1 m1 H1 vv e1 hS1 r1 hP1 => ?_)
  refine ho.run m1 τ s1 σ H1 _ (hL.mono e1) hS1 (hP1.bind (hL.mono e1) fun o s2 m2 H2 vo e2 hS2 r2 hP2 => ?_)
  refine hi.run m2 τ s2 σ H2 _ ((hL.mono e1).mono e2) hS2 (hP2.bind ((hL.mono e1).mono e2) fun i s3 m3 H3 vi e3 hS3 r3 hP3 => ?_)
  split at hP3
  · rename_i s4 h4
    obtain ⟨p, xs, k, j, q1, q2, q3, q4, q5, q6⟩ := set_read hS3 (r2.mono e3) r3 ((r1.mono e2).mono e3) h4
    exact ⟨p, xs, k, j, q1, q2, q3, q4, hP3 m3 _ σ q5 q6 ((((hL.mono e1).mono e2).mono e3).mono q5)⟩
  · exact hP3.elim
/-- o[i] op= e -/
def oGetL : O2 := fun x i st => match x, i with
  | .ref n, .int k => match lstAt st n with
    | some xs => match atI xs k with
      | some d => .ok d st
      | none => .bad
    | none => .bad
  | _, _ => .bad
def sAugS (o : O2) (fo fi fe : EM D) : SM := fun τ st => bindE (fo τ st) τ fun x s1 => bindE (fi τ s1) τ fun i s2 => bindE (oGetL x i s2) τ fun y s3 => bindE (fe τ s3) τ fun z s4 => bindE (o y z s4) τ fun v s5 => match oSet x i v s5 with
  | some s6 => .nx τ s6
  | none => .bad
theorem get_list : PGet X (rIxL X.K) := by
  intro pins s σ H x y v u Q I rx ry h
  obtain ⟨p, xs, i, z, rfl, rfl, hq, he, q⟩ := h
  cases rx
  obtain ⟨t, rfl⟩ := ry
  obtain ⟨its, r, pl, hz⟩ := I.list hq
  obtain ⟨j, h1, h2, h3, h4, h5⟩ := atI_get he
  obtain ⟨w, ew, rw'⟩ := r.get h2
  have hl := r.length
  have hn := line63
  have fin : EP X pins σ Q w s := ⟨z, H, I, rw', q⟩
  by_cases h0 : 0 ≤ i
  · have hj : i.toNat = j := by
      rw [seqIndex_of h0 h5] at h1
      exact Option.some.inj h1
    exact wpAny_getItem_list pl.isList h0 (by omega) (by rw [hj]; simpa using ew) fin
  · have hj : (i + (its.toArray.size : Int)).toNat = j := by
      rw [seqIndex_neg (by omega) h4] at h1
      rw [List.size_toArray, ← hl]
      exact Option.some.inj h1
    exact wpAny_getItem_list_neg pl.isList (by omega) (by rw [List.size_toArray] <;> omega) (by omega) (by rw [hj]; simpa using ew) fin
theorem getL_read {K : PySem.W.Frag} {E : XK} {m : List Addr} {st : Store} {H : Hp} {x i : D} {vx vi : V} {Q : VK} (hS : SS K m st H) (rx : RD K m H x vx) (ri : RD K m H i vi) (h : Pe K E (RD K) m H (oGetL x i st) Q) : rIxL K vx vi H Q := by
  unfold oGetL at h
  split at h
  · split at h
    · split at h
      · rename_i xs hx _ d hd
        cases rx with
        | ref q =>
          cases ri
          obtain ⟨vs, h1, h2⟩ := hS.list hx q
          obtain ⟨v, h3, h4⟩ := atI_rds h2 hd
          exact ⟨_, vs, _, v, rfl, rfl, SqL.of h1, h3, h.now hS h4⟩
      · exact h.elim
    · exact h.elim
  · exact h.elim
theorem sx_augS {o i : Expr} {p' : Pos} {fo fi : EM D} {op : Operator} {op2 : O2} (ho : Ex X W o fo) (hi : Ex X W i fi) (he : Ex X W e fe) (hop : OpM X W (inplaceOp op) op2)
    (ha : ∀ ov iv new, augStore i ov iv new = (do holding [new, ov, iv] (setItem ov iv new); release [new, ov, iv] []; pure .next) := by intros; rfl) : Sx X W (.AugAssign (.Subscript o i p') op e pos) (sAugS op2 fo fi fe) := by
  refine ⟨fun m τ s σ H D hL hS hP pins sh I => ?_⟩
  have read : wE X o σ H fun vo H1 => wE X i σ H1 fun vi H2 => rIxL X.K vo vi H2 fun vy H3 => wE X e σ H3 fun vz H4 => wR2 X (inplaceOp op) σ vy vz H4 fun vv H5 => rSetL vo vi vv H5 fun H6 => D.nx σ H6 := by
    refine ho.run m τ s σ H _ hL hS (hP.bind hL fun dx s1 m1 H1 vx e1 hS1 r1 hP1 => ?_)
    have hL1 := hL.mono e1
    refine hi.run m1 τ s1 σ H1 _ hL1 hS1 (hP1.bind hL1 fun di s2 m2 H2 vi e2 hS2 r2 hP2 => ?_)
    have hL2 := hL1.mono e2
    refine getL_read hS2 (r1.mono e2) r2 (hP2.bind hL2 fun dy s3 m3 H3 vy e3 hS3 r3 hP3 => ?_)
    have hL3 := hL2.mono e3
    refine he.run m3 τ s3 σ H3 _ hL3 hS3 (hP3.bind hL3 fun dz s4 m4 H4 vz e4 hS4 r4 hP4 => ?_)
    have hL4 := hL3.mono e4
    intro pins s v u I rv ru
    refine hop m4 s4 σ H4 dy dz vy vz _ hS4 (r3.mono e4) r4 (hP4.bind hL4 fun dv s5 m5 H5 vv e5 hS5 r5 hP5 => ?_) pins s v u I rv ru
    have hL5 := hL4.mono e5
    split at hP5
    · rename_i s6 h6
      have e25 := ((e3.trans e4).trans e5)
      obtain ⟨p, xs, k, j, q1, q2, q3, q4, q5, q6⟩ := set_read hS5 ((r1.mono e2).mono e25) (r2.mono e25) r5 h6
      exact ⟨p, xs, k, j, q1, q2, q3, q4, hP5 m5 _ σ q5 q6 (hL5.mono q5)⟩
    · exact hP5.elim
  refine wpAny_AugAssign_SubscriptAny (thn (read pins sh I) fun ov s1 ⟨x1, H1, I1, r1, q1⟩ => ?_) ha
  refine thn (q1 pins s1 I1) fun iv s2 ⟨x2, H2, I2, r2, q2⟩ => ?_
  refine thn (get_list pins s2 σ H2 x1 x2 ov iv _ I2 r1 r2 q2) fun old s3 ⟨x3, H3, I3, r3, q3⟩ => ?_
  refine thn (q3 pins s3 I3) fun v s4 ⟨x4, H4, I4, r4, q4⟩ => ?_
  refine thn (q4 pins s4 old v I4 r3 r4) fun new s5 ⟨x5, H5, I5, r5, q5⟩ => ?_
  exact thn (set_list pins s5 σ H5 x1 x2 x5 ov iv new _ I5 r1 r2 r5 q5) fun _ s6 ⟨H6, I6, q6⟩ => ⟨σ, H6, I6, q6⟩
/-! ### loops -/
def forL (q : Sq) (set : D → Sl → Option Sl) (body : SM) : List D → SM
  | [], τ, st => if q.chk st then .nx τ st else .bad
  | d :: ds, τ, st => if q.chk st then match set d τ with
    | some τ1 => match body τ1 st with
      | .nx τ2 s2 => forL q set body ds τ2 s2
      | .ct τ2 s2 => forL q set body ds τ2 s2
      | .bk τ2 s2 => .nx τ2 s2
      | r => r
    | none => .bad
  else .bad
def sFor (fi : EM Sq) (set : D → Sl → Option Sl) (body : SM) : SM := fun τ st => bindE (fi τ st) τ fun q s1 => forL q set body q.items τ s1
theorem sx_for {tg iter : Expr} {ix : List Nat} {set : D → Sl → Option Sl} {fi : EM Sq} (hp : PassesOwn (model X.prog X.w) X.A X.env X.xe) (hc : X.calm = true) (hi : Ei X W tg iter fi) (hg : Eg X tg ix set) (hb : Sxs X W body f) (hs : ∀ x, foldedSetIterable iter X.env x = pure x := by intro _; rfl) : Sx X W (.For tg iter body [] pos) (sFor fi set f) := by
  refine ⟨fun m τ s σ H D hL hS hP pins sh I => (ps_for hp hc piW pgW pssW hs).run pins sh σ H D I ?_⟩
  refine hi.run m τ s σ H _ hL hS (hP.bind hL fun q s1 m1 H1 J e1 hS1 hJ hP1 => ?_)
  refine ⟨fun i k σ H => k = q.items.length - i ∧ i ≤ q.items.length ∧ ∃ (m : List Addr) (τ : Sl) (st : Store), Ext X.K m1 H1 m H ∧ SS X.K m st H ∧ SL X.K m H τ σ ∧ Ps X.K W m H (forL q set f (q.items.drop i) τ st) D, ⟨_, rfl, Nat.zero_le _, m1, τ, s1, .refl, hS1, hL.mono e1, by rw [List.drop_zero]; exact hP1⟩, ?_⟩
  rintro i k σ H ⟨rfl, hi, m, τ, st, e, hS, hL, hP⟩
  by_cases hlt : i < q.items.length
  · rw [List.drop_eq_getElem_cons hlt] at hP
    unfold forL at hP
    split at hP
    · rename_i hc
      obtain ⟨hgo, _⟩ := hJ m H st e hS hc
      obtain ⟨go, yl⟩ := hgo i q.items[i] (by simp [hlt])
      split at hP
      · rename_i τ1 hset
        refine .inr ⟨go, fun σ' H' => i + 1 ≤ q.items.length ∧ ∃ (m : List Addr) (τ : Sl) (st : Store), Ext X.K m1 H1 m H' ∧ SS X.K m st H' ∧ SL X.K m H' τ σ' ∧ Ps X.K W m H' (forL q set f (q.items.drop (i + 1)) τ st) D, fun σ' H' h => ⟨q.items.length - (i + 1), by omega, rfl, h⟩, fun x H' hy => ?_⟩
        obtain ⟨e2, s2, r2⟩ := yl x H' hy
        refine hg.run m τ τ1 st σ H' _ x _ (hL.mono e2) s2 r2 hset fun σ2 _ _ hL2 => ?_
        refine hb.run m τ1 st σ2 H' _ hL2 s2 ?_
        have hP := hP.up e2
        cases hq : f τ1 st with
        | nx τ2 s3 =>
          rw [hq] at hP
          exact fun m3 H3 σ3 e3 hS3 hL3 => ⟨by omega, m3, τ2, s3, e.trans (e2.trans e3), hS3, hL3, hP.up e3⟩
        | ct τ2 s3 =>
          rw [hq] at hP
          exact fun m3 H3 σ3 e3 hS3 hL3 => ⟨by omega, m3, τ2, s3, e.trans (e2.trans e3), hS3, hL3, hP.up e3⟩
        | bk τ2 s3 =>
          rw [hq] at hP
          exact hP
        | rt d s3 =>
          rw [hq] at hP
          exact hP
        | exc x τ2 s3 =>
          rw [hq] at hP
          exact hP
        | bad =>
          rw [hq] at hP
          exact hP
      · exact hP.elim
    · exact hP.elim
  · have e0 : i = q.items.length := by omega
    subst e0
    rw [List.drop_length] at hP
    unfold forL at hP
    split at hP
    · rename_i hc
      obtain ⟨_, stop⟩ := hJ m H st e hS hc
      exact .inl ⟨stop, hP m H σ .refl hS hL⟩
    · exact hP.elim
/-- more turns than any loop here takes -/
@[irreducible] def big : Nat := 2 ^ 20000
theorem le_big {k n : Nat} (hk : k ≤ 20000) (h : n ≤ 2 ^ k) : n ≤ big := by
  unfold big
  exact Nat.le_trans h (Nat.pow_le_pow_right (by decide) hk)
/-- while, at most n turns -/
def whileN (g : EM Bool) (body : SM) : Nat → SM
  | 0, _, _ => .bad
  | n + 1, τ, st => bindE (g τ st) τ fun b s1 => if b then match body τ s1 with
      | .nx τ2 s2 => whileN g body n τ2 s2
      | .ct τ2 s2 => whileN g body n τ2 s2
      | .bk τ2 s2 => .nx τ2 s2
      | r => r
    else .nx τ s1
theorem sx_while {c : Expr} (n : Nat) (hp : PassesOwn (model X.prog X.w) X.A X.env X.xe) (hc : Et X W c g) (hb : Sxs X W body f) : Sx X W (.While c body [] pos) (whileN g f n) := by
  refine ⟨fun m τ s σ H D hL hS hP pins sh I => (ps_while hp ptW pssW).run pins sh σ H D I ?_⟩
  refine ⟨fun k σ H => ∃ (m : List Addr) (τ : Sl) (st : Store), SS X.K m st H ∧ SL X.K m H τ σ ∧ Ps X.K W m H (whileN g f k τ st) D, ⟨n, m, τ, s, hS, hL, hP⟩, ?_⟩
  rintro k σ H ⟨m, τ, st, hS, hL, hP⟩
  cases k with
  | zero => exact hP.elim
  | succ k =>
    refine hc.run m τ st σ H _ hL hS (hP.bind hL fun b s1 m1 H1 b' e1 hS1 r1 hP1 => ?_)
    subst r1
    cases b with
    | false => exact iteF (hP1 m1 H1 σ .refl hS1 (hL.mono e1))
    | true =>
      refine iteT ⟨fun σ' H' => ∃ (m : List Addr) (τ : Sl) (st : Store), SS X.K m st H' ∧ SL X.K m H' τ σ' ∧ Ps X.K W m H' (whileN g f k τ st) D, fun σ' H' h => ⟨k, Nat.lt_succ_self k, h⟩, ?_⟩
      refine hb.run m1 τ s1 σ H1 _ (hL.mono e1) hS1 ?_
      have hP1 : Ps X.K W m1 H1 (match f τ s1 with
        | .nx τ2 s2 => whileN g f k τ2 s2
        | .ct τ2 s2 => whileN g f k τ2 s2
        | .bk τ2 s2 => .nx τ2 s2
        | r => r) D := hP1
      cases hq : f τ s1 with
      | nx τ2 s3 =>
        rw [hq] at hP1
        exact fun m3 H3 σ3 e3 hS3 hL3 => ⟨m3, τ2, s3, hS3, hL3, hP1.up e3⟩
      | ct τ2 s3 =>
        rw [hq] at hP1
        exact fun m3 H3 σ3 e3 hS3 hL3 => ⟨m3, τ2, s3, hS3, hL3, hP1.up e3⟩
      | bk τ2 s3 =>
        rw [hq] at hP1
        exact hP1
      | rt d s3 =>
        rw [hq] at hP1
        exact hP1
      | exc x τ2 s3 =>
        rw [hq] at hP1
        exact hP1
      | bad =>
        rw [hq] at hP1
        exact hP1
end
end HM

/-! HM, part 7: raise, try; defs; the law's end. -/
namespace HM
open PySem PySem.Spec PyProof.Rows L2
section
variable {X : Cx} {W : WX} {e a b c : Expr} {es rest : List Expr} {pos p : Pos} {fa fb fc fe : EM D} {fs : EM (List D)} {g ga gb : EM Bool} {s1 : Stmt} {ss body suite : List Stmt} {f h k : SM}
def sRaise (x : Xc) : SM := fun τ st => .exc x τ st
theorem sx_raiseB {T N I : String} {x : Str} {m : Str} {j : Nat} {p2 pos' : Pos} (hc : X.calm = true) (tk : Takes X W) (F : ExcB T N I) (hg : Gl X x) (hm : X.mg x = none) (hv : bootBuiltins x = some (.type T)) (hn : x ≠ "__name__" := by decide) (hdb : (x == ("__debug__" : Str)) = false := by decide) :
    Sx X W (.Raise (some (.Call (.Name x p) [.Constant (.str m) j p2] [] pos)) none pos') (sRaise ⟨.ty T, []⟩) :=
  ⟨fun m τ s σ H D hL hS hP pins sh I => (ps_raiseB hc tk F hg hm hv hn hdb).run pins sh σ H D I (hP m H σ _ _ .refl hS hL ⟨rfl, rfl⟩)⟩
def sTry (f : SM) (mt : D → Option Bool) (h : SM) : SM := fun τ st => match f τ st with
  | .exc x τ1 s1 => match mt x.cls with
    | some true => h τ1 s1
    | some false => .exc x τ1 s1
    | none => .bad
  | r => r
theorem sx_try {x : Str} {c : Value} {b₀ : Stmt} {np pos' : Pos} {mt : D → Option Bool} (hs : X.stack = X.env :: X.outer) (hf : X.env.frame = some X.env.locals) (hc : Names X x c) (tk : Takes X W) (hmt : ∀ (m : List Addr) (H : Hp) (y : Xc) (cls : Value) (d : Option Addr) (b : Bool), XR X.K m H y cls d → mt y.cls = some b → PySem.W.exmOne X.K cls c = some b)
    (hb : ∀ (W : WX) (pn : List (Addr × Obj)) (xe : Value → Shared → Prop), Takes (X.tr pn xe) W → PassesOwn (model X.prog X.w) X.A X.env xe → Sxs (X.tr pn xe) W body f)
    (hsu : ∀ (a : Addr) (oe : Obj) (pn : List (Addr × Obj)), Sxs (X.suite a ((a, oe) :: pn)) (fun _ _ _ _ => False) (b₀ :: suite) h)
    (hno : ∀ τ st x τ1 s1, h τ st ≠ .exc x τ1 s1) : Sx X W (.Try body [.ExceptHandler (some (.Name x np)) none (b₀ :: suite) pos'] [] [] pos) (sTry f mt h) := by
  refine ⟨fun m τ s σ H D hL hS hP pins sh I => ?_⟩
  refine (ps_try_only (tb := fun W => fun D σ H => ∀ (pn : List (Addr × Obj)) (xe : Value → Shared → Prop), Takes (X.tr pn xe) W → PassesOwn (model X.prog X.w) X.A X.env xe → wSs (X.tr pn xe) body D σ H)
    (ts := fun a cls d => fun D σ H => ∀ (oe : Obj) (pn : List (Addr × Obj)), wSs (X.suite a ((a, oe) :: pn)) (b₀ :: suite) D σ H) hs hf hc tk (fun W pn xe t1 t2 => ⟨fun pins s σ H D I h => h pn xe t1 t2 pins s I⟩) (fun a oe cls d pn _ _ => ⟨fun pins s σ H D I h => h oe pn pins s I⟩)).run pins sh σ H D I ?_
  intro pn xe t1 t2
  refine (hb _ pn xe t1 t2).run m τ s σ H D hL hS ?_
  unfold sTry at hP
  cases hq : f τ s with
  | exc y τ1 s1 =>
    rw [hq] at hP
    intro m1 H1 σ1 cls d e1 hS1 hL1 hX
    have hP : Ps X.K W m H (match mt y.cls with
      | some true => h τ1 s1
      | some false => .exc y τ1 s1
      | none => .bad) D := hP
    cases hm : mt y.cls with
    | none =>
      rw [hm] at hP
      exact hP.elim
    | some b =>
      rw [hm] at hP
      refine ⟨b, hmt m1 H1 y cls d b hX hm, fun hb' a na oe pn => ?_, fun hb' => ?_⟩
      · subst hb'
        refine (hsu a oe pn).run m1 τ1 s1 σ1 H1 D hL1 hS1 ?_
        have hP := hP.up e1
        cases hh : h τ1 s1 with
        | exc x τ2 s2 => exact absurd hh (hno _ _ _ _ _)
        | nx _ _ =>
          have hP : Ps X.K W m1 H1 (h τ1 s1) D := hP
          rw [hh] at hP
          exact hP
        | bk _ _ =>
          have hP : Ps X.K W m1 H1 (h τ1 s1) D := hP
          rw [hh] at hP
          exact hP
        | ct _ _ =>
          have hP : Ps X.K W m1 H1 (h τ1 s1) D := hP
          rw [hh] at hP
          exact hP
        | rt _ _ =>
          have hP : Ps X.K W m1 H1 (h τ1 s1) D := hP
          rw [hh] at hP
          exact hP
        | bad =>
          have hP : Ps X.K W m1 H1 (h τ1 s1) D := hP
          rw [hh] at hP
          exact hP
      · subst hb'
        exact hP m1 H1 σ1 cls d e1 hS1 hL1 hX
  | nx _ _ =>
    rw [hq] at hP
    exact hP
  | bk _ _ =>
    rw [hq] at hP
    exact hP
  | ct _ _ =>
    rw [hq] at hP
    exact hP
  | rt _ _ =>
    rw [hq] at hP
    exact hP
  | bad =>
    rw [hq] at hP
    exact hP
end

/-- does a built-in class catch -/
def mtB (T : String) : D → Option Bool
  | .ty n => if n = T then some true else none
  | _ => none
theorem mtB_of {K : PySem.W.Frag} {T : String} (h : PySem.W.exmOne K (.type T) (.type T) = some true) (m : List Addr) (H : Hp) (y : Xc) (cls : Value) (d : Option Addr) (b : Bool) (hx : XR K m H y cls d) (hm : mtB T y.cls = some b) : PySem.W.exmOne K cls (.type T) = some b := by
  unfold mtB at hm
  split at hm
  · rename_i n e
    split at hm
    · rename_i hn
      subst hn
      cases hm
      unfold XR at hx
      rw [e] at hx
      obtain ⟨rfl, _⟩ := hx
      exact h
    · cases hm
  · cases hm
theorem mtB_ZeroDivisionError {K : PySem.W.Frag} : ∀ (m : List Addr) (H : Hp) (y : Xc) (cls : Value) (d : Option Addr) (b : Bool), XR K m H y cls d → mtB "ZeroDivisionError" y.cls = some b → PySem.W.exmOne K cls (.type "ZeroDivisionError") = some b := mtB_of (by kernel_rfl)
/-! ### defs -/
/-- the slots at a def's entry -/
def ent (n : Nat) (ds : List D) : Sl := ds.map some ++ List.replicate (n - ds.length) none
def runB (n : Nat) (fb : SM) : FM := fun ds st => match fb (ent n ds) st with
  | .nx _ s => .ok .non s
  | .rt d s => .ok d s
  | .exc x _ s => .exc x s
  | _ => .bad
theorem SL.start {K : PySem.W.Frag} {m : List Addr} {H : Hp} {N : List Str} {ds : List D} {vs : List V} (r : RDs K m H ds vs) : SL K m H (ent N.length ds) (L2.start N vs) where
  len := by simp [ent, L2.start, r.len]
  get := fun i d h => by
    unfold ent at h
    by_cases hi : i < ds.length
    · rw [List.getElem?_append_left (by simpa using hi), List.getElem?_map] at h
      cases hd : ds[i]? with
      | none =>
        rw [hd] at h
        cases h
      | some d' =>
        rw [hd] at h
        simp only [Option.map_some, Option.some.injEq] at h
        subst h
        obtain ⟨v, h1, h2⟩ := r.get hd
        refine ⟨v, ?_, h2⟩
        unfold L2.start
        rw [List.getElem?_append_left (by simpa [← r.len] using hi), List.getElem?_map, h1]
        rfl
    · rw [List.getElem?_append_right (by simpa using hi)] at h
      have z := List.mem_of_getElem? h
      have z2 := List.eq_of_mem_replicate z
      cases z2
section
variable {P : Program} {w : World} {K : PySem.W.Frag} {mg : Str → Option Value} {base : Heap} {x qual : Str} {params : Arguments} {body : List Stmt} {scope : Scope} {dvs : List V} {kws : List (Str × V)} {f : Addr} {fd : FuncData} {N ps : List Str} {k : Nat} {fb : SM}
/-- the context of a def's body -/
abbrev Cd (P : Program) (w : World) (K : PySem.W.Frag) (mg : Str → Option Value) (base : Heap) (N : List Str) (qual : Str) (scope : Scope) (f : Addr) (k : Nat) (B : Cx → WX → Prop) : Prop :=
  ∀ (cdv : Value) (A : Around) (outer : List Env) (s : Shared) (H : Hp) (E : XK), Room k (A.deeper (envOfC qual scope s.heap.objs.size f cdv)) → B (cxOf (L2.CX P w) P w K mg base N qual scope f cdv A outer s H E) (fun c d _ H => E c d H)
theorem fn_def (F : FunD K x qual params body scope dvs kws f fd) (S : FnScope N ps scope)
    (hb : ∀ (cdv : Value) (A : Around) (outer : List Env) (s : Shared) (H : Hp) (E : XK), Room k (A.deeper (envOfC qual scope s.heap.objs.size f cdv)) → Takes (cxOf (L2.CX P w) P w K mg base N qual scope f cdv A outer s H E) (fun c d _ H => E c d H) →
      PassesOwn (model P w) (A.deeper (envOfC qual scope s.heap.objs.size f cdv)) (envOfC qual scope s.heap.objs.size f cdv) (cxOf (L2.CX P w) P w K mg base N qual scope f cdv A outer s H E).xe →
      Sxs (cxOf (L2.CX P w) P w K mg base N qual scope f cdv A outer s H E) (fun c d _ H => E c d H) body fb) : FnM P w K mg base (k + 1) f fd ps (runB N.length fb) := by
  refine F.ok S (fun vs H Q E ⟨m, st, ds, hl, hS, r, _⟩ => by rw [← r.len, hl]) (fun cdv A outer s H vs Q E hr ⟨m, st, ds, hl, hS, r, hP⟩ => ?_)
  refine ⟨_, pssW, (hb cdv A outer s H E hr (takes_of rfl rfl rfl rfl) (passes_of rfl)).run m (ent N.length ds) st (L2.start N vs) H _ (SL.start r) hS ?_⟩
  unfold runB at hP
  cases hq : fb (ent N.length ds) st with
  | nx τ s1 =>
    rw [hq] at hP
    exact fun m1 H1 σ e1 hS1 hL1 => hP m1 H1 .non e1 hS1 .non
  | rt d s1 =>
    rw [hq] at hP
    exact hP
  | exc x τ s1 =>
    rw [hq] at hP
    exact fun m1 H1 σ c d e1 hS1 hL1 hX => hP m1 H1 c d e1 hS1 hX
  | bk τ s1 =>
    rw [hq] at hP
    exact hP.elim
  | ct τ s1 =>
    rw [hq] at hP
    exact hP.elim
  | bad =>
    rw [hq] at hP
    exact hP.elim
end

/-! ### what a def leaves behind may be forgotten -/
mutual
def D.lo (k : Nat) : D → Bool
  | .ref n => decide (n < k)
  | .tup xs => D.loAll k xs
  | .rol xs => D.loAll k xs
  | _ => true
def D.loAll (k : Nat) : List D → Bool
  | [] => true
  | d :: ds => D.lo k d && D.loAll k ds
end
def Cell.lo (k : Nat) : Cell → Bool
  | .lst xs => D.loAll k xs
section
variable {K : PySem.W.Frag} {m : List Addr} {H : Hp}
mutual
theorem RD.take {k : Nat} : ∀ {d : D} {v : V}, RD K m H d v → d.lo k = true → RD K (m.take k) H d v
  | _, _, .non, _ => .non
  | _, _, .bl b, _ => .bl b
  | _, _, .int i, _ => .int i
  | _, _, .str x, _ => .str x
  | _, _, .ty n, _ => .ty n
  | _, _, .adr a, _ => .adr a
  | _, _, .tup h r, q => .tup h (RDs.takeA r (by simpa only [D.lo] using q))
  | _, _, .rol h r, q => .rol h (RDs.takeA r (by simpa only [D.lo] using q))
  | _, _, .ref (n := n) h, q => .ref (by
    have z : n < k := of_decide_eq_true (by simpa only [D.lo] using q)
    rw [List.getElem?_take_of_lt z]
    exact h)
theorem RDs.takeA {k : Nat} : ∀ {ds : List D} {vs : List V}, RDs K m H ds vs → D.loAll k ds = true → RDs K (m.take k) H ds vs
  | _, _, .nil, _ => .nil
  | _, _, .cons h r, q => by
    simp only [D.loAll, Bool.and_eq_true] at q
    exact .cons (RD.take h q.1) (RDs.takeA r q.2)
end
mutual
theorem RD.is_lo {k : Nat} (hk : m.length ≤ k) : ∀ {d : D} {v : V}, RD K m H d v → d.lo k = true
  | _, _, .non => rfl
  | _, _, .bl b => rfl
  | _, _, .int i => rfl
  | _, _, .str x => rfl
  | _, _, .ty n => rfl
  | _, _, .adr a => rfl
  | _, _, .tup h r => by simpa only [D.lo] using RDs.is_lo hk r
  | _, _, .rol h r => by simpa only [D.lo] using RDs.is_lo hk r
  | _, _, .ref h => by
    simp only [D.lo, decide_eq_true_eq]
    exact Nat.lt_of_lt_of_le (List.getElem?_eq_some_iff.mp h).1 hk
theorem RDs.is_lo {k : Nat} (hk : m.length ≤ k) : ∀ {ds : List D} {vs : List V}, RDs K m H ds vs → D.loAll k ds = true
  | _, _, .nil => rfl
  | _, _, .cons h r => by simp only [D.loAll, RD.is_lo hk h, RDs.is_lo hk r, Bool.and_self]
end
theorem RC.is_lo {k : Nat} {a : Addr} {c : Cell} (hk : m.length ≤ k) (r : RC K m H a c) : c.lo k = true := by
  cases c with
  | lst ds =>
    obtain ⟨vs, _, r⟩ := r
    exact r.is_lo hk
theorem RC.take {k : Nat} {a : Addr} {c : Cell} (r : RC K m H a c) (h : c.lo k = true) : RC K (m.take k) H a c := by
  cases c with
  | lst ds =>
    obtain ⟨vs, q, r⟩ := r
    exact ⟨vs, q, r.takeA h⟩
/-- r' says no more than r, or the same with a shorter store -/
inductive Le (st : Store) : ER D → ER D → Prop
  | bad (r : ER D) : Le st r .bad
  | refl (r : ER D) : Le st r r
  | gc {v : D} {s1 : Store} (k : Nat) (hk : st.length ≤ k) (hv : v.lo k = true) (hc : ∀ (i : Nat) (c : Cell), i < k → s1[i]? = some c → st[i]? = some c ∨ c.lo k = true) : Le st (.ok v s1) (.ok v (s1.take k))
theorem Le.pe {E : XK} {st : Store} {r r' : ER D} {Q : VK} (l : Le st r r') (s : SS K m st H) (h : Pe K E (RD K) m H r' Q) : Pe K E (RD K) m H r Q := by
  cases l with
  | bad r => exact h.elim
  | refl r => exact h
  | @gc v s1 k hk hv hc =>
    intro m1 H1 b e1 hS1 r1
    refine h (m1.take k) H1 b ⟨⟨fun n a q => ?_, e1.tup, e1.fzl⟩, e1.frm, fun a q n => e1.new a (List.mem_of_mem_take q) n⟩ ⟨?_, ?_, fun n c a q1 q2 => ?_⟩ (r1.take hv)
    · have hl : n < m.length := (List.getElem?_eq_some_iff.mp q).1
      rw [s.len] at hl
      rw [List.getElem?_take_of_lt (Nat.lt_of_lt_of_le hl hk)]
      exact e1.pre n a q
    · rw [List.length_take, List.length_take, hS1.len]
    · exact hS1.nd.sublist (List.take_sublist _ _)
    · have hn : n < k := by
        have z := (List.getElem?_eq_some_iff.mp q1).1
        rw [List.length_take] at z
        omega
      rw [List.getElem?_take_of_lt hn] at q1 q2
      refine (hS1.cel n c a q1 q2).take ?_
      rcases hc n c hn q1 with z | z
      · obtain ⟨a0, _, r0⟩ := s.at z
        exact r0.is_lo (by rw [s.len]; exact hk)
      · exact z
theorem FnM.le {P : Program} {w : World} {mg : Str → Option Value} {base : Heap} {k : Nat} {f : Addr} {fd : FuncData} {ps : List Str} {mf sf : FM} (F : FnM P w K mg base k f fd ps mf) (h : ∀ ds st, Le st (mf ds st) (sf ds st)) : FnM P w K mg base k f fd ps sf :=
  FnOk.imp F fun vs H Q E ⟨m, st, ds, hl, hS, r, hP⟩ => ⟨m, st, ds, hl, hS, r, (h ds st).pe hS hP⟩
/-- a value without the store, the store but for what was laid on it -/
theorem Le.app {st more : Store} {v : D} (hv : v.lo st.length = true) : Le st (.ok v (st ++ more)) (.ok v st) := by
  have z := Le.gc (st := st) (v := v) (s1 := st ++ more) st.length (Nat.le_refl _) hv fun i c hi h => by
    rw [List.getElem?_append_left hi] at h
    exact .inl h
  rw [List.take_left] at z
  exact z
end

/-! ### the law -/
theorem law_sp {K : PySem.W.Frag} {mf : FM} {n : Nat} (h : ∀ ns : List Int, ns.length ≤ n → ∃ st, mf [.rol (ns.map D.int)] [] = .ok (.bl true) st) (H : Hp) (a : Addr) (ns : List Int) (hl : ns.length ≤ n) (ho : Only H) (hS : SqL K H a (ns.map V.int)) :
    spM K 1 mf [V.ref a] H (fun v _ => v = .bl true) (fun _ _ _ => False) := by
  obtain ⟨st, e⟩ := h ns hl
  refine ⟨[], [], [.rol (ns.map D.int)], rfl, ⟨rfl, .nil, fun n c a q => by simp at q⟩, .cons (.rol (FzL.of hS fun ys z => ?_) (RDs.ints ns)) .nil, ?_⟩
  · rcases ho a with q | ⟨o, xs, q⟩
    · rw [q] at z
      cases z
    · rw [q] at z
      cases z
  · rw [e]
    intro m' H' b _ _ r
    cases r
    rfl
end HM

/-! HM, part 8: defs as they are called; what a text is put together of. -/
namespace HM
open PySem PySem.Spec PyProof.Rows L2
section
variable {X : Cx} {W : WX} {e a b c : Expr} {es rest : List Expr} {pos p : Pos} {fa fb fc fe : EM D} {fs : EM (List D)} {g ga gb : EM Bool} {s1 : Stmt} {ss body suite : List Stmt} {f h k : SM}
/-- a name = [..] on one line -/
theorem sx_setLc {i : Nat} {y : Str} {py spos : Pos} {tg elt iter : Expr} {ifs : List Expr} {scope : Scope} {own : List (Str × Nat)} {ix : List Nat} {set : D → Sl → Option Sl} {ft : EM Bool} {fe : EM D} {fi : EM Sq} (hc : X.calm = true) (hN : X.N.Nodup) (hi : Ei X W tg iter fi) (ok : BlkOk X.N X.env.scope scope own)
    (hg : BEg X scope tg ix set) (ht : BEt X scope ifs ft) (he : BEx X scope elt fe) (hy : X.N[i]? = some y := by rfl) (hyl : X.env.scope.names.lookup y = some .local := by rfl)
    (hsw : swapsWith (.ListComp elt [⟨tg, iter, ifs, 0⟩] scope pos) (some (.Name y py)) spos.line X.env = pure true := by exact sw_true rfl rfl rfl (by decide +kernel)) (hown : ∀ i ∈ ix, i ∈ own.map (·.2) := by decide) (hs : ∀ x, foldedSetIterable iter X.env x = pure x := by intro _; rfl) :
    Sx X W (.Assign [.Name y py] (.ListComp elt [⟨tg, iter, ifs, 0⟩] scope pos) spos) (sSet i (eEl (lComp (own.map (·.2)) fi set ft fe))) := by
  refine ⟨fun m τ st σ H D hL hS hP pins s I => ?_⟩
  refine (ps_setLc (g := gAll X scope tg) (tt := tAll X scope ifs) (te := eAll X scope elt) hc hN hy hyl hsw piW ok ?_ ?_ ?_ hs).run pins s σ H D I (comp_post hi hown hg ht he hL hS ?_)
  · exact fun s H C cl fp => ⟨fun pins s' σ H' v u Q I r h => h s H C cl fp pins s' u I r⟩
  · exact fun s H C cl fp => ⟨fun pins s' σ H' Q I h => h s H C cl fp pins s' I⟩
  · exact fun s H C cl fp => ⟨fun pins s' σ H' Q I h => h s H C cl fp pins s' I⟩
  · unfold sSet eEl at hP
    cases hq : lComp (own.map (·.2)) fi set ft fe τ st with
    | ok ds s1 =>
      rw [hq] at hP
      intro m1 H1 v e1 hS1 ⟨a, vs, e, ha, na, hn, rs⟩
      subst e
      have e2 := e1.own hn
      have r2 : RD X.K (m1 ++ [a]) H1 (.ref s1.length) (.ref a) := .ref (by
        rw [← hS1.len]
        simp)
      exact hP (m1 ++ [a]) H1 _ e2 (hS1.grow na ⟨vs, ha, rs.kp Kp.grow⟩) ((hL.mono e2).set i r2)
    | exc x st' =>
      rw [hq] at hP
      exact fun m' H' c d e s q => hP m' H' σ c d e s (hL.mono e) q
    | bad =>
      rw [hq] at hP
      exact hP.elim

/-! ### defs by name -/
structure Cal (P : Program) (w : World) (K : PySem.W.Frag) (mg : Str → Option Value) (base : Heap) (x : Str) (k : Nat) (ps : List Str) (mf : FM) : Prop where
  ex : ∃ (f : Addr) (fd : FuncData), FnM P w K mg base k f fd ps mf ∧ mg x = some (.ref f) ∧ PySem.W.keepIn K (.ref f) = true ∧ Binds K fd ps [] ∧ ∃ oc od osl, K.lookup f = some ⟨oc, od, .func fd, osl⟩
theorem Cal.le {P : Program} {w : World} {K : PySem.W.Frag} {mg : Str → Option Value} {base : Heap} {x : Str} {k : Nat} {ps : List Str} {mf sf : FM} (c : Cal P w K mg base x k ps mf) (h : ∀ ds st, Le st (mf ds st) (sf ds st)) : Cal P w K mg base x k ps sf := by
  obtain ⟨f, fd, F, r⟩ := c.ex
  exact ⟨f, fd, F.le h, r⟩
theorem Cal.mono {P : Program} {w : World} {K : PySem.W.Frag} {mg : Str → Option Value} {base : Heap} {x : Str} {j k : Nat} {ps : List Str} {mf : FM} (c : Cal P w K mg base x j ps mf) (h : j ≤ k) : Cal P w K mg base x k ps mf := by
  obtain ⟨f, fd, F, r⟩ := c.ex
  exact ⟨f, fd, FnOk.mono F h, r⟩
theorem ex_c1 {P : Program} {w : World} {K : PySem.W.Frag} {mg : Str → Option Value} {base : Heap} {A : Around} {j k : Nat} {ps : List Str} {mf : FM} {x : Str} (c : Cal P w K mg base x j ps mf) (tk : Takes X W) (hr : Room k A) (hj : j ≤ k) (ha : Ea X W (e :: es) fs)
    (h1 : X.prog = P := by rfl) (h2 : X.w = w := by rfl) (h3 : X.K = K := by rfl) (h4 : X.mg = mg := by rfl) (h5 : X.base = base := by rfl) (h6 : X.A = A := by rfl) (hg : Gl X x := by rfl) (hdb : (x == ("__debug__" : Str)) = false := by decide) (he : starEach (e :: es) X.env = (false, eval e X.env) :: starEach es X.env := by rfl)
    (hpl : (backTo pos (starEach es X.env)).any (·.1) = false := by rfl) : Ex X W (.Call (.Name x p) (e :: es) [] pos) (eCall ps.length mf fs) := by
  subst h1 h2 h3 h4 h5 h6
  obtain ⟨f, fd, F, hm, hk, hb, _⟩ := c.ex
  exact ex_call tk F (hr.mono hj) hg hm hk hb ha hdb he hpl
theorem ex_c0 {P : Program} {w : World} {K : PySem.W.Frag} {mg : Str → Option Value} {base : Heap} {A : Around} {j k : Nat} {ps : List Str} {mf : FM} {x : Str} (c : Cal P w K mg base x j ps mf) (tk : Takes X W) (hr : Room k A) (hj : j ≤ k)
    (h1 : X.prog = P := by rfl) (h2 : X.w = w := by rfl) (h3 : X.K = K := by rfl) (h4 : X.mg = mg := by rfl) (h5 : X.base = base := by rfl) (h6 : X.A = A := by rfl) (hg : Gl X x := by rfl) (hdb : (x == ("__debug__" : Str)) = false := by decide) : Ex X W (.Call (.Name x p) [] [] pos) (eCall ps.length mf aNil) := by
  subst h1 h2 h3 h4 h5 h6
  obtain ⟨f, fd, F, hm, hk, hb, _⟩ := c.ex
  exact ex_call0 tk F (hr.mono hj) hg hm hk hb hdb
/-- in a comprehension nothing is let out -/
theorem tk0 : Takes X (fun _ _ _ _ => False) := takes0
end
/-- a def of the text -/
abbrev FnP (K : PySem.W.Frag) (x : Str) (st : Stmt) (f : Addr) (fd : FuncData) : Prop := FunD K x x (defArgs st) (defBody st) (defScope st) [] [] f fd
section
variable {P : Program} {w : World} {K : PySem.W.Frag} {mg : Str → Option Value} {base : Heap}
theorem cal_mk {x : Str} {st : Stmt} {f : Addr} {fd : FuncData} {N ps : List Str} {k : Nat} {fb : SM} (F : FnP K x st f fd) (S : FnScope N ps (defScope st)) (gx : mg x = some (.ref f))
    (bn : ∀ (kV doc pm : Value) (an : Option Addr) (cdv ct : Value) (us : List Value), us.length = ps.length → bindArgs (PySem.W.fnOf x x (defArgs st) (defBody st) (defScope st) .none kV doc pm an cdv ct) ⟨us, []⟩ = pure (ps.zip us))
    (hb : ∀ (cdv : Value) (A : Around) (outer : List Env) (s : Shared) (H : Hp) (E : XK), Room k (A.deeper (envOfC x (defScope st) s.heap.objs.size f cdv)) → Takes (cxOf (L2.CX P w) P w K mg base N x (defScope st) f cdv A outer s H E) (fun c d _ H => E c d H) →
      PassesOwn (model P w) (A.deeper (envOfC x (defScope st) s.heap.objs.size f cdv)) (envOfC x (defScope st) s.heap.objs.size f cdv) (cxOf (L2.CX P w) P w K mg base N x (defScope st) f cdv A outer s H E).xe →
      Sxs (cxOf (L2.CX P w) P w K mg base N x (defScope st) f cdv A outer s H E) (fun c d _ H => E c d H) (defBody st) fb) : Cal P w K mg base x (k + 1) ps (runB N.length fb) :=
  ⟨f, fd, fn_def F S hb, gx, F.kp, F.bindsN bn, let ⟨oc, od, _, _, _, _, _, _, _, osl, e, lk, _⟩ := F.ex; ⟨oc, od, osl, e ▸ lk⟩⟩
end
/-! ### what the built-in names hold -/
theorem bt_len : bootBuiltins "len" = some (.builtin "len") := by decide +kernel
theorem bt_abs : bootBuiltins "abs" = some (.builtin "abs") := by decide +kernel
theorem bt_isinstance : bootBuiltins "isinstance" = some (.builtin "isinstance") := by decide +kernel
theorem bt_min : bootBuiltins "min" = some (.builtin "min") := by decide +kernel
theorem bt_max : bootBuiltins "max" = some (.builtin "max") := by decide +kernel
theorem bt_sum : bootBuiltins "sum" = some (.builtin "sum") := by decide +kernel
theorem bt_all : bootBuiltins "all" = some (.builtin "all") := by decide +kernel
theorem bt_any : bootBuiltins "any" = some (.builtin "any") := by decide +kernel
theorem bt_sorted : bootBuiltins "sorted" = some (.builtin "sorted") := by decide +kernel
theorem bt_int : bootBuiltins "int" = some (.type "int") := by decide +kernel
theorem bt_bool : bootBuiltins "bool" = some (.type "bool") := by decide +kernel
theorem bt_str : bootBuiltins "str" = some (.type "str") := by decide +kernel
theorem bt_tuple : bootBuiltins "tuple" = some (.type "tuple") := by decide +kernel
theorem bt_list : bootBuiltins "list" = some (.type "list") := by decide +kernel
end HM

/-! HM, part 9: what the top leaves. -/
namespace HM
open PySem PySem.Spec PyProof.Rows L2
mutual
def conB (K : PySem.W.Frag) : D → Value → Bool
  | .non, .none => true
  | .bl a, .bool b => a == b
  | .int i, .int j _ => decide (i = j)
  | .str x, .str y _ => decide (y.cps.toList = x)
  | .tup ds, .ref a => match K.lookup a with
    | some ⟨.type c, _, .seq its _, _⟩ => decide (c = "tuple") && (decide (its.size ≤ sizeLine) && conAll K ds its.toList)
    | _ => false
  | _, _ => false
def conAll (K : PySem.W.Frag) : List D → List Value → Bool
  | [], [] => true
  | d :: ds, u :: us => conB K d u && conAll K ds us
  | _, _ => false
end
mutual
theorem conB_ok {K : PySem.W.Frag} : ∀ (d : D) (u : Value), conB K d u = true → ∃ v, RelV v u ∧ ∀ m H, RD K m H d v
  | .non, u, h => by
    cases u <;> simp [conB] at h
    exact ⟨.non, rfl, fun _ _ => .non⟩
  | .bl a, u, h => by
    cases u <;> simp [conB] at h
    subst h
    exact ⟨.bl _, rfl, fun _ _ => .bl _⟩
  | .int i, u, h => by
    cases u <;> simp [conB] at h
    subst h
    exact ⟨.int _, ⟨_, rfl⟩, fun _ _ => .int _⟩
  | .str x, u, h => by
    cases u <;> simp [conB] at h
    rename_i y t
    subst h
    refine ⟨.str y, ⟨_, rfl⟩, fun _ _ => ?_⟩
    have e : (⟨y.cps.toList.toArray⟩ : PySem.Str) = y := by simp
    have z := RD.str (K := K) (m := ‹_›) (H := ‹_›) y.cps.toList
    rw [e] at z
    exact z
  | .tup ds, u, h => by
    cases u with
    | ref a =>
      have h1 : (match K.lookup a with
        | some ⟨.type c, _, .seq its _, _⟩ => decide (c = "tuple") && (decide (its.size ≤ sizeLine) && conAll K ds its.toList)
        | _ => false) = true := by
        simpa only [conB] using h
      split at h1
      · rename_i c od its n osl e
        simp only [Bool.and_eq_true, decide_eq_true_eq] at h1
        obtain ⟨h2, h3, h4⟩ := h1
        subst h2
        obtain ⟨vs, r, q⟩ := conAll_ok ds its.toList h4
        exact ⟨.ref a, rfl, fun m H => .tup (.inr ⟨_, its, n, e, rfl, rfl, h3, r⟩) (q m H)⟩
      · cases h1
    | _ => simp [conB] at h
  | .ref _, u, h => by simp [conB] at h
  | .ty _, u, h => by simp [conB] at h
  | .adr _, u, h => by simp [conB] at h
  | .rol _, u, h => by simp [conB] at h
theorem conAll_ok {K : PySem.W.Frag} : ∀ (ds : List D) (us : List Value), conAll K ds us = true → ∃ vs, Vals vs us ∧ ∀ m H, RDs K m H ds vs
  | [], [], _ => ⟨[], .nil, fun _ _ => .nil⟩
  | [], _ :: _, h => by simp [conAll] at h
  | _ :: _, [], h => by simp [conAll] at h
  | d :: ds, u :: us, h => by
    simp only [conAll, Bool.and_eq_true] at h
    obtain ⟨v, r1, q1⟩ := conB_ok d u h.1
    obtain ⟨vs, r2, q2⟩ := conAll_ok ds us h.2
    exact ⟨v :: vs, .cons r1 r2, fun m H => .cons (q1 m H) (q2 m H)⟩
end
/-- a module's name holds a constant -/
structure Con (K : PySem.W.Frag) (mg : Str → Option Value) (x : Str) (d : D) : Prop where
  ex : ∃ u v, mg x = some u ∧ RelV v u ∧ ∀ m H, RD K m H d v
theorem ex_con {X : Cx} {W : WX} {x : Str} {d : D} {pos : Pos} (c : Con X.K X.mg x d) (hg : Gl X x := by rfl) (hd : (x == ("__debug__" : Str)) = false := by decide) : Ex X W (.Name x pos) (eC d) := by
  obtain ⟨u, v, hm, r, rd⟩ := c.ex
  exact ex_glob hg hm r rd hd
/-- further facts of the top -/
inductive Fx where
  /-- a built-in function by a name of the module's -/
  | blt (x : Str) (id : String)
  /-- a constant -/
  | con (x : Str) (d : D)
def Fx.ok (K : PySem.W.Frag) : Fx → Bool
  | .blt x id => (match PySem.W.nsIn K mainGlobals x with
    | some (some (.builtin j)) => decide (j = id)
    | _ => false)
  | .con x d => (match PySem.W.nsIn K mainGlobals x with
    | some (some u) => conB K d u
    | _ => false)
section
variable {K : PySem.W.Frag} {h : Heap} {mg : Str → Option Value}
theorem blt_ok (X : K.In h) (G : h.Ns mainGlobals mg) {x : Str} {id : String} (c : (Fx.blt x id).ok K = true) : mg x = some (.builtin id) := by
  have c : (match PySem.W.nsIn K mainGlobals x with
    | some (some (.builtin j)) => decide (j = id)
    | _ => false) = true := c
  split at c
  · rename_i j e
    rw [PySem.W.mg_of X G e, of_decide_eq_true c]
  · cases c
theorem con_ok (X : K.In h) (G : h.Ns mainGlobals mg) {x : Str} {d : D} (c : (Fx.con x d).ok K = true) : Con K mg x d := by
  have c : (match PySem.W.nsIn K mainGlobals x with
    | some (some u) => conB K d u
    | _ => false) = true := c
  split at c
  · rename_i u e
    obtain ⟨v, r, q⟩ := conB_ok d u c
    exact ⟨u, v, PySem.W.mg_of X G e, r, q⟩
  · cases c
end
/-! ### the Hook -/
def obsM (fa : List He.Fa) (fx : List Fx) (fn : List He.DefD) (K : PySem.W.Frag) : He.AlD := (((fa.all fun f => f.ok K) && fx.all fun f => f.ok K) && fn.all fun d => d.ok K, fn.map fun d => He.fnW K d.at_)
def SaysM (fa : List He.Fa) (fx : List Fx) (fn : List He.DefD) (K : PySem.W.Frag) : Prop := obsM fa fx fn K = He.valD fn
def obsMG (n : Nat) (fa : List He.Fa) (fx : List Fx) (fn : List He.DefD) (g : Addr → Option Obj) : He.AlD := obsM fa fx fn (He.frG g (He.asD g n))
def hookM (n : Nat) (fa : List He.Fa) (fx : List Fx) (fn : List He.DefD) : PySem.W.Hook where
  α := He.AlD
  obs := fun s => obsMG n fa fx fn s.heap.get?
  val := fun _ => He.valD fn
  says := fun _ h => ∃ K : PySem.W.Frag, K.In h ∧ SaysM fa fx fn K
  of := fun _ _ e => ⟨_, He.frG_in, e⟩
  keeps := fun _ _ _ ⟨K, hK, c⟩ k => ⟨K, PySem.W.Frag.In.keeps hK k, c⟩
theorem obsMG_eq {n : Nat} {fa : List He.Fa} {fx : List Fx} {fn : List He.DefD} {g : Addr → Option Obj} {s : Shared} (h : ∀ a, g a = s.heap.get? a) : obsMG n fa fx fn g = (hookM n fa fx fn).obs s := by
  have e : g = s.heap.get? := funext h
  rw [e] <;> rfl
section
variable {fa : List He.Fa} {fx : List Fx} {fn : List He.DefD} {K : PySem.W.Frag}
theorem SaysM.fact (c : SaysM fa fx fn K) (i : Nat) {f : He.Fa} (h : fa[i]? = some f := by rfl) : f.ok K = true := by
  have c1 := (He.ba (He.ba (show (((fa.all fun f => f.ok K) && fx.all fun f => f.ok K) && fn.all fun d => d.ok K) = true from congrArg (fun z : He.AlD => z.1) c)).1).1
  exact List.all_eq_true.mp c1 f (List.mem_of_getElem? h)
theorem SaysM.more (c : SaysM fa fx fn K) (i : Nat) {f : Fx} (h : fx[i]? = some f := by rfl) : f.ok K = true := by
  have c1 := (He.ba (He.ba (show (((fa.all fun f => f.ok K) && fx.all fun f => f.ok K) && fn.all fun d => d.ok K) = true from congrArg (fun z : He.AlD => z.1) c)).1).2
  exact List.all_eq_true.mp c1 f (List.mem_of_getElem? h)
theorem SaysM.def_ (c : SaysM fa fx fn K) (i : Nat) {d : He.DefD} (h : fn[i]? = some d := by rfl) : ∃ fd, FunD K d.name d.qual d.params d.body d.scope (d.dvs K) (d.kws K) (He.fAd K d.at_) fd := by
  have c2 := (He.ba (show (((fa.all fun f => f.ok K) && fx.all fun f => f.ok K) && fn.all fun d => d.ok K) = true from congrArg (fun z : He.AlD => z.1) c)).2
  have e : fn.map (fun d => He.fnW K d.at_) = fn.map He.DefD.val := congrArg (fun z : He.AlD => z.2) c
  have e2 : (fn.map fun d => He.fnW K d.at_)[i]? = (fn.map He.DefD.val)[i]? := by rw [e]
  rw [List.getElem?_map, List.getElem?_map, h] at e2
  exact He.DefD.funD (Option.some.inj e2) (List.all_eq_true.mp c2 d (List.mem_of_getElem? h))
end
/-! ### the law's end -/
/-- where nothing may be let out -/
theorem FnM.shut {P : Program} {w : World} {K : PySem.W.Frag} {mg : Str → Option Value} {base : Heap} {k : Nat} {f : Addr} {fd : FuncData} {ps : List Str} {mf : FM} (F : FnM P w K mg base k f fd ps mf) :
    FnOk P w K mg base CX0 k f fd ps (fun vs H Q _ => spM K ps.length mf vs H Q fun _ _ _ => False) where
  len := fun vs H Q E h => F.len vs H Q _ h
  run := fun A outer s H args us vs Q E hr e0 hb hv h => by
    refine codeAny_mono (F.run A outer s H args us vs Q _ hr e0 hb hv h) fun r s' hq => ?_
    cases r with
    | error e =>
      obtain ⟨_, _, _, _, _, _, _, _, _, _, _, _, z⟩ := (hq : L2.CX P w outer H s (fun _ _ _ => False) e s')
      exact z.elim
    | ok fl => cases fl <;> exact hq
end HM

/-! HM, part 10: methods of lists and texts, in, slices, sums. -/
namespace HM
open PySem PySem.Spec PyProof.Rows L2
section
variable {X : Cx} {W : WX} {e o a b c : Expr} {es : List Expr} {pos p : Pos} {f fo fa fb : EM D} {fs : EM (List D)}
theorem _root_.L2.Room.units65 {k : Nat} {A : Around} (r : Room k A) : A.units + 65 < cLine := by have := r.un; omega
theorem below_line {n : Nat} (h : n < 16777216) : n < sizeLine := by
  rw [PySem.sizeLine_eq]
  exact h
/-! ### methods -/
abbrev MM := D → FM
def MethM (X : Cx) (id : String) (g : MM) : Prop :=
  ∃ r, MtR X id r ∧ ∀ (m : List Addr) (st : Store) (H : Hp) (d : D) (v : V) (ds : List D) (vs : List V) (E : XK) (Q : VK), SS X.K m st H → RD X.K m H d v → RDs X.K m H ds vs → Pe X.K E (RD X.K) m H (g d ds st) Q → r v vs H Q
def okT (T : String) (st : Store) (d : D) : Bool := match d with
  | .str _ => decide (T = "str")
  | .rol _ => decide (T = "list")
  | .ref n => decide (T = "list") && (lstAt st n).isSome
  | _ => false
theorem okT_ty {K : PySem.W.Frag} {m : List Addr} {st : Store} {H : Hp} {d : D} {v : V} {T : String} (s : SS K m st H) (h : okT T st d = true) (r : RD K m H d v) : tyV K T v H := by
  cases r with
  | str x =>
    have q : T = "str" := of_decide_eq_true h
    exact q
  | rol q rs => exact .inl ⟨of_decide_eq_true h, _, q.sq⟩
  | ref q =>
    have h : (decide (T = "list") && (lstAt st _).isSome) = true := h
    rw [Bool.and_eq_true] at h
    obtain ⟨xs, e⟩ := Option.isSome_iff_exists.mp h.2
    obtain ⟨vs, h1, h2⟩ := s.list e q
    exact .inl ⟨of_decide_eq_true h.1, _, SqL.of h1⟩
  | _ => cases h
def eM (T : String) (g : MM) (fo : EM D) (fs : EM (List D)) : EM D := fun τ st => (fo τ st).bind fun d s1 => if okT T s1 d then (fs τ s1).bind fun ds s2 => g d ds s2 else .bad
theorem ex_m {name : Str} {apos cpos : Pos} {T id : String} {g : MM} (pa : PlainAttrs T) (slot : Slot T name id) (hty : typeOf (.builtin id) = pure (.type "method_descriptor")) (hm : MethM X id g) (ho : Ex X W o fo) (ha : Ea X W (e :: es) fs)
    (hbase : attributeBase o name X.env (eval o X.env) = eval o X.env := by rfl)
    (hfew : ((backTo cpos (starEach (e :: es) X.env)).all (fun x => !x.1) && (backToKw cpos (keywordEach [] X.env)).all (fun x => x.1.isSome)
      && decide ((e :: es).length + ([] : List Keyword).length + (if ([] : List Keyword).isEmpty then 0 else 1) < 30)) = true := by rfl)
    (hline : (apos.endLine == cpos.line) = true := by rfl) (hs : starEach (e :: es) X.env = (false, eval e X.env) :: starEach es X.env := by rfl) (hplain : (backTo cpos (starEach es X.env)).any (·.1) = false := by rfl) :
    Ex X W (.Call (.Attribute o name apos) (e :: es) [] cpos) (eM T g fo fs) := by
  obtain ⟨r, hr, h⟩ := hm
  refine ⟨fun m τ st σ H Q hL hS hP pins s I => (pe_bm pa slot hty hr peW paW hbase hfew hline hs hplain).run pins s σ H Q I ?_⟩
  refine ho.run m τ st σ H _ hL hS (hP.bind fun d s1 m1 H1 v e1 hS1 r1 hP1 => ?_)
  split at hP1
  · rename_i hk
    exact ⟨okT_ty hS1 hk r1, ha.run m1 τ s1 σ H1 _ (hL.mono e1) hS1 (hP1.bind fun ds s2 m2 H2 vs e2 hS2 r2 hP2 => h m2 s2 H2 d v ds vs _ Q hS2 (r1.mono e2) r2 hP2)⟩
  · exact hP1.elim
theorem ex_m0 {name : Str} {apos cpos : Pos} {T id : String} {g : MM} (pa : PlainAttrs T) (slot : Slot T name id) (hty : typeOf (.builtin id) = pure (.type "method_descriptor")) (hm : MethM X id g) (ho : Ex X W o fo)
    (hbase : attributeBase o name X.env (eval o X.env) = eval o X.env := by rfl) (hline : (apos.endLine == cpos.line) = true := by rfl) :
    Ex X W (.Call (.Attribute o name apos) [] [] cpos) (eM T g fo aNil) := by
  obtain ⟨r, hr, h⟩ := hm
  refine ⟨fun m τ st σ H Q hL hS hP pins s I => (pe_bm0 pa slot hty hr peW hbase hline).run pins s σ H Q I ?_⟩
  refine ho.run m τ st σ H _ hL hS (hP.bind fun d s1 m1 H1 v e1 hS1 r1 hP1 => ?_)
  split at hP1
  · rename_i hk
    exact ⟨okT_ty hS1 hk r1, h m1 s1 H1 d v [] [] _ Q hS1 r1 .nil hP1⟩
  · exact hP1.elim
def mAppend : MM := fun d ds st => match d, ds with
  | .ref n, [x] => match lstAt st n with
    | some xs => if xs.length < 16777216 then .ok .non (st.set n (.lst (xs ++ [x]))) else .bad
    | none => .bad
  | _, _ => .bad
theorem me_append : MethM X "list.append" mAppend := ⟨_, mt_append, fun m st H d v ds vs E Q hS r rs hP => by
  unfold mAppend at hP
  split at hP
  · split at hP
    · rename_i xs hx
      split at hP
      · rename_i hl
        cases r with
        | ref q =>
          obtain ⟨us, h1, h2⟩ := hS.list hx q
          obtain ⟨u, rfl, ru⟩ := rs.one
          exact ⟨_, us, u, rfl, rfl, h1, below_line (by rw [← h2.len]; exact hl), hP m _ _ (Ext.write h1 q) (hS.write h1 q (h2.append (.cons ru .nil))) .non⟩
      · exact hP.elim
    · exact hP.elim
  · exact hP.elim⟩
def mExtend : MM := fun d ds st => match d, ds with
  | .ref n, [.ref k] => match lstAt st n, lstAt st k with
    | some xs, some ys => if xs.length + ys.length ≤ 16777216 then .ok .non (st.set n (.lst (xs ++ ys))) else .bad
    | _, _ => .bad
  | _, _ => .bad
theorem me_extend : MethM X "list.extend" mExtend := ⟨_, mt_extend, fun m st H d v ds vs E Q hS r rs hP => by
  unfold mExtend at hP
  split at hP
  · split at hP
    · rename_i xs ys hx hy
      split at hP
      · rename_i hl
        obtain ⟨u, rfl, ru⟩ := rs.one
        cases r with
        | ref q =>
          cases ru with
          | ref q' =>
            obtain ⟨us, h1, h2⟩ := hS.list hx q
            obtain ⟨ws, h3, h4⟩ := hS.list hy q'
            exact ⟨_, _, us, ws, rfl, rfl, h1, h3, line_of (by rw [← h2.len, ← h4.len]; exact hl), hP m _ _ (Ext.write h1 q) (hS.write h1 q (h2.append h4)) .non⟩
      · exact hP.elim
    · exact hP.elim
  · exact hP.elim⟩
def mPop : MM := fun d ds st => match d, ds with
  | .ref n, [] => match lstAt st n with
    | some xs => match xs[xs.length - 1]? with
      | some y => .ok y (st.set n (.lst xs.dropLast))
      | none => .bad
    | none => .bad
  | _, _ => .bad
theorem me_pop : MethM X "list.pop" mPop := ⟨_, mt_pop, fun m st H d v ds vs E Q hS r rs hP => by
  unfold mPop at hP
  split at hP
  · split at hP
    · rename_i xs hx
      split at hP
      · rename_i y hy
        cases r with
        | ref q =>
          obtain ⟨us, h1, h2⟩ := hS.list hx q
          cases rs
          rw [h2.len] at hy
          obtain ⟨u, hu, ru⟩ := h2.get hy
          have e := Ext.write (K := X.K) (o := .lst us.dropLast) h1 q
          exact ⟨_, us, u, rfl, rfl, h1, hu, hP m _ _ e (hS.write h1 q h2.dropLast) (ru.mono e)⟩
      · exact hP.elim
    · exact hP.elim
  · exact hP.elim⟩
def okIx (i : Int) : Bool := decide (i.natAbs < 9223372036854775808)
theorem okIx_ok {i : Int} (h : okIx i = true) : -(2 ^ 63) ≤ i ∧ i < 2 ^ 63 := by
  have q : i.natAbs < 9223372036854775808 := of_decide_eq_true h
  have q' : -9223372036854775808 ≤ i ∧ i < 9223372036854775808 := by omega
  exact q'
def mPopAt : MM := fun d ds st => match d, ds with
  | .ref n, [.int i] => match lstAt st n with
    | some xs => match seqIndex? i xs.length with
      | some k => match xs[k]? with
        | some y => if okIx i then .ok y (st.set n (.lst (xs.eraseIdx k))) else .bad
        | none => .bad
      | none => .bad
    | none => .bad
  | _, _ => .bad
theorem me_popAt : MethM X "list.pop" mPopAt := ⟨_, mt_popAt, fun m st H d v ds vs E Q hS r rs hP => by
  unfold mPopAt at hP
  split at hP
  · split at hP
    · rename_i xs hx
      split at hP
      · rename_i k hk
        split at hP
        · rename_i y hy
          split at hP
          · rename_i hi
            obtain ⟨w, rfl, rw'⟩ := rs.one
            cases rw'
            cases r with
            | ref q =>
              obtain ⟨us, h1, h2⟩ := hS.list hx q
              obtain ⟨u, hu, ru⟩ := h2.get hy
              have e := Ext.write (K := X.K) (o := .lst (us.eraseIdx k)) h1 q
              exact ⟨_, us, _, k, u, rfl, rfl, h1, (okIx_ok hi).1, (okIx_ok hi).2, by rw [← h2.len]; exact hk, hu, hP m _ _ e (hS.write h1 q (h2.erase k)) (ru.mono e)⟩
          · exact hP.elim
        · exact hP.elim
      · exact hP.elim
    · exact hP.elim
  · exact hP.elim⟩
def mInsert : MM := fun d ds st => match d, ds with
  | .ref n, [.int i, y] => match lstAt st n with
    | some xs => if decide (0 ≤ i) && okIx i && decide (xs.length < 16777216) then .ok .non (st.set n (.lst (xs.take i.toNat ++ [y] ++ xs.drop i.toNat))) else .bad
    | none => .bad
  | _, _ => .bad
theorem me_insert : MethM X "list.insert" mInsert := ⟨_, mt_insert, fun m st H d v ds vs E Q hS r rs hP => by
  unfold mInsert at hP
  split at hP
  · split at hP
    · rename_i xs hx
      split at hP
      · rename_i hc
        simp only [Bool.and_eq_true, decide_eq_true_eq] at hc
        obtain ⟨w, u, rfl, rw', ru⟩ := rs.two
        cases rw'
        cases r with
        | ref q =>
          obtain ⟨us, h1, h2⟩ := hS.list hx q
          exact ⟨_, us, _, u, rfl, rfl, h1, below_line (by rw [← h2.len]; exact hc.2), hc.1.1, (okIx_ok hc.1.2).2, hP m _ _ (Ext.write h1 q) (hS.write h1 q (((h2.take _).append (.cons ru .nil)).append (h2.drop _))) .non⟩
      · exact hP.elim
    · exact hP.elim
  · exact hP.elim⟩
/-! ### in -/
def D.flat : D → Bool
  | .non => true
  | .bl _ => true
  | .int _ => true
  | .str _ => true
  | _ => false
def eqF : D → D → Bool
  | .non, .non => true
  | .bl a, .bl b => a == b
  | .bl a, .int b => (if a then 1 else 0) == b
  | .int a, .bl b => a == (if b then 1 else 0)
  | .int a, .int b => decide (a = b)
  | .str a, .str b => decide (a = b)
  | _, _ => false
theorem flat_V {K : PySem.W.Frag} {m : List Addr} {H : Hp} {d : D} {v : V} (r : RD K m H d v) (h : d.flat = true) : flatV v = true := by
  cases r <;> first | rfl | cases h
theorem flats_V {K : PySem.W.Frag} {m : List Addr} {H : Hp} : ∀ {ds : List D} {vs : List V}, RDs K m H ds vs → ds.all D.flat = true → vs.all flatV = true
  | [], _, .nil, _ => rfl
  | d :: ds, _, .cons r rs, h => by
    rw [List.all_cons, Bool.and_eq_true] at h ⊢
    exact ⟨flat_V r h.1, flats_V rs h.2⟩
theorem eqF_V {K : PySem.W.Frag} {m : List Addr} {H : Hp} {d e : D} {v u : V} (r : RD K m H d v) (r' : RD K m H e u) (h : d.flat = true) (h' : e.flat = true) : eqV v u = eqF d e := by
  cases r with
  | non => cases r' <;> first | rfl | cases h'
  | bl b => cases r' <;> first | rfl | cases h'
  | int i =>
    cases r' with
    | int j =>
      show (i == j) = decide (i = j)
      rw [Bool.eq_iff_iff]
      simp
    | _ => first | rfl | cases h'
  | str x =>
    cases r' with
    | str y =>
      show ((⟨x.toArray⟩ : Str) == (⟨y.toArray⟩ : Str)) = decide (x = y)
      rw [Bool.eq_iff_iff]
      simp
    | _ => first | rfl | cases h'
  | _ => cases h
theorem inV_D {K : PySem.W.Frag} {m : List Addr} {H : Hp} {d : D} {v : V} (r : RD K m H d v) (h : d.flat = true) : ∀ {ds : List D} {vs : List V}, RDs K m H ds vs → ds.all D.flat = true → inV v vs = ds.any fun y => eqF y d
  | [], _, .nil, _ => rfl
  | e :: ds, _, .cons r' rs, h' => by
    rw [List.all_cons, Bool.and_eq_true] at h'
    have := inV_D r h rs h'.2
    unfold inV at this ⊢
    rw [List.any_cons, List.any_cons, this, eqF_V r' r h'.1 h]
def rInT (K : PySem.W.Frag) (neg : Bool) : R2 := fun x y H Q => ∃ d ds, Dp K H x d ∧ Dp K H y (.tuple ds) ∧ SeqAt.shaped d = true ∧ SeqAt.shaped (.tuple ds) = true ∧ Q (.bl (if neg then !(ds.any fun z => PyData.eqv z d) else ds.any fun z => PyData.eqv z d)) H
theorem op_inT (hu : X.A.units + 65 < cLine) : OpR X (compareOp .In) (rInT X.K false) := by
  intro pins s σ H x y v u Q I rx ry h
  obtain ⟨d, ds, hd, he, sd, se, q⟩ := h
  obtain ⟨as, r1⟩ := Dp.reads I d x v hd rx
  obtain ⟨bs, r2⟩ := Dp.reads I (.tuple ds) y u he ry
  exact SeqAt.in_tuple_reads r2 r1 (SeqAt.canLay_of_shaped se) (SeqAt.canLay_of_shaped sd) (room_in_shaped sd hu) ⟨.bl _, H, I, rfl, q⟩
theorem op_notInT (hu : X.A.units + 65 < cLine) : OpR X (compareOp .NotIn) (rInT X.K true) := by
  intro pins s σ H x y v u Q I rx ry h
  obtain ⟨d, ds, hd, he, sd, se, q⟩ := h
  obtain ⟨as, r1⟩ := Dp.reads I d x v hd rx
  obtain ⟨bs, r2⟩ := Dp.reads I (.tuple ds) y u he ry
  exact SeqAt.notIn_tuple_reads r2 r1 (SeqAt.canLay_of_shaped se) (SeqAt.canLay_of_shaped sd) (room_in_shaped sd hu) ⟨.bl _, H, I, rfl, q⟩
/-- is it among flat ones, one sign in a text, among data of any depth -/
def dIn (x y : D) (st : Store) : Option Bool := match x, y with
  | .str [c], .str z => some (decide (c ∈ z))
  | x, y => match dSeq st y with
    | some ys => if x.flat && ys.all D.flat then some (ys.any fun y => eqF y x) else if x.plain 59 && ys.all (D.plain 59) then some (decide (x ∈ ys)) else none
    | none => none
def oIn : O2 := fun x y st => match dIn x y st with
  | some b => .ok (.bl b) st
  | none => .bad
def oNotIn : O2 := fun x y st => match dIn x y st with
  | some b => .ok (.bl !b) st
  | none => .bad
theorem any_plain {n : Nat} {x : D} (hx : x.plain n = true) : ∀ {ys : List D}, ys.all (D.plain n) = true → ((ys.map (D.toP n)).any fun z => PyData.eqv z (x.toP n)) = decide (x ∈ ys)
  | [], _ => by simp
  | y :: ys, h => by
    rw [List.all_cons, Bool.and_eq_true] at h
    rw [List.map_cons, List.any_cons, any_plain hx h.2, eqv_plain n y x h.1 hx]
    simp [List.mem_cons, eq_comm]
theorem m_inB {op : CmpOp} {neg : Bool} {r1 r2 r3 r4 : R2} (h1 : OpR X (compareOp op) r1) (h2 : OpR X (compareOp op) r2) (h3 : OpR X (compareOp op) r3) (h4 : OpR X (compareOp op) r4)
    (s1 : ∀ (c : Nat) (z : Str) H Q, Q (.bl (if neg then !decide (c ∈ z.cps.toList) else decide (c ∈ z.cps.toList))) H → r1 (.str ⟨#[c]⟩) (.str z) H Q)
    (s2 : ∀ x y H Q, rIn X.K neg x y H Q → r2 x y H Q)
    (s3 : ∀ x y H Q d ds, Dp X.K H x d → Dp X.K H y (.list ds) → SeqAt.shaped d = true → SeqAt.shaped (.list ds) = true → Q (.bl (if neg then !(ds.any fun z => PyData.eqv z d) else ds.any fun z => PyData.eqv z d)) H → r3 x y H Q)
    (s4 : ∀ x y H Q d ds, Dp X.K H x d → Dp X.K H y (.tuple ds) → SeqAt.shaped d = true → SeqAt.shaped (.tuple ds) = true → Q (.bl (if neg then !(ds.any fun z => PyData.eqv z d) else ds.any fun z => PyData.eqv z d)) H → r4 x y H Q) :
    OpM X W (compareOp op) (fun x y st => match dIn x y st with
    | some b => .ok (.bl (if neg then !b else b)) st
    | none => .bad) := opm_of ((h1.or h2).or (h3.or h4)) fun m st H dx dy x y E Q hS ra rb hP => by
  have fin : ∀ {q : PyData}, q.canLay0 = true → q.depth ≤ 60 → SeqAt.shaped q = true := fun {q} h1 h2 => by
    unfold SeqAt.shaped
    rw [h1, Bool.true_and, decide_eq_true_eq]
    omega
  split at hP
  · rename_i b hb
    unfold dIn at hb
    split at hb
    · cases hb
      cases ra
      cases rb
      exact .inl (.inl (s1 _ _ _ _ (hP.now hS (.bl _))))
    · split at hb
      · rename_i ys hy
        split at hb
        · rename_i hf
          cases hb
          rw [Bool.and_eq_true] at hf
          obtain ⟨p, vs, rfl, q, rs⟩ := dSeq_read hS hy rb
          refine .inl (.inr (s2 _ _ _ _ ⟨p, vs, rfl, q, flat_V ra hf.1, flats_V rs hf.2, ?_⟩))
          rw [inV_D ra hf.1 rs hf.2]
          exact hP.now hS (.bl _)
        · split at hb
          · rename_i hf
            cases hb
            rw [Bool.and_eq_true] at hf
            obtain ⟨p, vs, rfl, q, rs⟩ := dSeq_read hS hy rb
            obtain ⟨a1, a2, a3⟩ := plain_dp 59 dx x hf.1 ra
            obtain ⟨b1, b2, b3⟩ := plain_all (plain_dp 59) ys vs hf.2 rs
            have e := any_plain hf.1 hf.2
            rcases q with q | q
            · refine .inr (.inl (s3 _ _ _ _ _ _ a1 (.lst q b1) (fin a2 (by omega)) (fin (by simpa only [PyData.canLay0] using b2) (by simp only [PyData.depth]; omega)) ?_))
              rw [e]
              exact hP.now hS (.bl _)
            · refine .inr (.inr (s4 _ _ _ _ _ _ a1 (.tup q b1) (fin a2 (by omega)) (fin (by simpa only [PyData.canLay0] using b2) (by simp only [PyData.depth]; omega)) ?_))
              rw [e]
              exact hP.now hS (.bl _)
          · cases hb
      · cases hb
  · exact hP.elim
theorem m_in (hu : X.A.units + 65 < cLine) : OpM X W (compareOp .In) oIn := m_inB (neg := false) op_in_sign op_in_seq (op_inD hu) (op_inT hu)
  (fun c z H Q h => ⟨c, z, rfl, rfl, h⟩) (fun x y H Q h => h) (fun x y H Q d ds h1 h2 h3 h4 q => ⟨d, ds, h1, h2, h3, h4, q⟩) (fun x y H Q d ds h1 h2 h3 h4 q => ⟨d, ds, h1, h2, h3, h4, q⟩)
theorem m_notin (hu : X.A.units + 65 < cLine) : OpM X W (compareOp .NotIn) oNotIn := m_inB (neg := true) op_notIn_sign op_notIn_seq (op_notInD hu) (op_notInT hu)
  (fun c z H Q h => ⟨c, z, rfl, rfl, h⟩) (fun x y H Q h => h) (fun x y H Q d ds h1 h2 h3 h4 q => ⟨d, ds, h1, h2, h3, h4, q⟩) (fun x y H Q d ds h1 h2 h3 h4 q => ⟨d, ds, h1, h2, h3, h4, q⟩)
end
end HM

/-! HM, part 11: slices, sums, all and any, join, texts repeated, lcm. -/
namespace HM
open PySem PySem.Spec PyProof.Rows L2
section
variable {prog : Program} {w : World} {A : Around} {E : Value → Shared → Prop} {s : Shared}
theorem get_whole {t sl : Addr} {items : Array Value} {vl vu : Value} {lo hi : Option Int} {Q : Value → Shared → Prop} (ht : IsTup s.heap t items) (hs : s.heap.IsSliceOf sl vl vu .none) (pl : IsPart vl lo) (pu : IsPart vu hi)
    (h1 : HT.sIx items.size 0 lo = 0) (h2 : HT.sIx items.size items.size hi = items.size) (q : Q (.ref t) s) : wpAny (model prog w) A (getItem (.ref t) (.ref sl)) Q E s := by
  obtain ⟨ob, o1, o2, o3⟩ := id hs
  unfold getItem
  try with_reducible refine wpAny_holding ?_
  try refine wpAny_bind (wpAny_pure ?_)
  refine wpAny_bind (wpAny_sequenceKey ht.typeIs (by decide) ?_)
  refine wpAny_bind (wpAny_callSpecial?_slot (name := Str.ofString "__getitem__") ht.typeIs PyProof.Rows.slot_tuple_getitem (wpAny_call_entry PyProof.Rows.slot_tuple_getitem ht.typeIs entry_tuple_getitem ?_ (args_tuple_getitem _ _)))
  show wpAny _ _ (Builtin.Tuple.tupleItemsOf (.ref t) >>= _) _ _ s
  refine wpAny_bind (tupleItemsOf_ ht (wpAny_bind (wpAny_typeOf (T := "slice") ⟨ob, o1, o2⟩ ?_)))
  rw [if_pos (by decide)]
  refine wpAny_bind (HT.sliceApplied_gen hs pl pu ?_)
  have yes : (((HT.sIx items.size 0 lo : Nat) : Int) == 0 && (1 : Int) == 1 && (HT.sIx items.size items.size hi - HT.sIx items.size 0 lo) == items.size) = true := by
    rw [h1, h2]
    simp
  show wpAny _ _ (if (((HT.sIx items.size 0 lo : Nat) : Int) == 0 && (1 : Int) == 1 && (HT.sIx items.size items.size hi - HT.sIx items.size 0 lo) == items.size) = true then _ else _) _ _ s
  rw [if_pos yes]
  unfold Builtin.Tuple.tupleIsExact
  refine wpAny_bind (wpAny_bind (wpAny_typeOf ht.typeIs ?_))
  refine wpAny_pure ?_
  rw [if_pos (by decide)]
  first
    | exact wpAny_pure ⟨_, rfl, wpAny_pure q⟩
    | exact wpAny_bind (wpAny_rule (wpAny_pure ⟨_, rfl, wpAny_pure q⟩))
end
section
variable {X : Cx}
/-- the whole of a tuple is the tuple -/
def rSlW (K : PySem.W.Frag) : V → Option Int → Option Int → Hp → VK → Prop := fun x lo hi H Q => ∃ a xs, x = .ref a ∧ SqT K H a xs ∧ HT.sIx xs.length 0 lo = 0 ∧ HT.sIx xs.length xs.length hi = xs.length ∧ Q (.ref a) H
theorem sl_whole : SlR X (rSlW X.K) := by
  intro pins s σ H x v vl vu lo hi sl Q I rx hs pl pu h
  obtain ⟨a, xs, rfl, hx, h1, h2, q⟩ := h
  cases rx
  obtain ⟨its, r, ht, hz⟩ := I.tuple hx
  have e : its.toArray.size = xs.length := by rw [List.size_toArray, ← r.length]
  exact ⟨"tuple", _, PyProof.Rows.slot_tuple_getitem.lookup, ht.typeIs, get_whole ht hs pl pu (by rw [e]; exact h1) (by rw [e]; exact h2) ⟨.ref a, H, I, rfl, q⟩⟩
end
section
variable {X : Cx} {W : WX} {e o a b c : Expr} {es : List Expr} {pos p p2 : Pos} {f fo fa fb : EM D} {fs : EM (List D)}
/-! ### slices -/
def cutD {α : Type} (xs : List α) (lo hi : Option Int) : List α := (xs.drop (HT.sIx xs.length 0 lo)).take (HT.sIx xs.length xs.length hi - HT.sIx xs.length 0 lo)
theorem RDs.cut {K : PySem.W.Frag} {m : List Addr} {H : Hp} {ds : List D} {vs : List V} (r : RDs K m H ds vs) (lo hi : Option Int) : RDs K m H (cutD ds lo hi) (cutV vs lo hi) := by
  unfold cutD cutV
  rw [r.len]
  exact (r.drop _).take _
/-- a part of a slice -/
structure Eo (X : Cx) (W : WX) (e : Option Expr) (f : EM (Option Int)) : Prop where
  run : ∃ t : TO, PO X e t ∧ ∀ (m : List Addr) (τ : Sl) (st : Store) (σ : L2.St) (H : Hp) (Q : Option Int → Hp → Prop), SL X.K m H τ σ → SS X.K m st H → Pe X.K (fun c d H' => W c d σ H') (fun _ _ a b => a = b) m H (f τ st) Q → t σ H Q
def oNone : EM (Option Int) := fun _ st => .ok none st
def oSome (f : EM D) : EM (Option Int) := fun τ st => (f τ st).bind fun d s1 => match d with
  | .int i => .ok (some i) s1
  | _ => .bad
theorem eo_none : Eo X W none oNone := ⟨_, po_none, fun m τ st σ H Q hL hS hP => hP.now hS rfl⟩
theorem eo_some (h : Ex X W e f) : Eo X W (some e) (oSome f) := ⟨_, po_some peW, fun m τ st σ H Q hL hS hP => h.run m τ st σ H _ hL hS (hP.bind fun d s1 m1 H1 v e1 hS1 r1 hP1 => by
  split at hP1
  · cases r1
    exact ⟨_, rfl, hP1.now hS1 rfl⟩
  · exact hP1.elim)⟩
def dCut (d : D) (lo hi : Option Int) (st : Store) : ER D := match d with
  | .str z => if z.length ≤ 16777216 then .ok (.str (cutD z lo hi)) st else .bad
  | .tup xs => .ok (.tup (cutD xs lo hi)) st
  | .rol xs => .ok (.ref st.length) (st ++ [.lst (cutD xs lo hi)])
  | .ref n => match lstAt st n with
    | some xs => .ok (.ref st.length) (st ++ [.lst (cutD xs lo hi)])
    | none => .bad
  | _ => .bad
def eSl (f : EM D) (fl fh : EM (Option Int)) : EM D := fun τ st => (f τ st).bind fun d s1 => (fl τ s1).bind fun l s2 => (fh τ s2).bind fun h s3 => dCut d l h s3
theorem sl_all : SlR X (fun x lo hi H Q => rSlL X.K x lo hi H Q ∨ (rSlT X.K x lo hi H Q ∨ rSlW X.K x lo hi H Q) ∨ rSlS x lo hi H Q) := sl_list.or ((sl_tup.or sl_whole).or sl_str)
theorem cutS_D (z : List Nat) (lo hi : Option Int) : cutS ⟨z.toArray⟩ lo hi = ⟨(cutD z lo hi).toArray⟩ := by
  unfold cutS cutD
  simp [PySem.Str.length]
theorem ex_sl {lo hi : Option Expr} {fl fh : EM (Option Int)} (he : Ex X W e f) (hl : Eo X W lo fl) (hh : Eo X W hi fh) : Ex X W (.Subscript e (.Slice lo hi none p2) pos) (eSl f fl fh) := by
  obtain ⟨tl, pl, hl⟩ := hl
  obtain ⟨th, ph, hh⟩ := hh
  refine ⟨fun m τ st σ H Q hL hS hP pins s I => (pe_slice sl_all peW pl ph).run pins s σ H Q I ?_⟩
  refine he.run m τ st σ H _ hL hS (hP.bind fun d s1 m1 H1 v e1 hS1 r1 hP1 => ?_)
  refine hl m1 τ s1 σ H1 _ (hL.mono e1) hS1 (hP1.bind fun l s2 m2 H2 l' e2 hS2 r2 hP2 => ?_)
  subst r2
  refine hh m2 τ s2 σ H2 _ ((hL.mono e1).mono e2) hS2 (hP2.bind fun h s3 m3 H3 h' e3 hS3 r3 hP3 => ?_)
  subst r3
  have r1 := (r1.mono e2).mono e3
  unfold dCut at hP3
  split at hP3
  · split at hP3
    · rename_i hz
      cases r1
      refine .inr (.inr ⟨_, rfl, line_of (by simpa [PySem.Str.length] using hz), ?_⟩)
      rw [cutS_D]
      exact hP3.now hS3 (.str _)
    · exact hP3.elim
  · rename_i ds _
    cases r1 with
    | @tup a vs _ q rs =>
      by_cases hw : HT.sIx vs.length 0 l = 0 ∧ HT.sIx vs.length vs.length h = vs.length
      · refine .inr (.inl (.inr ⟨_, _, rfl, q, hw.1, hw.2, hP3.now hS3 ?_⟩))
        have e : cutD ds l h = ds := by
          unfold cutD
          rw [rs.len, hw.1, hw.2, List.drop_zero, Nat.sub_zero, ← rs.len]
          exact List.take_length
        rw [e]
        exact .tup q rs
      · exact .inr (.inl (.inl ⟨_, _, rfl, q, hw, hP3.tup hS3 (rs.cut _ _)⟩))
  · cases r1 with
    | rol q rs => exact .inl ⟨_, _, rfl, q.sq, hP3.lst hS3 (rs.cut _ _)⟩
  · split at hP3
    · rename_i xs hx
      cases r1 with
      | ref q =>
        obtain ⟨vs, h1, h2⟩ := hS3.list hx q
        exact .inl ⟨_, vs, rfl, SqL.of h1, hP3.lst hS3 (h2.cut _ _)⟩
    · exact hP3.elim
  · exact hP3.elim
/-! ### sums -/
def intsD : List D → Option (List Int)
  | [] => some []
  | .int i :: ds => (intsD ds).map (i :: ·)
  | _ => none
theorem intsD_V {K : PySem.W.Frag} {m : List Addr} {H : Hp} : ∀ {ds : List D} {vs : List V} {ns : List Int}, RDs K m H ds vs → intsD ds = some ns → vs = ns.map V.int
  | [], _, _, .nil, h => by
    cases h
    rfl
  | d :: ds, _, ns, .cons r rs, h => by
    unfold intsD at h
    split at h
    · rename_i e
      cases e
    · rename_i i ds' e
      cases e
      cases r
      cases hz : intsD ds with
      | none =>
        rw [hz] at h
        cases h
      | some ks =>
        rw [hz] at h
        cases h
        rw [intsD_V rs hz]
        rfl
    · cases h
theorem intsD_map : ∀ ns : List Int, intsD (ns.map D.int) = some ns
  | [] => rfl
  | n :: ns => by
    rw [List.map_cons, intsD, intsD_map ns]
    rfl
def rSumT (K : PySem.W.Frag) : List V → Hp → VK → Prop := fun vs H Q => ∃ (a : Addr) (ns : List Int), vs = [V.ref a] ∧ SqT K H a (ns.map V.int) ∧ Q (.int ns.sum) H
theorem cr_sumT (hc : X.calm = true) : CallR X (.builtin "sum") (rSumT X.K) := by
  intro pins s σ H vs us Q I r h
  obtain ⟨a, ns, rfl, hs, q⟩ := h
  obtain ⟨its, rv, hl, _⟩ := I.tuple hs
  rw [Vals.ref1 r]
  have hi := rv.ints
  obtain ⟨xs, e⟩ := hi.allInts.items
  have hn : numsOf (intItems xs).toList = ns := by rw [← e]; exact hi.numsOf
  rw [nums_intItems] at hn
  obtain ⟨ob, ho, hcl, n, hd⟩ := hl
  have ht : s.heap.IsTuple a (intItems xs) := by
    rw [← e]
    exact ⟨ob, ho, hcl, n, hd⟩
  refine PySem.W.ktm_sumG (I.ok.hd hc) ht fun h' tk t' hk => ⟨.int _, H, I.kept hk, ⟨_, rfl⟩, ?_⟩
  rw [preSum_eq, List.take_of_length_le (by simp), hn]
  exact q
def gSum : SM1 := fun xs st => match intsD xs with
  | some ns => .ok (.int ns.sum) st
  | none => .bad
theorem s_sum (hc : X.calm = true) : CallS X (.builtin "sum") gSum := ⟨_, (cr_sum hc).or (cr_sumT hc), fun m st H ds v E Q hS r hP => by
  obtain ⟨a, vs, rfl, q, rs⟩ := r
  unfold gSum at hP
  split at hP
  · rename_i ns hn
    have e := intsD_V rs hn
    subst e
    rcases q with q | q
    · exact .inl ⟨a, ns, rfl, q, hP.now hS (.int _)⟩
    · exact .inr ⟨a, ns, rfl, q, hP.now hS (.int _)⟩
  · exact hP.elim⟩
/-! ### of lists alone -/
def SqVL (K : PySem.W.Frag) (m : List Addr) (H : Hp) (ds : List D) (v : V) : Prop := ∃ a vs, v = .ref a ∧ SqL K H a vs ∧ RDs K m H ds vs
structure Esl (X : Cx) (W : WX) (e : Expr) (f : EM (List D)) : Prop where
  run : ∀ (m : List Addr) (τ : Sl) (st : Store) (σ : L2.St) (H : Hp) (Q : VK), SL X.K m H τ σ → SS X.K m st H → Pe X.K (fun c d H' => W c d σ H') (SqVL X.K) m H (f τ st) Q → wE X e σ H Q
theorem esl_el {fl : EM (List D)} (h : El X W e fl) : Esl X W e fl := by
  refine ⟨fun m τ st σ H Q hL hS hP => h.run m τ st σ H Q hL hS ?_⟩
  cases hq : fl τ st with
  | ok ds s1 =>
    rw [hq] at hP
    intro m1 H1 v e1 hS1 ⟨a, vs, e, ha, na, hn, rs⟩
    exact hP m1 H1 v e1 hS1 ⟨a, vs, e, SqL.of ha, rs⟩
  | exc x st' =>
    rw [hq] at hP
    exact hP
  | bad =>
    rw [hq] at hP
    exact hP.elim
def dSeqL (st : Store) : D → Option (List D)
  | .rol xs => some xs
  | .ref n => lstAt st n
  | _ => none
def sExL (f : EM D) : EM (List D) := fun τ st => (f τ st).bind fun d s1 => match dSeqL s1 d with
  | some xs => .ok xs s1
  | none => .bad
theorem esl_ex (h : Ex X W e f) : Esl X W e (sExL f) := by
  refine ⟨fun m τ st σ H Q hL hS hP => h.run m τ st σ H Q hL hS (hP.bind fun d s1 m1 H1 v e1 hS1 r1 hP1 => ?_)⟩
  split at hP1
  · rename_i xs hx
    cases r1 with
    | rol q rs =>
      cases hx
      exact hP1.now hS1 ⟨_, _, rfl, q.sq, rs⟩
    | ref q =>
      obtain ⟨vs, h1, h2⟩ := hS1.list hx q
      exact hP1.now hS1 ⟨_, vs, rfl, SqL.of h1, h2⟩
    | _ => cases hx
  · exact hP1.elim
def CallL (X : Cx) (fv : Value) (g : SM1) : Prop :=
  ∃ r, CallR X fv r ∧ ∀ (m : List Addr) (st : Store) (H : Hp) (ds : List D) (v : V) (E : XK) (Q : VK), SS X.K m st H → SqVL X.K m H ds v → Pe X.K E (RD X.K) m H (g ds st) Q → r [v] H Q
theorem ex_callBl {x : Str} {id : String} {g : SM1} {fl : EM (List D)} (hc : CallL X (.builtin id) g) (hg : Gl X x) (hm : X.mg x = none) (hv : bootBuiltins x = some (.builtin id)) (ha : Esl X W e fl) (hn : x ≠ "__name__" := by decide) (hdb : (x == ("__debug__" : Str)) = false := by decide)
    (he : starEach [e] X.env = (false, eval e X.env) :: starEach [] X.env := by rfl) (hpl : (backTo pos (starEach [] X.env)).any (·.1) = false := by rfl) : Ex X W (.Call (.Name x p) [e] [] pos) (eCS g fl) := by
  obtain ⟨r, hr, h⟩ := hc
  refine ⟨fun m τ st σ H Q hL hS hP pins s I => (pe_callB hr hg hm hv (pa_cons peW pa_nil he) hn hdb he hpl).run pins s σ H Q I ?_⟩
  exact ha.run m τ st σ H _ hL hS (hP.bind fun ds s1 m1 H1 v e1 hS1 r1 hP1 => h m1 s1 H1 ds v _ Q hS1 r1 hP1)
def blsD : List D → Option (List Bool)
  | [] => some []
  | .bl i :: ds => (blsD ds).map (i :: ·)
  | _ => none
theorem blsD_V {K : PySem.W.Frag} {m : List Addr} {H : Hp} : ∀ {ds : List D} {vs : List V} {ns : List Bool}, RDs K m H ds vs → blsD ds = some ns → vs = ns.map V.bl
  | [], _, _, .nil, h => by
    cases h
    rfl
  | d :: ds, _, ns, .cons r rs, h => by
    unfold blsD at h
    split at h
    · rename_i e
      cases e
    · rename_i i ds' e
      cases e
      cases r
      cases hz : blsD ds with
      | none =>
        rw [hz] at h
        cases h
      | some ks =>
        rw [hz] at h
        cases h
        rw [blsD_V rs hz]
        rfl
    · cases h
theorem blsD_map : ∀ ns : List Bool, blsD (ns.map D.bl) = some ns
  | [] => rfl
  | n :: ns => by
    rw [List.map_cons, blsD, blsD_map ns]
    rfl
def gAllB : SM1 := fun xs st => match blsD xs with
  | some bs => .ok (.bl (bs.all id)) st
  | none => .bad
def gAnyB : SM1 := fun xs st => match blsD xs with
  | some bs => .ok (.bl (bs.any id)) st
  | none => .bad
theorem s_all (hc : X.calm = true) : CallL X (.builtin "all") gAllB := ⟨_, cr_all hc, fun m st H ds v E Q hS r hP => by
  obtain ⟨a, vs, rfl, q, rs⟩ := r
  unfold gAllB at hP
  split at hP
  · rename_i ns hn
    have e := blsD_V rs hn
    subst e
    exact ⟨a, ns, rfl, q, hP.now hS (.bl _)⟩
  · exact hP.elim⟩
theorem s_any (hc : X.calm = true) : CallL X (.builtin "any") gAnyB := ⟨_, cr_any hc, fun m st H ds v E Q hS r hP => by
  obtain ⟨a, vs, rfl, q, rs⟩ := r
  unfold gAnyB at hP
  split at hP
  · rename_i ns hn
    have e := blsD_V rs hn
    subst e
    exact ⟨a, ns, rfl, q, hP.now hS (.bl _)⟩
  · exact hP.elim⟩
def maxI : List Int → Option Int
  | [] => none
  | n :: ns => some (ns.foldl max n)
def minI : List Int → Option Int
  | [] => none
  | n :: ns => some (ns.foldl min n)
theorem foldl_max_ge : ∀ (ns : List Int) (n : Int), n ≤ ns.foldl max n ∧ (∀ y ∈ ns, y ≤ ns.foldl max n) ∧ (ns.foldl max n = n ∨ ns.foldl max n ∈ ns)
  | [], n => ⟨Int.le_refl _, by simp, .inl rfl⟩
  | k :: ns, n => by
    obtain ⟨h1, h2, h3⟩ := foldl_max_ge ns (max n k)
    rw [List.foldl_cons]
    refine ⟨Int.le_trans (Int.le_max_left n k) h1, fun y hy => ?_, ?_⟩
    · rcases List.mem_cons.mp hy with rfl | hy
      · exact Int.le_trans (Int.le_max_right n y) h1
      · exact h2 y hy
    · rcases h3 with h3 | h3
      · rw [h3]
        rcases Int.le_total n k with h | h
        · rw [Int.max_eq_right h]
          exact .inr (List.mem_cons_self ..)
        · rw [Int.max_eq_left h]
          exact .inl rfl
      · exact .inr (List.mem_cons_of_mem _ h3)
theorem foldl_min_le : ∀ (ns : List Int) (n : Int), ns.foldl min n ≤ n ∧ (∀ y ∈ ns, ns.foldl min n ≤ y) ∧ (ns.foldl min n = n ∨ ns.foldl min n ∈ ns)
  | [], n => ⟨Int.le_refl _, by simp, .inl rfl⟩
  | k :: ns, n => by
    obtain ⟨h1, h2, h3⟩ := foldl_min_le ns (min n k)
    rw [List.foldl_cons]
    refine ⟨Int.le_trans h1 (Int.min_le_left n k), fun y hy => ?_, ?_⟩
    · rcases List.mem_cons.mp hy with rfl | hy
      · exact Int.le_trans h1 (Int.min_le_right n y)
      · exact h2 y hy
    · rcases h3 with h3 | h3
      · rw [h3]
        rcases Int.le_total n k with h | h
        · rw [Int.min_eq_left h]
          exact .inl rfl
        · rw [Int.min_eq_right h]
          exact .inr (List.mem_cons_self ..)
      · exact .inr (List.mem_cons_of_mem _ h3)
def gMax : SM1 := fun xs st => match (intsD xs).bind maxI with
  | some n => .ok (.int n) st
  | none => .bad
def gMin : SM1 := fun xs st => match (intsD xs).bind minI with
  | some n => .ok (.int n) st
  | none => .bad
theorem s_max (hc : X.calm = true) : CallL X (.builtin "max") gMax := ⟨_, cr_max hc, fun m st H ds v E Q hS r hP => by
  obtain ⟨a, vs, rfl, q, rs⟩ := r
  unfold gMax at hP
  split at hP
  · rename_i k hk
    cases hn : intsD ds with
    | none =>
      rw [hn] at hk
      cases hk
    | some ns =>
      rw [hn] at hk
      have e := intsD_V rs hn
      subst e
      cases ns with
      | nil => cases hk
      | cons n ns =>
        have hk : some (ns.foldl max n) = some k := hk
        cases hk
        obtain ⟨h1, h2, h3⟩ := foldl_max_ge ns n
        refine ⟨a, n :: ns, rfl, q, by simp, fun mm hm hy => ?_⟩
        have e : mm = ns.foldl max n := by
          refine Int.le_antisymm ?_ ?_
          · rcases List.mem_cons.mp hm with rfl | hm
            · exact h1
            · exact h2 mm hm
          · rcases h3 with h3 | h3
            · rw [h3]
              exact hy n (List.mem_cons_self ..)
            · exact hy _ (List.mem_cons_of_mem _ h3)
        subst e
        exact hP.now hS (.int _)
  · exact hP.elim⟩
theorem s_min (hc : X.calm = true) : CallL X (.builtin "min") gMin := ⟨_, cr_min hc, fun m st H ds v E Q hS r hP => by
  obtain ⟨a, vs, rfl, q, rs⟩ := r
  unfold gMin at hP
  split at hP
  · rename_i k hk
    cases hn : intsD ds with
    | none =>
      rw [hn] at hk
      cases hk
    | some ns =>
      rw [hn] at hk
      have e := intsD_V rs hn
      subst e
      cases ns with
      | nil => cases hk
      | cons n ns =>
        have hk : some (ns.foldl min n) = some k := hk
        cases hk
        obtain ⟨h1, h2, h3⟩ := foldl_min_le ns n
        refine ⟨a, n :: ns, rfl, q, by simp, fun mm hm hy => ?_⟩
        have e : mm = ns.foldl min n := by
          refine Int.le_antisymm ?_ ?_
          · rcases h3 with h3 | h3
            · rw [h3]
              exact hy n (List.mem_cons_self ..)
            · exact hy _ (List.mem_cons_of_mem _ h3)
          · rcases List.mem_cons.mp hm with rfl | hm
            · exact h1
            · exact h2 mm hm
        subst e
        exact hP.now hS (.int _)
  · exact hP.elim⟩
/-! ### lcm -/
def rLcm : List V → Hp → VK → Prop := fun vs H Q => ∃ a b : Int, vs = [.int a, .int b] ∧ a.natAbs < 2 ^ 9000 ∧ b.natAbs < 2 ^ 9000 ∧ Q (.int ((Nat.lcm a.natAbs b.natAbs : Nat) : Int)) H
theorem log_of {n k : Nat} (h : n < 2 ^ k) (hk : 0 < k) : n.log2 < k := by
  by_cases z : n = 0
  · subst z
    rw [Nat.log2_zero]
    exact hk
  · exact (Nat.log2_lt z).mpr h
theorem cr_lcm : CallR X (.builtin "math.lcm") rLcm := by
  intro pins s σ H vs us Q I r h
  obtain ⟨a, b, rfl, h1, h2, q⟩ := h
  obtain ⟨t, u, rfl⟩ := Vals.int2 r
  have h0 : (1 : Nat) < 2 ^ 9000 := Nat.one_lt_two_pow (by decide)
  have l1 : (max 1 a.natAbs).log2 < 9000 := log_of (Nat.max_lt.mpr ⟨h0, h1⟩) (by decide)
  have l2 : (max a.natAbs b.natAbs).log2 < 9000 := log_of (Nat.max_lt.mpr ⟨h1, h2⟩) (by decide)
  have l3 : ((((Nat.lcm 1 a.natAbs).lcm b.natAbs : Nat) : Int)).natAbs.log2 < bitsLine := by
    rw [Int.natAbs_natCast, PySem.W.mc_lcm_one]
    have := PySem.W.mc_lcm_le a.natAbs b.natAbs
    have h3 : a.natAbs * b.natAbs < 2 ^ 18000 := by
      rw [show (18000 : Nat) = 9000 + 9000 from rfl, Nat.pow_add]
      exact Nat.mul_lt_mul'' h1 h2
    exact Nat.lt_trans (log_of (Nat.lt_of_le_of_lt this h3) (by decide)) (by decide)
  have g := (PySem.W.mg_run_lcm a t b u (by omega) (by omega) l3).meets
  refine PySem.call_function_meets PySem.W.MGF.kind_lcm PySem.W.MGF.plain_lcm PySem.W.MGF.entry_lcm (PySem.W.MGF.args_lcm _ _) g ?_
  rw [PySem.W.mc_lcm_one]
  exact ⟨.int _, H, I.tok _, ⟨_, rfl⟩, q⟩
def fLcm : FM := fun ds st => match ds with
  | [.int i, .int j] => if decide (i.natAbs < 2 ^ 9000) && decide (j.natAbs < 2 ^ 9000) then .ok (.int (Nat.lcm i.natAbs j.natAbs : Nat)) st else .bad
  | _ => .bad
theorem c_lcm : CallM X (.builtin "math.lcm") fLcm := ⟨_, cr_lcm, fun m st H ds vs E Q hS r hP => by
  unfold fLcm at hP
  split at hP
  · split at hP
    · rename_i hc
      rw [Bool.and_eq_true, decide_eq_true_eq, decide_eq_true_eq] at hc
      obtain ⟨v, u, rfl, r1, r2⟩ := r.two
      cases r1
      cases r2
      exact ⟨_, _, rfl, hc.1, hc.2, hP.now hS (.int _)⟩
    · exact hP.elim
  · exact hP.elim⟩
/-! ### texts: join, repeated -/
def strsD : List D → Option (List (List Nat))
  | [] => some []
  | .str x :: ds => (strsD ds).map (x :: ·)
  | _ => none
theorem strsD_V {K : PySem.W.Frag} {m : List Addr} {H : Hp} : ∀ {ds : List D} {vs : List V} {ns : List (List Nat)}, RDs K m H ds vs → strsD ds = some ns → vs = (ns.map fun x => (⟨x.toArray⟩ : Str)).map V.str
  | [], _, _, .nil, h => by
    cases h
    rfl
  | d :: ds, _, ns, .cons r rs, h => by
    unfold strsD at h
    split at h
    · rename_i e
      cases e
    · rename_i i ds' e
      cases e
      cases r
      cases hz : strsD ds with
      | none =>
        rw [hz] at h
        cases h
      | some ks =>
        rw [hz] at h
        cases h
        rw [strsD_V rs hz]
        rfl
    · cases h
theorem strsD_map : ∀ ns : List (List Nat), strsD (ns.map D.str) = some ns
  | [] => rfl
  | n :: ns => by
    rw [List.map_cons, strsD, strsD_map ns]
    rfl
end
end HM

/-! HM, part 12: texts joined, things repeated. -/
namespace HM
open PySem PySem.Spec PyProof.Rows L2 SX
section
variable {X : Cx} {W : WX} {e o a b c : Expr} {es : List Expr} {pos p p2 : Pos} {f fo fa fb : EM D} {fs : EM (List D)}
def joinD (a : List Nat) : List (List Nat) → List Nat
  | [] => []
  | [p] => p
  | p :: q :: r => p ++ (a ++ joinD a (q :: r))
theorem joinD_eq (a : List Nat) : ∀ ys : List (List Nat), TL.joinL a ys = joinD a ys
  | [] => rfl
  | [_] => rfl
  | p :: q :: r => by
    show p ++ (a ++ TL.joinL a (q :: r)) = p ++ (a ++ joinD a (q :: r))
    rw [joinD_eq a (q :: r)]
def mJoin : MM := fun d ds st => match d, ds with
  | .str a, [y] => match (dSeq st y).bind strsD with
    | some ys => if (ys.map List.length).sum + ys.length * a.length ≤ 16777216 then .ok (.str (joinD a ys)) st else .bad
    | none => .bad
  | _, _ => .bad
theorem me_join : MethM X "str.join" mJoin := ⟨_, mt_join, fun m st H d v ds vs E Q hS r rs hP => by
  unfold mJoin at hP
  split at hP
  · rename_i a y
    split at hP
    · rename_i ys hy
      split at hP
      · rename_i hl
        cases hq : dSeq st y with
        | none =>
          rw [hq] at hy
          cases hy
        | some zs =>
          rw [hq] at hy
          obtain ⟨u, rfl, ru⟩ := rs.one
          cases r
          obtain ⟨p, us, rfl, q, rs'⟩ := dSeq_read hS hq ru
          have e := strsD_V rs' hy
          subst e
          refine ⟨⟨a.toArray⟩, p, ys.map S, rfl, rfl, q, ?_, ?_⟩
          · rw [List.map_map, List.length_map]
            have e : (ys.map ((fun x : Str => x.length) ∘ S)) = ys.map List.length := List.map_congr_left fun x _ => S_len x
            rw [e]
            have e2 : (⟨a.toArray⟩ : Str).length = a.length := S_len a
            rw [e2]
            exact hl
          · have e := join_S a ys
            rw [joinD_eq] at e
            rw [e]
            exact hP.now hS (.str _)
      · exact hP.elim
    · exact hP.elim
  · exact hP.elim⟩
/-! ### * -/
def repD {α : Type} (k : Nat) (xs : List α) : List α := (List.replicate k xs).flatten
theorem foldl_app (x : Array Nat) : ∀ (k : Nat) (acc : Array Nat), (List.replicate k x).foldl (· ++ ·) acc = acc ++ ((List.replicate k x.toList).flatten).toArray
  | 0, acc => by simp
  | k + 1, acc => by
    rw [List.replicate_succ, List.foldl_cons, foldl_app x k, List.replicate_succ, List.flatten_cons]
    apply Array.ext'
    simp
theorem repD_len {α : Type} (k : Nat) (xs : List α) : (repD k xs).length = xs.length * k := by
  unfold repD
  induction k with
  | zero => simp
  | succ k ih =>
    rw [List.replicate_succ, List.flatten_cons, List.length_append, ih, Nat.mul_succ, Nat.add_comm]
theorem op_repS : OpR X (binaryOp .Mult) (fun x y H Q => ∃ (z : List Nat) (k : Int), x = .str (S z) ∧ y = .int k ∧ 2 ≤ k ∧ k ≤ 16777216 ∧ z.length * k.toNat ≤ 16777216 ∧ Q (.str (S (repD k.toNat z))) H) := by
  intro pins s σ H x y v u Q I rx ry h
  obtain ⟨z, k, rfl, rfl, h2, hz, hl, q⟩ := h
  obtain ⟨t, rfl⟩ := rx
  obtain ⟨t', rfl⟩ := ry
  have e1 : (S z).length = z.length := S_len z
  refine PySem.P.mul_str ?_ (fun _ h0 => ?_) (fun _ _ => ?_) ?_
  · have a1 : ¬ k < -(2 ^ 63 : Int) := by omega
    have a2 : ¬ k ≥ 2 ^ 63 := by
      have : (16777216 : Int) < 2 ^ 63 := by decide
      omega
    rw [decide_eq_false a1, decide_eq_false a2]
    rfl
  · rw [e1]
    have h3 : z.length ≤ 16777216 := by
      have : z.length * 1 ≤ z.length * k.toNat := Nat.mul_le_mul_left _ (by omega)
      omega
    have h4 : (16777216 : Int) ≤ (2 ^ 63 - 1) / k := by
      refine (Int.le_ediv_iff_mul_le (by omega)).mpr ?_
      have : (16777216 : Int) * k ≤ 16777216 * 16777216 := Int.mul_le_mul_of_nonneg_left (by omega) (by decide)
      have : (16777216 : Int) * 16777216 ≤ 2 ^ 63 - 1 := by decide
      omega
    omega
  · rw [e1]
    show decide (z.length * k.toNat > 2 ^ 24) = false
    exact decide_eq_false (by
      have : (2 : Nat) ^ 24 = 16777216 := rfl
      omega)
  · have n1 : ¬ k < 1 := by omega
    rw [if_neg n1]
    have a1 : (k == 1) = false := beq_false_of_ne (by omega)
    rw [a1, e1, Bool.false_or]
    by_cases h0 : z = []
    · subst h0
      have e : (S (repD k.toNat ([] : List Nat))) = S [] := by
        have := repD_len k.toNat ([] : List Nat)
        rw [List.length_nil, Nat.zero_mul] at this
        rw [List.length_eq_zero_iff.mp this]
      rw [e] at q
      rw [if_pos (show (([] : List Nat).length == 0) = true from rfl)]
      exact ⟨.str _, H, I, ⟨_, rfl⟩, q⟩
    · have zl : 0 < z.length := List.length_pos_iff.mpr h0
      have a2 : (z.length == 0) = false := beq_false_of_ne (by omega)
      rw [a2, if_neg Bool.false_ne_true]
      have e : (⟨(List.replicate k.toNat (S z).cps).foldl (· ++ ·) #[]⟩ : Str) = S (repD k.toNat z) := by
        rw [foldl_app]
        simp [repD]
      rw [e]
      refine ⟨?_, .str _, H, I.tok _, ⟨_, rfl⟩, q⟩
      rw [S_len, repD_len, PySem.sizeLine_eq]
      exact hl
def oMul : O2 := fun x y st => match x, y with
  | .int i, .int j => if okMul i j then .ok (.int (i * j)) st else .bad
  | .str z, .int k => if decide (2 ≤ k) && decide (k ≤ 16777216) && decide (z.length * k.toNat ≤ 16777216) then .ok (.str (repD k.toNat z)) st else .bad
  | .ref n, .int k => match lstAt st n with
    | some xs => if okIx k && decide (xs.length * k.toNat ≤ 16777216) then .ok (.ref st.length) (st ++ [.lst (repD k.toNat xs)]) else .bad
    | none => .bad
  | .tup xs, .int k => if decide (2 ≤ k) && decide (k ≤ 1000) && !xs.isEmpty && decide (xs.length ≤ 1000) then .ok (.tup (repD k.toNat xs)) st else .bad
  | _, _ => .bad
theorem RDs.rep {K : PySem.W.Frag} {m : List Addr} {H : Hp} {ds : List D} {vs : List V} (r : RDs K m H ds vs) : ∀ k : Nat, RDs K m H (repD k ds) (repD k vs)
  | 0 => .nil
  | k + 1 => by
    have := RDs.rep r k
    unfold repD at this ⊢
    rw [List.replicate_succ, List.replicate_succ, List.flatten_cons, List.flatten_cons]
    exact r.append this
theorem op_mulAll : OpR X (binaryOp .Mult) (fun x y H Q => ((rI IntMulOk fun i j => .int (i * j)) x y H Q ∨ (∃ (z : List Nat) (k : Int), x = .str (S z) ∧ y = .int k ∧ 2 ≤ k ∧ k ≤ 16777216 ∧ z.length * k.toNat ≤ 16777216 ∧ Q (.str (S (repD k.toNat z))) H)) ∨ (rRep x y H Q ∨ rRepT X.K x y H Q)) :=
  (op_mulAny.or op_repS).or (op_rep.or op_repT)
theorem m_mul : OpM X W (binaryOp .Mult) oMul := opm_of op_mulAll fun m st H dx dy x y E Q hS r1 r2 hP => by
  unfold oMul at hP
  split at hP
  · rename_i i j
    split at hP
    · rename_i hc
      cases r1
      cases r2
      have q : (i.natAbs < 18446744073709551616 ∨ j.natAbs < 18446744073709551616) ∨ i.natAbs.log2 + j.natAbs.log2 < 1000000 := of_decide_eq_true hc
      refine .inl (.inl ⟨_, _, rfl, rfl, ?_, hP.now hS (.int _)⟩)
      rcases q with (q | q) | q
      · exact CMul.ok (.inl (by omega))
      · exact CMul.ok (.inr (by omega))
      · exact CMulW.ok q
    · exact hP.elim
  · split at hP
    · rename_i hc
      simp only [Bool.and_eq_true, decide_eq_true_eq] at hc
      cases r1
      cases r2
      exact .inl (.inr ⟨_, _, rfl, rfl, hc.1.1, hc.1.2, hc.2, hP.now hS (.str _)⟩)
    · exact hP.elim
  · split at hP
    · rename_i xs hx
      split at hP
      · rename_i hc
        rw [Bool.and_eq_true, decide_eq_true_eq] at hc
        cases r1 with
        | ref q =>
          cases r2
          obtain ⟨vs, h1, h2⟩ := hS.list hx q
          exact .inr (.inl ⟨_, _, vs, rfl, rfl, h1, (okIx_ok hc.1).1, (okIx_ok hc.1).2, line_of (by rw [← h2.len]; exact hc.2), hP.lst hS (h2.rep _)⟩)
      · exact hP.elim
    · exact hP.elim
  · split at hP
    · rename_i hc
      simp only [Bool.and_eq_true, decide_eq_true_eq, Bool.not_eq_true', List.isEmpty_eq_false_iff] at hc
      cases r1 with
      | tup q rs =>
        cases r2
        refine .inr (.inr ⟨_, _, _, rfl, rfl, q, fun e => hc.1.2 ?_, hc.1.1.1, hc.1.1.2, by rw [← rs.len]; exact hc.2, hP.tup hS (rs.rep _)⟩)
        subst e
        cases rs
        rfl
    · exact hP.elim
  · exact hP.elim
end
end HM

/-! HM: calls of defs with keywords. -/
namespace HM
open PySem PySem.Spec PyProof.Rows L2
section
variable {X : Cx} {W : WX} {e a b c : Expr} {es rest : List Expr} {pos p : Pos} {f fa fb fc : EM D} {fs fk : EM (List D)} {kws : List Keyword}
def wK (X : Cx) (kws : List Keyword) : TA := fun σ H Q => ∀ (pos : Pos) (pins : List (Addr × Obj)) (s : Shared), Inv X pins σ H s → wpAny (model X.prog X.w) X.A (evalAll ((backToKw pos (keywordEach kws X.env)).map (·.2))) (AP X pins σ Q) X.xe s
theorem pkW {X : Cx} {kws : List Keyword} : PK X kws (wK X kws) := ⟨fun pos pins s σ H Q I h => h pos pins s I⟩
/-- the values of keywords -/
structure Ek (X : Cx) (W : WX) (kws : List Keyword) (f : EM (List D)) : Prop where
  run : ∀ (m : List Addr) (τ : Sl) (st : Store) (σ : L2.St) (H : Hp) (Q : List V → Hp → Prop), SL X.K m H τ σ → SS X.K m st H → Pe X.K (fun c d H' => W c d σ H') (RDs X.K) m H (f τ st) Q → wK X kws σ H Q
theorem ek_nil : Ek X W [] aNil := ⟨fun m τ st σ H Q hL hS hP pos pins s I => pk_nil.run pos pins s σ H Q I (hP.now hS .nil)⟩
theorem ek_cons {nm : Option Str} {kpos : Pos} (ha : Ex X W e f) (hr : Ek X W kws fs) : Ek X W (⟨nm, e, kpos⟩ :: kws) (aCons f fs) := by
  refine ⟨fun m τ st σ H Q hL hS hP pos pins s I => (pk_cons peW pkW).run pos pins s σ H Q I ?_⟩
  refine ha.run m τ st σ H _ hL hS (hP.bind fun dx s1 m1 H1 x e1 hS1 r1 hP1 => ?_)
  exact hr.run m1 τ s1 σ H1 _ (hL.mono e1) hS1 (hP1.bind fun ds s2 m2 H2 xs e2 hS2 r2 hP2 => hP2.now hS2 (.cons (r1.mono e2) r2))
/-- those at the places -/
def arr {α : Type} (is : List Nat) (l : List α) : List α := is.filterMap (fun i => l[i]?)
theorem Vals.arr {xs : List V} {us : List Value} (r : Vals xs us) : ∀ is : List Nat, Vals (arr is xs) (arr is us)
  | [] => .nil
  | i :: is => by
    have ih := Vals.arr r is
    unfold HM.arr at ih ⊢
    rw [List.filterMap_cons, List.filterMap_cons]
    cases h : xs[i]? with
    | none => rw [r.none_of h]; exact ih
    | some x =>
      obtain ⟨u, h1, h2⟩ := r.get h
      rw [h1]
      exact .cons h2 ih
theorem RDs.arr {K : PySem.W.Frag} {m : List Addr} {H : Hp} {ds : List D} {vs : List V} (r : RDs K m H ds vs) : ∀ is : List Nat, RDs K m H (arr is ds) (arr is vs)
  | [] => .nil
  | i :: is => by
    have ih := RDs.arr r is
    unfold HM.arr at ih ⊢
    rw [List.filterMap_cons, List.filterMap_cons]
    cases h : ds[i]? with
    | none =>
      have : vs[i]? = none := by
        rw [List.getElem?_eq_none_iff] at h ⊢
        rw [← r.len]; exact h
      rw [this]; exact ih
    | some x =>
      obtain ⟨u, h1, h2⟩ := r.get h
      rw [h1]
      exact .cons h2 ih
def eCallK (n k np : Nat) (is : List Nat) (mf : FM) (fs fk : EM (List D)) : EM D := fun τ st => (fs τ st).bind fun ds s1 => (fk τ s1).bind fun es s2 => if ds.length = n ∧ es.length = k ∧ (arr is (ds ++ es)).length = np then mf (arr is (ds ++ es)) s2 else .bad
theorem ex_ck {P : Program} {w : World} {K : PySem.W.Frag} {mg : Str → Option Value} {base : Heap} {A : Around} {j k n : Nat} {ps ks : List Str} {is : List Nat} {mf : FM} {x : Str} {st : Stmt} {fa : Addr} {fd : FuncData} (c : Cal P w K mg base x j ps mf) (F : FnP K x st fa fd) (gx : mg x = some (.ref fa))
    (bn : ∀ (kV doc pm : Value) (an : Option Addr) (cdv ct : Value) (us ws : List Value), us.length = n → ws.length = ks.length → bindArgs (PySem.W.fnOf x x (defArgs st) (defBody st) (defScope st) .none kV doc pm an cdv ct) ⟨us, ks.zip ws⟩ = pure (ps.zip (arr is (us ++ ws))))
    (tk : Takes X W) (hr : Room k A) (hj : j ≤ k) (ha : Ea X W (e :: es) fs) (hkw : Ek X W kws fk)
    (hall : (backToKw pos (keywordEach kws X.env)).all (·.1.isSome) = true := by rfl) (hks : (backToKw pos (keywordEach kws X.env)).filterMap (·.1) = ks := by rfl)
    (hpl : ((backTo pos (starEach (e :: es) X.env)).any (·.1) || (backToKw pos (keywordEach kws X.env)).any (·.1.isNone)) = false := by rfl)
    (h1 : X.prog = P := by rfl) (h2 : X.w = w := by rfl) (h3 : X.K = K := by rfl) (h4 : X.mg = mg := by rfl) (h5 : X.base = base := by rfl) (h6 : X.A = A := by rfl) (hg : Gl X x := by rfl) (hdb : (x == ("__debug__" : Str)) = false := by decide) (he : starEach (e :: es) X.env = (false, eval e X.env) :: starEach es X.env := by rfl) :
    Ex X W (.Call (.Name x p) (e :: es) kws pos) (eCallK n ks.length ps.length is mf fs fk) := by
  subst h1 h2 h3 h4 h5 h6
  obtain ⟨f, fd', G, hm, hk, hb, oc, od, osl, lk⟩ := c.ex
  have e1 : f = fa := by
    rw [hm] at gx
    exact Value.ref.inj (Option.some.inj gx)
  subst e1
  obtain ⟨oc2, od2, dV, kV, doc, pm, an, cdv, ct, osl2, e2, lk2, hcd, hD, hK⟩ := F.ex
  rw [lk] at lk2
  have e3 : fd' = fd := by
    have := Option.some.inj lk2
    injection this with _ _ q _
    injection q
  subst e3
  have hdV : dV = .none := by
    rcases hD with ⟨_, q⟩ | ⟨q, _⟩
    · exact q
    · exact absurd rfl q
  have kb : KBn X.K fd' ps n ks (fun us ws => HM.arr is (us ++ ws)) (fun vs zs => HM.arr is (vs ++ zs)) :=
    ⟨fun s us ws _ l1 l2 => .of_eq (by rw [e2, hdV]; exact bn kV doc pm an cdv ct us ws l1 l2), fun r1 r2 => HM.Vals.arr (r1.append r2) is⟩
  refine ⟨fun m τ st σ H Q hL hS hP pins s I => ?_⟩
  refine wpAny_Call_Name_kw (ld_glob I hg hm ?_ hdb)
  have q : wA X (e :: es) σ H fun vs H1 => wK X kws σ H1 fun zs H2 => vs.length = n ∧ zs.length = ks.length ∧ spM X.K ps.length mf (HM.arr is (vs ++ zs)) H2 Q (WE W σ) :=
    ha.run m τ st σ H _ hL hS (hP.bind fun ds s1 m1 H1 vs e1 hS1 r1 hP1 => hkw.run m1 τ s1 σ H1 _ (hL.mono e1) hS1 (hP1.bind fun es s2 m2 H2 xs e2 hS2 r2 hP2 => by
      split at hP2
      · rename_i hl
        exact ⟨by rw [← r1.len]; exact hl.1, by rw [← r2.len]; exact hl.2.1, m2, s2, _, hl.2.2, hS2, RDs.arr ((r1.mono e2).append r2) is, hP2⟩
      · exact hP2.elim))
  refine PySem.W.callWith_KW (h₀ := X.base) I.ok.mod.kin hk hall (thn (q pos pins s I) fun us s1 ⟨vs, H1, I1, r, q1⟩ => ?_) hpl he
  refine thn (q1 pos pins s1 I1) fun ws s2 ⟨zs, H2, I2, rz, l1, l2, q2⟩ => ⟨I2.kIn, ?_⟩
  rw [hks]
  have r2 := kb.rel r rz
  refine wpAny_call (codeAny_mono (G.run X.A X.stack s2 H2 ⟨us, ks.zip ws⟩ _ _ Q (WE W σ) (hr.mono hj) I2.env0 (kb.to s2 us ws I2.kIn (r.length.symm.trans l1) (rz.length.symm.trans l2)) r2 q2) fun r s' hq => ?_)
  cases r with
  | error e => exact passAt tk σ pins H2 s2 e s' I2 hq
  | ok fl =>
    cases fl with
    | ret u => exact I2.after hq
    | next => exact False.elim hq
    | brk => exact False.elim hq
    | cont => exact False.elim hq
theorem ex_ck0 {P : Program} {w : World} {K : PySem.W.Frag} {mg : Str → Option Value} {base : Heap} {A : Around} {j k : Nat} {ps ks : List Str} {is : List Nat} {mf : FM} {x : Str} {st : Stmt} {fa : Addr} {fd : FuncData} (c : Cal P w K mg base x j ps mf) (F : FnP K x st fa fd) (gx : mg x = some (.ref fa))
    (bn : ∀ (kV doc pm : Value) (an : Option Addr) (cdv ct : Value) (us ws : List Value), us.length = 0 → ws.length = ks.length → bindArgs (PySem.W.fnOf x x (defArgs st) (defBody st) (defScope st) .none kV doc pm an cdv ct) ⟨us, ks.zip ws⟩ = pure (ps.zip (arr is (us ++ ws))))
    (tk : Takes X W) (hr : Room k A) (hj : j ≤ k) (hkw : Ek X W kws fk)
    (hall : (backToKw pos (keywordEach kws X.env)).all (·.1.isSome) = true := by rfl) (hks : (backToKw pos (keywordEach kws X.env)).filterMap (·.1) = ks := by rfl)
    (hpl : ((backTo pos (starEach [] X.env)).any (·.1) || (backToKw pos (keywordEach kws X.env)).any (·.1.isNone)) = false := by rfl)
    (h1 : X.prog = P := by rfl) (h2 : X.w = w := by rfl) (h3 : X.K = K := by rfl) (h4 : X.mg = mg := by rfl) (h5 : X.base = base := by rfl) (h6 : X.A = A := by rfl) (hg : Gl X x := by rfl) (hdb : (x == ("__debug__" : Str)) = false := by decide) :
    Ex X W (.Call (.Name x p) [] kws pos) (eCallK 0 ks.length ps.length is mf aNil fk) := by
  subst h1 h2 h3 h4 h5 h6
  obtain ⟨f, fd', G, hm, hk, hb, oc, od, osl, lk⟩ := c.ex
  have e1 : f = fa := by
    rw [hm] at gx
    exact Value.ref.inj (Option.some.inj gx)
  subst e1
  obtain ⟨oc2, od2, dV, kV, doc, pm, an, cdv, ct, osl2, e2, lk2, hcd, hD, hK⟩ := F.ex
  rw [lk] at lk2
  have e3 : fd' = fd := by
    have := Option.some.inj lk2
    injection this with _ _ q _
    injection q
  subst e3
  have hdV : dV = .none := by
    rcases hD with ⟨_, q⟩ | ⟨q, _⟩
    · exact q
    · exact absurd rfl q
  have kb : KBn X.K fd' ps 0 ks (fun us ws => HM.arr is (us ++ ws)) (fun vs zs => HM.arr is (vs ++ zs)) :=
    ⟨fun s us ws _ l1 l2 => .of_eq (by rw [e2, hdV]; exact bn kV doc pm an cdv ct us ws l1 l2), fun r1 r2 => HM.Vals.arr (r1.append r2) is⟩
  refine ⟨fun m τ st σ H Q hL hS hP pins s I => ?_⟩
  refine wpAny_Call_Name_kw (ld_glob I hg hm ?_ hdb)
  have q : wK X kws σ H fun zs H2 => zs.length = ks.length ∧ spM X.K ps.length mf (HM.arr is zs) H2 Q (WE W σ) := by
    have hP : Pe X.K (fun c d H' => W c d σ H') (RD X.K) m H ((fk τ st).bind fun es s2 => if ([] : List D).length = 0 ∧ es.length = ks.length ∧ (HM.arr is ([] ++ es)).length = ps.length then mf (HM.arr is ([] ++ es)) s2 else .bad) Q := hP
    exact hkw.run m τ st σ H _ hL hS (hP.bind fun es s2 m2 H2 xs e2 hS2 r2 hP2 => by
      split at hP2
      · rename_i hl
        exact ⟨by rw [← r2.len]; exact hl.2.1, m2, s2, _, hl.2.2, hS2, RDs.arr r2 is, hP2⟩
      · exact hP2.elim)
  refine PySem.W.callWith_KW0 (h₀ := X.base) I.ok.mod.kin hk hall (thn (q pos pins s I) fun ws s2 ⟨zs, H2, I2, rz, l2, q2⟩ => ⟨I2.kIn, ?_⟩) hpl
  rw [hks]
  have r2 : Vals (HM.arr is zs) (HM.arr is ([] ++ ws)) := HM.Vals.arr rz is
  refine wpAny_call (codeAny_mono (G.run X.A X.stack s2 H2 ⟨[], ks.zip ws⟩ _ _ Q (WE W σ) (hr.mono hj) I2.env0 (kb.to s2 [] ws I2.kIn rfl (rz.length.symm.trans l2)) r2 q2) fun r s' hq => ?_)
  cases r with
  | error e => exact passAt tk σ pins H2 s2 e s' I2 hq
  | ok fl =>
    cases fl with
    | ret u => exact I2.after hq
    | next => exact False.elim hq
    | brk => exact False.elim hq
    | cont => exact False.elim hq
end
end HM

/-! HM, part Z: zip of a list and a tuple, either way round. -/
namespace HM
open PySem PySem.Spec PyProof.Rows L2
/-- true: a list, false: a tuple -/
def kCls : Bool → String
  | true => "list_iterator"
  | false => "tuple_iterator"
def kIter (k : Bool) (h : Heap) (it l : Addr) (i : Nat) : Prop := ∃ o, h.get? it = some o ∧ o.cls = .type (kCls k) ∧ o.data = .fields #[.ref l, .int i 0]
def kSeq : Bool → Heap → Addr → Array Value → Prop
  | true => fun h l xs => h.IsList l xs
  | false => fun h l xs => h.IsTuple l xs
def kSq : Bool → PySem.W.Frag → Hp → Addr → List V → Prop
  | true => SqL
  | false => SqT
section
variable {prog : Program} {w : World} {A : Around} {E : Value → Shared → Prop} {s : Shared}
theorem draws_k {k : Bool} (hh : A.handled = none) {it l : Addr} (ne : l ≠ it) (items : Array Value) :
    Draws prog w A it [it, l] items.size (fun i v => items[i]? = some v) (fun i h => kIter k h it l i ∧ kSeq k h l items) := by
  cases k with
  | true => exact Draws.list hh it l ne items
  | false => exact Draws.tuple hh it l ne items
abbrev zk1 (c1 : String) (h : Heap) (l1 : Addr) : Heap := h.push { cls := .type c1, data := .fields #[.ref l1, .int 0 0] }
abbrev zk2 (c1 c2 : String) (h : Heap) (l1 l2 : Addr) : Heap := (zk1 c1 h l1).push { cls := .type c2, data := .fields #[.ref l2, .int 0 0] }
abbrev zk3 (c1 c2 : String) (h : Heap) (l1 l2 : Addr) : Heap := (zk2 c1 c2 h l1 l2).push { cls := .type "tuple", data := .seq #[.ref h.objs.size, .ref (zk1 c1 h l1).objs.size] }
abbrev zk4 (c1 c2 : String) (h : Heap) (l1 l2 : Addr) : Heap := (zk3 c1 c2 h l1 l2).push { cls := .type "tuple", data := .seq #[.none, .none] }
abbrev zk5 (c1 c2 : String) (h : Heap) (l1 l2 : Addr) : Heap := (zk4 c1 c2 h l1 l2).push { cls := .type "zip", data := .fields #[.none, .bool false, .bool false, .ref (zk2 c1 c2 h l1 l2).objs.size, .ref (zk3 c1 c2 h l1 l2).objs.size] }
/-- what zip.__new__ makes -/
def NewK (c1 c2 : String) (G : Heap → Prop) (l1 l2 : Addr) : Prop :=
  Meets (Builtin.«zip.__new__» ⟨[.type "zip", .ref l1, .ref l2], []⟩) fun _ R s => G s.heap ∧ R (.ok (.ret (.ref (zk4 c1 c2 s.heap l1 l2).objs.size))) { s with heap := zk5 c1 c2 s.heap l1 l2 }
theorem new_lt (l1 l2 : Addr) (xs ys : Array Value) : NewK "list_iterator" "tuple_iterator" (fun h => h.IsList l1 xs ∧ h.IsTuple l2 ys) l1 l2 :=
  .of_wp fun prog w A R s h => by
    obtain ⟨hp, g, d, tk, os⟩ := s
    obtain ⟨⟨q1, q2⟩, h⟩ := h
    have hsub := sub_zip
    have a1 : Heap.IsList (Shared.heap ⟨hp, g, d, tk, os⟩) l1 xs := q1
    have a2 : Heap.IsTuple (Shared.heap ⟨zk1 "list_iterator" hp l1, g, d, tk, os⟩) l2 ys := Heap.IsTuple.push q2 _
    wp_walk using wpAny_pyIter_list a1, wpAny_pyIter_tuple a2
    exact ⟨_, rfl, h⟩
theorem new_tl (l1 l2 : Addr) (xs ys : Array Value) : NewK "tuple_iterator" "list_iterator" (fun h => h.IsTuple l1 xs ∧ h.IsList l2 ys) l1 l2 :=
  .of_wp fun prog w A R s h => by
    obtain ⟨hp, g, d, tk, os⟩ := s
    obtain ⟨⟨q1, q2⟩, h⟩ := h
    have hsub := sub_zip
    have a1 : Heap.IsTuple (Shared.heap ⟨hp, g, d, tk, os⟩) l1 xs := q1
    have a2 : Heap.IsList (Shared.heap ⟨zk1 "tuple_iterator" hp l1, g, d, tk, os⟩) l2 ys := Heap.IsList.push q2 _
    wp_walk using wpAny_pyIter_tuple a1, wpAny_pyIter_list a2
    exact ⟨_, rfl, h⟩
end
section
variable {prog : Program} {w : World} {A : Around} {E : Value → Shared → Prop} {s : Shared}
/-- what stands behind a call of zip -/
structure ZipMade (k1 k2 : Bool) (h h' : Heap) (l1 l2 : Addr) : Prop where
  z : IsZip h' (h.objs.size + 4) (h.objs.size + 2) (h.objs.size + 3) .none
  i : IsTupOf2 h' (h.objs.size + 2) (.ref h.objs.size) (.ref (h.objs.size + 1))
  o : IsTupOf2 h' (h.objs.size + 3) .none .none
  i1 : kIter k1 h' h.objs.size l1 0
  i2 : kIter k2 h' (h.objs.size + 1) l2 0
  keep : ∀ c o, h.get? c = some o → h'.get? c = some o
theorem call_zk {k1 k2 : Bool} {G : Heap → Prop} {l1 l2 : Addr} {Q : Value → Shared → Prop} (M : NewK (kCls k1) (kCls k2) G l1 l2) (g : G s.heap)
    (h : ∀ h', ZipMade k1 k2 s.heap h' l1 l2 → Q (.ref (s.heap.objs.size + 4)) { s with heap := h' }) : wpAny (model prog w) A (call (.type "zip") [.ref l1, .ref l2]) Q E s := by
  have no : (some "zip.__new__" != some "object.__new__") = true := by decide
  have oi := fun obj => F.args_object_init_3 obj (.ref l1) (.ref l2)
  refine callType_new F.called_zip no (F.typeCall_zip_2 _ _) (F.newCall_zip_2 _ _) oi F.entry_zip_new M ⟨g, ?_⟩
  obtain ⟨n, en⟩ : ∃ n, n = s.heap.objs.size := ⟨_, rfl⟩
  have s1 : (zk1 (kCls k1) s.heap l1).objs.size = n + 1 := by rw [Heap.size_push, en]
  have s2 : (zk2 (kCls k1) (kCls k2) s.heap l1 l2).objs.size = n + 2 := by rw [Heap.size_push, s1]
  have s3 : (zk3 (kCls k1) (kCls k2) s.heap l1 l2).objs.size = n + 3 := by rw [Heap.size_push, s2]
  have s4 : (zk4 (kCls k1) (kCls k2) s.heap l1 l2).objs.size = n + 4 := by rw [Heap.size_push, s3]
  have up : ∀ {h0 : Heap} {o0 : Obj} {c : Addr} {o : Obj}, h0.get? c = some o → (h0.push o0).get? c = some o := fun e => Heap.get?_push_of_some _ e
  have b5 : (zk5 (kCls k1) (kCls k2) s.heap l1 l2).get? (zk4 (kCls k1) (kCls k2) s.heap l1 l2).objs.size = some _ := Heap.get?_push_size _ rfl
  have b4 : (zk5 (kCls k1) (kCls k2) s.heap l1 l2).get? (zk3 (kCls k1) (kCls k2) s.heap l1 l2).objs.size = some _ := up (Heap.get?_push_size _ rfl)
  have b3 : (zk5 (kCls k1) (kCls k2) s.heap l1 l2).get? (zk2 (kCls k1) (kCls k2) s.heap l1 l2).objs.size = some _ := up (up (Heap.get?_push_size _ rfl))
  have b2 : (zk5 (kCls k1) (kCls k2) s.heap l1 l2).get? (zk1 (kCls k1) s.heap l1).objs.size = some _ := up (up (up (Heap.get?_push_size _ rfl)))
  have b1 : (zk5 (kCls k1) (kCls k2) s.heap l1 l2).get? s.heap.objs.size = some _ := up (up (up (up (Heap.get?_push_size _ rfl))))
  show _ ∧ _
  rw [s2, s3, s4] at b5
  rw [s1, s2] at b3
  rw [s3] at b4
  rw [s1] at b2
  rw [s4]
  refine ⟨⟨_, b5, rfl⟩, ?_⟩
  rw [en] at b2 b3 b4 b5 ⊢
  exact h _ ⟨b5, b3, b4, ⟨_, b1, rfl, rfl⟩, ⟨_, b2, rfl, rfl⟩, fun c o e => up (up (up (up (up e))))⟩
end
/-- pairs of the items at a and at b -/
def ItK (k1 k2 : Bool) (K : PySem.W.Frag) (a b : Addr) : It where
  go := fun i H => ∃ (xs ys : List V) (x y : V), (kSq k1 K H a xs ∧ kSq k2 K H b ys) ∧ xs[i]? = some x ∧ ys[i]? = some y
  yld := fun i H v H' => ∃ (T : Addr) (x y : V), (v = .ref T ∧ H T = none ∧ H' = upd H T (.tup [x, y])) ∧ (∀ xs, kSq k1 K H a xs → xs[i]? = some x) ∧ (∀ ys, kSq k2 K H b ys → ys[i]? = some y)
  stop := fun i H => ∃ xs ys : List V, (kSq k1 K H a xs ∧ kSq k2 K H b ys) ∧ (i = xs.length ∧ i ≤ ys.length ∨ i = ys.length ∧ i ≤ xs.length)
section
variable {P : Program} {w : World} {K : PySem.W.Frag}
theorem inv_k {X : Cx} {pins : List (Addr × Obj)} {σ : L2.St} {H : Hp} {s : Shared} {k : Bool} {a : Addr} {xs : List V} (I : Inv X pins σ H s) (h : kSq k X.K H a xs) : ∃ its : List Value, Vals xs its ∧ kSeq k s.heap a its.toArray ∧ a < s.heap.objs.size := by
  cases k with
  | true =>
    obtain ⟨its, r, p, _⟩ := I.list h
    exact ⟨its, r, p.isList, p.lt⟩
  | false =>
    obtain ⟨its, r, p, _⟩ := I.tuple h
    obtain ⟨o, e, _⟩ := id p
    exact ⟨its, r, p, Heap.lt_size e⟩
theorem inj_k {X : Cx} {pins : List (Addr × Obj)} {σ : L2.St} {H : Hp} {s : Shared} {k : Bool} {a : Addr} {xs ys : List V} (I : Inv X pins σ H s) (h : kSq k X.K H a xs) (h2 : kSq k X.K H a ys) : xs = ys := by
  cases k with
  | true => exact I.list_inj h h2
  | false => exact I.tuple_inj h h2
theorem sep_k {z TI TO i1 i2 a b : Addr} (D : ZipApart z TI TO i1 i2 a b) : ZipSep2 z TI TO i1 i2 [i1, a] [i2, b] where
  TIz := D.TIz
  TOz := D.TOz
  TITO := D.TITO
  TIi1 := D.TIi1
  mem1 := by simp
  zf1 := by simp [D.i1z.symm, D.l1z.symm]
  Tf1 := by simp [D.TOi1, D.l1TO.symm]
  TIi2 := D.TIi2
  mem2 := by simp
  zf2 := by simp [D.i2z.symm, D.l2z.symm]
  Tf2 := by simp [D.TOi2, D.l2TO.symm]
  sep1_2 := by simp [D.i12, D.l2i1.symm]
  sep2_1 := by simp [D.i12.symm, D.l1i2.symm]
theorem turn_k {k1 k2 : Bool} {elts : List Expr} {kk : Nat} {tpos : Pos} {a b z TI TO i1 i2 : Addr} (D : ZipApart z TI TO i1 i2 a b) :
    Turn P w K (.Tuple elts kk tpos) (ItK k1 k2 K a b) [z, TI, TO, i1, i2] z fun i h => (IsZip h z TI TO .none ∧ IsTupOf2 h TI (.ref i1) (.ref i2) ∧ ∃ x y, IsTupOf2 h TO x y) ∧ kIter k1 h i1 a i ∧ kIter k2 h i2 b i := by
  have keepI : ∀ {k : Bool} {h h' : Heap} {it l : Addr} {i : Nat}, kIter k h it l i → (∀ o, h.get? it = some o → h'.get? it = some o) → kIter k h' it l i := fun st q => by
    obtain ⟨o, e, c⟩ := st
    exact ⟨o, q o e, c⟩
  refine ⟨by simp, ?_, ?_, ?_, ?_, fun A i s Q E st h => wpAny_pyIter_zip st.1.1 h⟩
  · rintro i h ⟨⟨hz, ht, x, y, ho⟩, ⟨o1, g1, _, d1⟩, o2, g2, _, d2⟩ c hc
    simp only [List.mem_cons, List.not_mem_nil, or_false] at hc
    rcases hc with rfl | rfl | rfl | rfl | rfl
    · exact ⟨_, hz, fun v q => nomatch q⟩
    · exact ⟨_, ht, fun v q => nomatch q⟩
    · exact ⟨_, ho, fun v q => nomatch q⟩
    · exact ⟨o1, g1, fun v q => by rw [d1] at q; exact nomatch q⟩
    · exact ⟨o2, g2, fun v q => by rw [d2] at q; exact nomatch q⟩
  · rintro i h h' ⟨⟨hz, ht, x, y, ho⟩, j1, j2⟩ q
    exact ⟨⟨q z (by simp) _ hz, q TI (by simp) _ ht, x, y, q TO (by simp) _ ho⟩, keepI j1 (q i1 (by simp)), keepI j2 (q i2 (by simp))⟩
  · intro X hP hw hK hc i pins s σ H E I hf st hg
    subst hP hw hK
    obtain ⟨⟨hz, ht, x0, y0, ho⟩, j1, j2⟩ := st
    obtain ⟨xs, ys, x, y, ⟨hx, hy⟩, ex, ey⟩ := hg
    obtain ⟨its, rv, p1, _⟩ := inv_k I hx
    obtain ⟨its2, rv2, p2, _⟩ := inv_k I hy
    obtain ⟨u, hu, ru⟩ := rv.get ex
    obtain ⟨u2, hu2, ru2⟩ := rv2.get ey
    have hh : X.A.in1.handled = none := I.ok.hd hc
    have d1 := draws_k (prog := X.prog) (w := X.w) (k := k1) hh D.l1i1 its.toArray
    have d2 := draws_k (prog := X.prog) (w := X.w) (k := k2) hh D.l2i2 its2.toArray
    have n1 : i < its.toArray.size := by have := (List.getElem?_eq_some_iff.mp hu).1; simpa using this
    have n2 : i < its2.toArray.size := by have := (List.getElem?_eq_some_iff.mp hu2).1; simpa using this
    have zl : z < s.heap.objs.size := Heap.lt_size hz
    refine wpAny_pyNext_zipD2_item (sep_k D) d1 d2 hz ht ho ⟨j1, p1⟩ ⟨j2, p2⟩ n1 n2 ?_
    intro v1 v2 h' tk e1 e2 z' o' q1 q2 hT hsz hk
    have e1 : u = v1 := by simpa [hu] using e1
    have e2 : u2 = v2 := by simpa [hu2] using e2
    subst e1 e2
    refine ⟨_, rfl, wpAny_letOwnedTupleGo_zip (s := { s with heap := h', toks := tk }) z' ?_⟩
    intro h'' z'' sb
    have T2 := (sb.2 _ (Nat.ne_of_gt zl)).trans hT
    have nw : ObjOk X.prog X.w (upd H s.heap.objs.size (.tup [x, y])) h'' s.heap.objs.size (.tup [x, y]) := by
      refine ⟨?_, [u, u2], .cons ru (.cons ru2 .nil), _, T2, rfl, _, rfl⟩
      show 2 ≤ sizeLine
      decide
    have other : ∀ (c : Addr) (o : Obj), c ∉ [z, TI, TO, i1, i2] → s.heap.get? c = some o → h''.get? c = some o := fun c o hb q => by
      simp only [List.mem_cons, List.not_mem_nil, or_false, not_or] at hb
      exact (sb.2 c hb.1).trans (hk c o hb.1 hb.2.2.1 hb.2.2.2.1 hb.2.2.2.2 q)
    have I1 : Inv X pins σ (upd H s.heap.objs.size (.tup [x, y])) { s with heap := h'', toks := tk } := I.turnedNew (t' := tk) (ch := [z, TI, TO, i1, i2]) other hf (Nat.le_refl _) nw
    refine ⟨.ref s.heap.objs.size, _, I1, rfl, ⟨_, x, y, ⟨rfl, I.hok.fresh (Nat.le_refl _), rfl⟩, fun l hl => by rw [inj_k I hl hx]; exact ex, fun l hl => by rw [inj_k I hl hy]; exact ey⟩, ⟨⟨z'', ?_, u, u2, ?_⟩, ?_, ?_⟩, ?_⟩
    · exact (sb.2 _ D.TIz).trans (hk _ _ D.TIz D.TITO D.TIi1 D.TIi2 ht)
    · exact (sb.2 _ D.TOz).trans o'
    · exact keepI q1.1 fun o e => (sb.2 _ D.i1z).trans e
    · exact keepI q2.1 fun o e => (sb.2 _ D.i2z).trans e
    · intro c hm
      have lt : c < s.heap.objs.size := by
        obtain ⟨o1, g1, _⟩ := j1
        obtain ⟨o2, g2, _⟩ := j2
        have hm := hm
        simp only [List.mem_cons, List.not_mem_nil, or_false] at hm
        rcases hm with rfl | rfl | rfl | rfl | rfl
        · exact zl
        · exact Heap.lt_size ht
        · exact Heap.lt_size ho
        · exact Heap.lt_size g1
        · exact Heap.lt_size g2
      rw [upd_ne (Nat.ne_of_lt lt)]
      exact (hf c hm).1
  · intro X hP hw hK hc i pins s σ H E I hf st hg
    subst hP hw hK
    obtain ⟨⟨hz, ht, x0, y0, ho⟩, j1, j2⟩ := st
    obtain ⟨xs, ys, ⟨hx, hy⟩, he⟩ := hg
    obtain ⟨its, rv, p1, _⟩ := inv_k I hx
    obtain ⟨its2, rv2, p2, _⟩ := inv_k I hy
    have m1 := rv.length
    have m2 := rv2.length
    have hh : X.A.in1.handled = none := I.ok.hd hc
    have d1 := draws_k (prog := X.prog) (w := X.w) (k := k1) hh D.l1i1 its.toArray
    have d2 := draws_k (prog := X.prog) (w := X.w) (k := k2) hh D.l2i2 its2.toArray
    refine wpAny_pyNext_zipD2_end (sep_k D) d1 d2 hz ht ho ⟨j1, p1⟩ ⟨j2, p2⟩ (by simp; omega) (by simp; omega) (by simp; omega) ?_
    intro h' tk hk
    refine ⟨rfl, I.turnedL (t' := tk) (ch := [z, TI, TO, i1, i2]) ?_ hf⟩
    intro c o hb q
    simp only [List.mem_cons, List.not_mem_nil, or_false, not_or] at hb
    exact hk c o hb.1 hb.2.2.1 hb.2.2.2.1 hb.2.2.2.2 q
end
section
variable {prog : Program} {w : World} {A : Around} {E : Value → Shared → Prop} {s : Shared}
theorem new_ll (l1 l2 : Addr) (xs ys : Array Value) : NewK "list_iterator" "list_iterator" (fun h => h.IsList l1 xs ∧ h.IsList l2 ys) l1 l2 :=
  .of_wp fun prog w A R s h => by
    obtain ⟨hp, g, d, tk, os⟩ := s
    obtain ⟨⟨q1, q2⟩, h⟩ := h
    have hsub := sub_zip
    have a1 : Heap.IsList (Shared.heap ⟨hp, g, d, tk, os⟩) l1 xs := q1
    have a2 : Heap.IsList (Shared.heap ⟨zk1 "list_iterator" hp l1, g, d, tk, os⟩) l2 ys := Heap.IsList.push q2 _
    wp_walk using wpAny_pyIter_list a1, wpAny_pyIter_list a2
    exact ⟨_, rfl, h⟩
theorem new_tt (l1 l2 : Addr) (xs ys : Array Value) : NewK "tuple_iterator" "tuple_iterator" (fun h => h.IsTuple l1 xs ∧ h.IsTuple l2 ys) l1 l2 :=
  .of_wp fun prog w A R s h => by
    obtain ⟨hp, g, d, tk, os⟩ := s
    obtain ⟨⟨q1, q2⟩, h⟩ := h
    have hsub := sub_zip
    have a1 : Heap.IsTuple (Shared.heap ⟨hp, g, d, tk, os⟩) l1 xs := q1
    have a2 : Heap.IsTuple (Shared.heap ⟨zk1 "tuple_iterator" hp l1, g, d, tk, os⟩) l2 ys := Heap.IsTuple.push q2 _
    wp_walk using wpAny_pyIter_tuple a1, wpAny_pyIter_tuple a2
    exact ⟨_, rfl, h⟩
theorem new_k (k1 k2 : Bool) (l1 l2 : Addr) (xs ys : Array Value) : NewK (kCls k1) (kCls k2) (fun h => kSeq k1 h l1 xs ∧ kSeq k2 h l2 ys) l1 l2 := by
  cases k1 <;> cases k2
  · exact new_tt l1 l2 xs ys
  · exact new_tl l1 l2 xs ys
  · exact new_lt l1 l2 xs ys
  · exact new_ll l1 l2 xs ys
end
def iZk (K : PySem.W.Frag) (ta : TA) : TI := fun σ H R => ta σ H fun vs H1 => ∃ (a b : Addr) (k1 k2 : Bool) (xs ys : List V), vs = [.ref a, .ref b] ∧ (kSq k1 K H1 a xs ∧ kSq k2 K H1 b ys) ∧ R (ItK k1 k2 K a b) H1
theorem pi_zk {X : Cx} {e e2 : Expr} {ta : TA} {p pos tpos : Pos} {elts : List Expr} {kk : Nat} (hg : Gl X "zip") (hm : X.mg "zip" = none) (ha : PA X [e, e2] ta)
    (hs : starEach [e, e2] X.env = (false, eval e X.env) :: starEach [e2] X.env := by rfl)
    (hpl : (backTo pos (starEach [e2] X.env)).any (·.1) = false := by rfl) : PI X (.Tuple elts kk tpos) (.Call (.Name "zip" p) [e, e2] [] pos) (iZk X.K ta) := by
  refine ⟨?_⟩
  intro pins s σ H R I h
  refine Call_ (ld_blt I hg hm PyProof.Rows.boot_zip ?_)
  refine PyProof.Rows.callWith_type1 (thn (ha.run pos pins s σ H _ I h) ?_) hs hpl
  rintro us s1 ⟨vs, H1, I1, r1, a, b, k1, k2, xs, ys, rfl, ⟨hx, hy⟩, q⟩
  cases r1 with
  | cons r rr =>
  cases rr with
  | cons r' rr =>
  cases rr
  cases r
  cases r'
  obtain ⟨its, rv, p1, la⟩ := inv_k I1 hx
  obtain ⟨its2, rv2, p2, lb⟩ := inv_k I1 hy
  refine call_zk (new_k k1 k2 a b its.toArray its2.toArray) ⟨p1, p2⟩ ?_
  intro h' Z
  refine wpAny_pyIter_zip Z.z ?_
  have I2 : Inv X pins σ H1 { s1 with heap := h' } := I1.kept (t' := s1.toks) Z.keep
  obtain ⟨n, en⟩ : ∃ n, n = s1.heap.objs.size := ⟨_, rfl⟩
  have T := turn_k (P := X.prog) (w := X.w) (K := X.K) (k1 := k1) (k2 := k2) (elts := elts) (kk := kk) (tpos := tpos) (PySem.W.ktu_apart s1.heap.objs.size a b la lb)
  refine ⟨s1.heap.objs.size + 4, _, _, _, H1, rfl, I2, T, ⟨⟨Z.z, Z.i, _, _, Z.o⟩, Z.i1, Z.i2⟩, ?_, q⟩
  intro c hm
  simp only [List.mem_cons, List.not_mem_nil, or_false] at hm
  have le : s1.heap.objs.size ≤ c := by
    rcases hm with rfl | rfl | rfl | rfl | rfl
    · exact Nat.le_add_right _ _
    · exact Nat.le_add_right _ _
    · exact Nat.le_add_right _ _
    · exact Nat.le_refl _
    · exact Nat.le_add_right _ _
  exact I1.fpOk le (I1.hok.fresh le)
theorem zipD_at {xs ys : List D} {i : Nat} {d : D} (h : (zipD xs ys)[i]? = some d) : ∃ x y, xs[i]? = some x ∧ ys[i]? = some y ∧ d = .tup [x, y] := by
  unfold zipD at h
  rw [List.getElem?_map] at h
  cases hz : (List.zip xs ys)[i]? with
  | none =>
    rw [hz] at h
    cases h
  | some q =>
    rw [hz] at h
    cases h
    obtain ⟨h1, h2⟩ := List.getElem?_zip_eq_some.mp hz
    exact ⟨_, _, h1, h2, rfl⟩
theorem zipD_len (xs ys : List D) : (zipD xs ys).length = min xs.length ys.length := by
  unfold zipD
  rw [List.length_map, List.length_zip]
theorem j_zk {K : PySem.W.Frag} {m0 : List Addr} {H0 : Hp} {k1 k2 : Bool} {a b : Addr} {q : Sq} {xs ys : List D} (hi : q.items = zipD xs ys)
    (h : ∀ (m : List Addr) (H : Hp) (st : Store), Ext K m0 H0 m H → SS K m st H → q.chk st = true → ∃ vs us, (kSq k1 K H a vs ∧ kSq k2 K H b us) ∧ RDs K m H xs vs ∧ RDs K m H ys us) : JOk K m0 H0 q (ItK k1 k2 K a b) := by
  intro m H st e s hc
  obtain ⟨vs, us, ⟨q1, q2⟩, r1, r2⟩ := h m H st e s hc
  refine ⟨?_, vs, us, ⟨q1, q2⟩, ?_⟩
  · intro i d hd
    rw [hi] at hd
    obtain ⟨x, y, hx, hy, rfl⟩ := zipD_at hd
    obtain ⟨v, hv, rv⟩ := r1.get hx
    obtain ⟨u, hu, ru⟩ := r2.get hy
    refine ⟨⟨vs, us, v, u, ⟨q1, q2⟩, hv, hu⟩, ?_⟩
    rintro z H' ⟨T, v', u', ⟨rfl, hT, rfl⟩, g1, g2⟩
    have z1 := g1 vs q1
    have z2 := g2 us q2
    rw [hv] at z1
    rw [hu] at z2
    cases z1
    cases z2
    have f := Ext.fresh (K := K) (m := m) (H := H) (o := .tup [v, u]) hT
    exact ⟨f, s.fresh hT, .tup (SqT.of upd_same) (.cons (rv.mono f) (.cons (ru.mono f) .nil))⟩
  · rw [hi, zipD_len, r1.len, r2.len]
    omega
end HM

/-! HM, part 13: max and min of tuples, index. -/
namespace HM
open PySem PySem.Spec PyProof.Rows L2
section
variable {prog : Program} {w : World} {A : Around} {E : Value → Shared → Prop} {s : Shared}
/-- the greatest of a tuple's ints -/
theorem tup_max {t : Addr} {xs : Array (Int × Tok)} {Q : Value → Shared → Prop} (hh : A.handled = none) (ht : s.heap.IsTuple t (intItems xs)) (hne : 0 < xs.size)
    (h : ∀ v h' tk, (intItems xs)[argBest (fun i j => decide (numAt xs i > numAt xs j)) (xs.size - 1)]? = some v → (∀ b o, s.heap.get? b = some o → h'.get? b = some o) → Q v { s with heap := h', toks := tk }) :
    wpAny (model prog w) A (call (.builtin "max") [.ref t]) Q E s := by
  obtain ⟨ob, o1, _, _, _⟩ := id ht
  have sz : (intItems xs).size = xs.size := by simp [intItems]
  refine call_max_walk (wpAny_pyIter_tuple ht ?_)
  refine ⟨_, [_, t], [_], _, _, _, _, rfl, Walks.tuple (A := A.in1) hh s.heap.objs.size t (Nat.ne_of_lt (Heap.lt_size o1)) (intItems xs), ⟨⟨_, Heap.get?_push_size _ rfl, rfl, rfl⟩, ht.push _⟩, fun b hb => ?_, by omega, CmpOf.ints_gt (numAt xs) (fun _ _ => intItems_at), fun v h' tk hP hk => ?_⟩
  · rcases List.mem_cons.mp hb with rfl | hb
    · exact Heap.lt_size (Heap.get?_push_size _ rfl)
    · rw [List.mem_singleton.mp hb]
      exact Heap.lt_size (Heap.get?_push_of_some _ o1)
  · rw [sz] at hP
    exact h v h' tk hP fun b o e => hk b o (fun hm => absurd (Heap.lt_size e) (by rw [List.mem_singleton.mp hm]; exact Nat.lt_irrefl _)) (Heap.get?_push_of_some _ e)
theorem tup_min {t : Addr} {xs : Array (Int × Tok)} {Q : Value → Shared → Prop} (hh : A.handled = none) (ht : s.heap.IsTuple t (intItems xs)) (hne : 0 < xs.size)
    (h : ∀ v h' tk, (intItems xs)[argBest (fun i j => decide (numAt xs i < numAt xs j)) (xs.size - 1)]? = some v → (∀ b o, s.heap.get? b = some o → h'.get? b = some o) → Q v { s with heap := h', toks := tk }) :
    wpAny (model prog w) A (call (.builtin "min") [.ref t]) Q E s := by
  obtain ⟨ob, o1, _, _, _⟩ := id ht
  have sz : (intItems xs).size = xs.size := by simp [intItems]
  refine call_min_walk (wpAny_pyIter_tuple ht ?_)
  refine ⟨_, [_, t], [_], _, _, _, _, rfl, Walks.tuple (A := A.in1) hh s.heap.objs.size t (Nat.ne_of_lt (Heap.lt_size o1)) (intItems xs), ⟨⟨_, Heap.get?_push_size _ rfl, rfl, rfl⟩, ht.push _⟩, fun b hb => ?_, by omega, CmpOf.ints_lt (numAt xs) (fun _ _ => intItems_at), fun v h' tk hP hk => ?_⟩
  · rcases List.mem_cons.mp hb with rfl | hb
    · exact Heap.lt_size (Heap.get?_push_size _ rfl)
    · rw [List.mem_singleton.mp hb]
      exact Heap.lt_size (Heap.get?_push_of_some _ o1)
  · rw [sz] at hP
    exact h v h' tk hP fun b o e => hk b o (fun hm => absurd (Heap.lt_size e) (by rw [List.mem_singleton.mp hm]; exact Nat.lt_irrefl _)) (Heap.get?_push_of_some _ e)
end
section
variable {X : Cx} {W : WX} {e : Expr} {pos p : Pos}
def rMaxT (K : PySem.W.Frag) : List V → Hp → VK → Prop := fun vs H Q => ∃ (a : Addr) (ns : List Int), vs = [V.ref a] ∧ SqT K H a (ns.map V.int) ∧ 0 < ns.length ∧ ∀ m, m ∈ ns → (∀ y, y ∈ ns → y ≤ m) → Q (.int m) H
def rMinT (K : PySem.W.Frag) : List V → Hp → VK → Prop := fun vs H Q => ∃ (a : Addr) (ns : List Int), vs = [V.ref a] ∧ SqT K H a (ns.map V.int) ∧ 0 < ns.length ∧ ∀ m, m ∈ ns → (∀ y, y ∈ ns → m ≤ y) → Q (.int m) H
theorem cr_maxT (hc : X.calm = true) : CallR X (.builtin "max") (rMaxT X.K) := by
  intro pins s σ H vs us Q I r h
  obtain ⟨a, ns, rfl, hs, hne, q⟩ := h
  obtain ⟨its, rv, hl, _⟩ := I.tuple hs
  rw [Vals.ref1 r]
  have hi := rv.ints
  obtain ⟨xs, e⟩ := hi.allInts.items
  have hn : numsOf (intItems xs).toList = ns := by rw [← e]; exact hi.numsOf
  rw [nums_intItems] at hn
  subst hn
  obtain ⟨ob, ho, hcl, n, hd⟩ := hl
  have ht : s.heap.IsTuple a (intItems xs) := by
    rw [← e]
    exact ⟨ob, ho, hcl, n, hd⟩
  have hsz : 0 < xs.size := by simpa using hne
  refine tup_max (I.ok.hd hc) ht hsz fun v h' tk hv hk => ?_
  obtain ⟨t, rfl⟩ := intItems_at hv
  obtain ⟨h1, h2⟩ := argBest_gt (numAt xs) (xs.size - 1)
  refine ⟨.int _, H, I.kept hk, ⟨_, rfl⟩, q _ ?_ fun y hy => ?_⟩
  · rw [numAt_eq]
    exact PySem.getD_mem (by rw [List.length_map, Array.length_toList]; omega)
  · obtain ⟨j, hj, rfl⟩ := mem_getD hy
    rw [List.length_map, Array.length_toList] at hj
    rw [← numAt_eq]
    exact h2 j (by omega)
theorem cr_minT (hc : X.calm = true) : CallR X (.builtin "min") (rMinT X.K) := by
  intro pins s σ H vs us Q I r h
  obtain ⟨a, ns, rfl, hs, hne, q⟩ := h
  obtain ⟨its, rv, hl, _⟩ := I.tuple hs
  rw [Vals.ref1 r]
  have hi := rv.ints
  obtain ⟨xs, e⟩ := hi.allInts.items
  have hn : numsOf (intItems xs).toList = ns := by rw [← e]; exact hi.numsOf
  rw [nums_intItems] at hn
  subst hn
  obtain ⟨ob, ho, hcl, n, hd⟩ := hl
  have ht : s.heap.IsTuple a (intItems xs) := by
    rw [← e]
    exact ⟨ob, ho, hcl, n, hd⟩
  have hsz : 0 < xs.size := by simpa using hne
  refine tup_min (I.ok.hd hc) ht hsz fun v h' tk hv hk => ?_
  obtain ⟨t, rfl⟩ := intItems_at hv
  obtain ⟨h1, h2⟩ := argBest_lt (numAt xs) (xs.size - 1)
  refine ⟨.int _, H, I.kept hk, ⟨_, rfl⟩, q _ ?_ fun y hy => ?_⟩
  · rw [numAt_eq]
    exact PySem.getD_mem (by rw [List.length_map, Array.length_toList]; omega)
  · obtain ⟨j, hj, rfl⟩ := mem_getD hy
    rw [List.length_map, Array.length_toList] at hj
    rw [← numAt_eq]
    exact h2 j (by omega)
theorem max_uniq {ns : List Int} {k m : Int} (hk : maxI ns = some k) (hm : m ∈ ns) (hy : ∀ y ∈ ns, y ≤ m) : m = k := by
  cases ns with
  | nil => cases hk
  | cons n ns =>
    have hk : some (ns.foldl max n) = some k := hk
    cases hk
    obtain ⟨h1, h2, h3⟩ := foldl_max_ge ns n
    refine Int.le_antisymm ?_ ?_
    · rcases List.mem_cons.mp hm with rfl | hm
      · exact h1
      · exact h2 m hm
    · rcases h3 with h3 | h3
      · rw [h3]
        exact hy n (List.mem_cons_self ..)
      · exact hy _ (List.mem_cons_of_mem _ h3)
theorem min_uniq {ns : List Int} {k m : Int} (hk : minI ns = some k) (hm : m ∈ ns) (hy : ∀ y ∈ ns, m ≤ y) : m = k := by
  cases ns with
  | nil => cases hk
  | cons n ns =>
    have hk : some (ns.foldl min n) = some k := hk
    cases hk
    obtain ⟨h1, h2, h3⟩ := foldl_min_le ns n
    refine Int.le_antisymm ?_ ?_
    · rcases h3 with h3 | h3
      · rw [h3]
        exact hy n (List.mem_cons_self ..)
      · exact hy _ (List.mem_cons_of_mem _ h3)
    · rcases List.mem_cons.mp hm with rfl | hm
      · exact h1
      · exact h2 m hm
theorem maxI_pos {ns : List Int} {k : Int} (hk : maxI ns = some k) : 0 < ns.length := by
  cases ns with
  | nil => cases hk
  | cons n ns => simp
theorem minI_pos {ns : List Int} {k : Int} (hk : minI ns = some k) : 0 < ns.length := by
  cases ns with
  | nil => cases hk
  | cons n ns => simp
theorem sv_max (hc : X.calm = true) : CallS X (.builtin "max") gMax := ⟨_, (cr_max hc).or (cr_maxT hc), fun m st H ds v E Q hS r hP => by
  obtain ⟨a, vs, rfl, q, rs⟩ := r
  unfold gMax at hP
  split at hP
  · rename_i k hk
    cases hn : intsD ds with
    | none =>
      rw [hn] at hk
      cases hk
    | some ns =>
      rw [hn] at hk
      have hk : maxI ns = some k := hk
      have e := intsD_V rs hn
      subst e
      have fin : ∀ mm, mm ∈ ns → (∀ y, y ∈ ns → y ≤ mm) → Q (.int mm) H := fun mm hm hy => by
        rw [max_uniq hk hm hy]
        exact hP.now hS (.int _)
      rcases q with q | q
      · exact .inl ⟨a, ns, rfl, q, maxI_pos hk, fin⟩
      · exact .inr ⟨a, ns, rfl, q, maxI_pos hk, fin⟩
  · exact hP.elim⟩
theorem sv_min (hc : X.calm = true) : CallS X (.builtin "min") gMin := ⟨_, (cr_min hc).or (cr_minT hc), fun m st H ds v E Q hS r hP => by
  obtain ⟨a, vs, rfl, q, rs⟩ := r
  unfold gMin at hP
  split at hP
  · rename_i k hk
    cases hn : intsD ds with
    | none =>
      rw [hn] at hk
      cases hk
    | some ns =>
      rw [hn] at hk
      have hk : minI ns = some k := hk
      have e := intsD_V rs hn
      subst e
      have fin : ∀ mm, mm ∈ ns → (∀ y, y ∈ ns → mm ≤ y) → Q (.int mm) H := fun mm hm hy => by
        rw [min_uniq hk hm hy]
        exact hP.now hS (.int _)
      rcases q with q | q
      · exact .inl ⟨a, ns, rfl, q, minI_pos hk, fin⟩
      · exact .inr ⟨a, ns, rfl, q, minI_pos hk, fin⟩
  · exact hP.elim⟩
end
/-! ### tuple(range(..)), list(range(..)) -/
section
variable {X : Cx} {W : WX} {e a b : Expr} {pos p p2 : Pos} {fa fb : EM D}
def okLen (j : Int) : Bool := decide (j.toNat ≤ 16777216) && decide (0 ≤ j)
theorem rng_rds {K : PySem.W.Frag} {m : List Addr} {H : Hp} {i j : Int} : RDs K m H (rng i j) (rgV i j) := by
  have e1 : rng i j = ((List.range (j - i).toNat).map fun k : Nat => i + (k : Int)).map D.int := by
    unfold rng
    rw [List.map_map]
    rfl
  have e2 : rgV i j = ((List.range (j - i).toNat).map fun k : Nat => i + (k : Int)).map V.int := by
    unfold rgV
    rw [List.map_map]
    rfl
  rw [e1, e2]
  exact RDs.ints _
theorem rg_ok {i j : Int} (hi : okLen i = true) (hj : okLen j = true) : RgOk i j := by
  unfold okLen at hi hj
  rw [Bool.and_eq_true, decide_eq_true_eq, decide_eq_true_eq] at hi hj
  exact RgOk.of_le hi.2 (by omega) (by omega) hj.2
def kTup (i j : Int) (st : Store) : ER D := if okLen i && okLen j then .ok (.tup (rng i j)) st else .bad
def kLst (i j : Int) (st : Store) : ER D := if okLen i && okLen j then .ok (.ref st.length) (st ++ [.lst (rng i j)]) else .bad
def eRg1 (k : Int → Int → Store → ER D) (fa : EM D) : EM D := fun τ st => (fa τ st).bind fun d s1 => match d with
  | .int j => k 0 j s1
  | _ => .bad
def eRg2 (k : Int → Int → Store → ER D) (fa fb : EM D) : EM D := fun τ st => (fa τ st).bind fun d s1 => (fb τ s1).bind fun e s2 => match d, e with
  | .int i, .int j => k i j s2
  | _, _ => .bad
theorem kTup_ok {K : PySem.W.Frag} {E : XK} {m : List Addr} {st : Store} {H : Hp} {Q : VK} {i j : Int} (hS : SS K m st H) (hP : Pe K E (RD K) m H (kTup i j st) Q) : RgOk i j ∧ ∀ q, H q = none → Q (.ref q) (upd H q (.tup (rgV i j))) := by
  unfold kTup at hP
  split at hP
  · rename_i hc
    rw [Bool.and_eq_true] at hc
    exact ⟨rg_ok hc.1 hc.2, hP.tup hS rng_rds⟩
  · exact hP.elim
theorem kLst_ok {K : PySem.W.Frag} {E : XK} {m : List Addr} {st : Store} {H : Hp} {Q : VK} {i j : Int} (hS : SS K m st H) (hP : Pe K E (RD K) m H (kLst i j st) Q) : RgOk i j ∧ ∀ q, H q = none → Q (.ref q) (upd H q (.lst (rgV i j))) := by
  unfold kLst at hP
  split at hP
  · rename_i hc
    rw [Bool.and_eq_true] at hc
    exact ⟨rg_ok hc.1 hc.2, hP.lst hS rng_rds⟩
  · exact hP.elim
theorem ex_tupRg1 (hc : X.calm = true) (hg : Gl X "tuple") (hm : X.mg "tuple" = none) (hg2 : Gl X "range") (hm2 : X.mg "range" = none) (ha : Ex X W a fa) (na : starEach [.Call (.Name "range" p2) [a] [] pos] X.env = (false, eval (.Call (.Name "range" p2) [a] [] pos) X.env) :: starEach [] X.env := by rfl) (nb : starEach [a] X.env = (false, eval a X.env) :: starEach [] X.env := by rfl) {pos2 : Pos} :
    Ex X W (.Call (.Name "tuple" p) [.Call (.Name "range" p2) [a] [] pos] [] pos2) (eRg1 kTup fa) := by
  refine ⟨fun m τ st σ H Q hL hS hP pins s I => (pe_tupRg hc hg hm (prg_1 hg2 hm2 peW nb) na).run pins s σ H Q I ?_⟩
  refine ha.run m τ st σ H _ hL hS (hP.bind fun d s1 m1 H1 v e1 hS1 r1 hP1 => ?_)
  split at hP1
  · cases r1
    exact ⟨_, rfl, kTup_ok hS1 hP1⟩
  · exact hP1.elim
theorem ex_lstRg1 (hc : X.calm = true) (hg : Gl X "list") (hm : X.mg "list" = none) (hg2 : Gl X "range") (hm2 : X.mg "range" = none) (ha : Ex X W a fa) (na : starEach [.Call (.Name "range" p2) [a] [] pos] X.env = (false, eval (.Call (.Name "range" p2) [a] [] pos) X.env) :: starEach [] X.env := by rfl) (nb : starEach [a] X.env = (false, eval a X.env) :: starEach [] X.env := by rfl) {pos2 : Pos} :
    Ex X W (.Call (.Name "list" p) [.Call (.Name "range" p2) [a] [] pos] [] pos2) (eRg1 kLst fa) := by
  refine ⟨fun m τ st σ H Q hL hS hP pins s I => (pe_listRg hc hg hm (prg_1 hg2 hm2 peW nb) na).run pins s σ H Q I ?_⟩
  refine ha.run m τ st σ H _ hL hS (hP.bind fun d s1 m1 H1 v e1 hS1 r1 hP1 => ?_)
  split at hP1
  · cases r1
    exact ⟨_, rfl, kLst_ok hS1 hP1⟩
  · exact hP1.elim
end
/-! ### zip of two -/
section
variable {X : Cx} {W : WX} {a b : Expr} {pos p tpos : Pos} {fa fb : EM D}
def zip2 (d e : D) (st : Store) : ER Sq := match d, e with
  | .tup xs, .tup ys => .ok (.fix (zipD xs ys)) st
  | .ref n, .ref k => match lstAt st n, lstAt st k with
    | some xs, some ys => .ok (.two n k xs ys) st
    | _, _ => .bad
  | .ref n, .tup ys => match lstAt st n with
    | some xs => .ok (.mix true n xs ys) st
    | none => .bad
  | .tup xs, .ref n => match lstAt st n with
    | some ys => .ok (.mix false n xs ys) st
    | none => .bad
  | _, _ => .bad
def iZip (fa fb : EM D) : EM Sq := fun τ st => (fa τ st).bind fun d s1 => (fb τ s1).bind fun e s2 => zip2 d e s2
theorem ei_zip {elts : List Expr} {kk : Nat} (hg : Gl X "zip") (hm : X.mg "zip" = none) (ha : Ex X W a fa) (hb : Ex X W b fb)
    (hs : starEach [a, b] X.env = (false, eval a X.env) :: starEach [b] X.env := by rfl) (hs2 : starEach [b] X.env = (false, eval b X.env) :: starEach [] X.env := by rfl) (hpl : (backTo pos (starEach [b] X.env)).any (·.1) = false := by rfl) :
    Ei X W (.Tuple elts kk tpos) (.Call (.Name "zip" p) [a, b] [] pos) (iZip fa fb) := by
  refine ⟨fun m τ st σ H R hL hS hP pins s I => (pi_zk (elts := elts) (kk := kk) (tpos := tpos) hg hm (pa_cons peW (pa_cons peW pa_nil hs2) hs) hs hpl).run pins s σ H R I ?_⟩
  refine two ha hb hL hS hP fun m2 st2 H2 dx dy x y e2 hS2 r1 r2 hP2 => ?_
  unfold zip2 at hP2
  split at hP2
  · cases r1 with
    | tup q rs =>
      cases r2 with
      | tup q2 rs2 => exact ⟨_, _, false, false, _, _, rfl, ⟨q, q2⟩, hP2.now hS2 (j_zk rfl fun m H st e s _ => ⟨_, _, ⟨e.tup _ _ q, e.tup _ _ q2⟩, rs.mono e, rs2.mono e⟩)⟩
  · split at hP2
    · rename_i xs ys hx hy
      cases r1 with
      | ref q =>
        cases r2 with
        | ref q2 =>
          obtain ⟨vs, h1, _⟩ := hS2.list hx q
          obtain ⟨us, h2, _⟩ := hS2.list hy q2
          refine ⟨_, _, true, true, vs, us, rfl, ⟨SqL.of h1, SqL.of h2⟩, hP2.now hS2 (j_zk rfl fun m H st e s hc => ?_)⟩
          have hc : (decide (lstAt st _ = some xs) && decide (lstAt st _ = some ys)) = true := hc
          rw [Bool.and_eq_true, decide_eq_true_eq, decide_eq_true_eq] at hc
          obtain ⟨vs, h1, r1⟩ := s.list hc.1 (e.pre _ _ q)
          obtain ⟨us, h2, r2⟩ := s.list hc.2 (e.pre _ _ q2)
          exact ⟨vs, us, ⟨SqL.of h1, SqL.of h2⟩, r1, r2⟩
    · exact hP2.elim
  · split at hP2
    · rename_i xs hx
      cases r1 with
      | ref q =>
        cases r2 with
        | tup q2 rs2 =>
          obtain ⟨vs, h1, _⟩ := hS2.list hx q
          refine ⟨_, _, true, false, vs, _, rfl, ⟨SqL.of h1, q2⟩, hP2.now hS2 (j_zk rfl fun m H st e s hc => ?_)⟩
          have hc : decide (lstAt st _ = some xs) = true := hc
          rw [decide_eq_true_eq] at hc
          obtain ⟨vs, h1, r1⟩ := s.list hc (e.pre _ _ q)
          exact ⟨vs, _, ⟨SqL.of h1, e.tup _ _ q2⟩, r1, rs2.mono e⟩
    · exact hP2.elim
  · split at hP2
    · rename_i ys hy
      cases r1 with
      | tup q rs =>
        cases r2 with
        | ref q2 =>
          obtain ⟨us, h2, _⟩ := hS2.list hy q2
          refine ⟨_, _, false, true, _, us, rfl, ⟨q, SqL.of h2⟩, hP2.now hS2 (j_zk rfl fun m H st e s hc => ?_)⟩
          have hc : decide (lstAt st _ = some ys) = true := hc
          rw [decide_eq_true_eq] at hc
          obtain ⟨us, h2, r2⟩ := s.list hc (e.pre _ _ q2)
          exact ⟨_, us, ⟨e.tup _ _ q, SqL.of h2⟩, rs.mono e, r2⟩
    · exact hP2.elim
  · exact hP2.elim
end
end HM

/-! HM, part S: how mirrors are computed (simp). -/
namespace HM
open PySem PySem.Spec PyProof.Rows L2
section
variable {α β : Type} {τ : Sl} {st : Store} {f g h fa fb fc fe fo fi : EM D} {fs : EM (List D)} {ga gb : EM Bool} {i n : Nat} {d : D} {u v : SM}
@[simp] theorem eVar_e (hh : τ[i]? = some (some d)) : eVar i τ st = .ok d st := by unfold eVar; rw [hh]
@[simp] theorem eC_e : eC d τ st = .ok d st := rfl
@[simp] theorem eBin_e {o : O2} : eBin o fa fb τ st = (fa τ st).bind fun x s1 => (fb τ s1).bind fun y s2 => o x y s2 := rfl
@[simp] theorem eUn_e {o : O1} : eUn o fa τ st = (fa τ st).bind o := rfl
@[simp] theorem tBl_e : tBl fa τ st = (fa τ st).bind dBl := rfl
@[simp] theorem dBl_e {b : Bool} : dBl (.bl b) st = .ok b st := rfl
def oTru (d : D) (st : Store) : ER Bool := match dTru st d with
  | some b => .ok b st
  | none => .bad
@[simp] theorem tVal_e : tVal fa τ st = (fa τ st).bind oTru := rfl
@[simp] theorem oTru_bl {b : Bool} : oTru (.bl b) st = .ok b st := rfl
@[simp] theorem oTru_int {k : Int} : oTru (.int k) st = .ok (k != 0) st := rfl
@[simp] theorem oTru_non : oTru .non st = .ok false st := rfl
@[simp] theorem oTru_tup {xs : List D} : oTru (.tup xs) st = .ok (!xs.isEmpty) st := rfl
@[simp] theorem tAnd_e : HM.tAnd ga gb τ st = (ga τ st).bind fun x s1 => if x then gb τ s1 else .ok false s1 := rfl
@[simp] theorem tOr_e : HM.tOr ga gb τ st = (ga τ st).bind fun x s1 => if x then .ok true s1 else gb τ s1 := rfl
@[simp] theorem tNot_e : HM.tNot ga τ st = (ga τ st).bind fun x s1 => .ok (!x) s1 := rfl
@[simp] theorem tYes_e : HM.tYes τ st = .ok true st := rfl
def oAndV (k : Store → ER D) (d : D) (st : Store) : ER D := match dTru st d with
  | some true => k st
  | some false => .ok d st
  | none => .bad
def oOrV (k : Store → ER D) (d : D) (st : Store) : ER D := match dTru st d with
  | some true => .ok d st
  | some false => k st
  | none => .bad
def oNotV (d : D) (st : Store) : ER D := match dTru st d with
  | some b => .ok (.bl !b) st
  | none => .bad
@[simp] theorem eAnd_e : eAnd fa fb τ st = (fa τ st).bind (oAndV (fb τ)) := rfl
@[simp] theorem eOr_e : eOr fa fb τ st = (fa τ st).bind (oOrV (fb τ)) := rfl
@[simp] theorem eNot_e : eNot fa τ st = (fa τ st).bind oNotV := rfl
@[simp] theorem oAndV_bl {k : Store → ER D} {b : Bool} : oAndV k (.bl b) st = if b then k st else .ok (.bl false) st := by cases b <;> rfl
@[simp] theorem oOrV_bl {k : Store → ER D} {b : Bool} : oOrV k (.bl b) st = if b then .ok (.bl true) st else k st := by cases b <;> rfl
@[simp] theorem oNotV_bl {b : Bool} : oNotV (.bl b) st = .ok (.bl !b) st := rfl
@[simp] theorem eIf_e : eIf ga fa fb τ st = (ga τ st).bind fun x s1 => if x then fa τ s1 else fb τ s1 := rfl
@[simp] theorem aNil_e : aNil τ st = .ok [] st := rfl
@[simp] theorem aCons_e : aCons f fs τ st = (f τ st).bind fun x s1 => (fs τ s1).bind fun xs s2 => .ok (x :: xs) s2 := rfl
@[simp] theorem eTup_e : eTup fs τ st = (fs τ st).bind fun xs s1 => if xs.length ≤ 16777216 then .ok (.tup xs) s1 else .bad := rfl
@[simp] theorem eLst_e : eLst fs τ st = (fs τ st).bind fun xs s1 => if xs.length ≤ 16777216 then .ok (.ref s1.length) (s1 ++ [.lst xs]) else .bad := rfl
@[simp] theorem eCall_e {mf : FM} : eCall n mf fs τ st = (fs τ st).bind fun ds s1 => if ds.length = n then mf ds s1 else .bad := rfl
@[simp] theorem eCB_e {mf : FM} : eCB mf fs τ st = (fs τ st).bind mf := rfl
@[simp] theorem eCS_e {g : SM1} : eCS g fs τ st = (fs τ st).bind g := rfl
@[simp] theorem eEl_e : eEl fs τ st = (fs τ st).bind fun ds s1 => .ok (.ref s1.length) (s1 ++ [.lst ds]) := rfl
def oSeq (d : D) (st : Store) : ER (List D) := match dSeq st d with
  | some xs => .ok xs st
  | none => .bad
@[simp] theorem sEx_e : sEx f τ st = (f τ st).bind oSeq := rfl
@[simp] theorem oSeq_tup {xs : List D} : oSeq (.tup xs) st = .ok xs st := rfl
@[simp] theorem oSeq_rol {xs : List D} : oSeq (.rol xs) st = .ok xs st := rfl
@[simp] theorem eChain_e {o o' : O2} : eChain o o' fa fb fc τ st = (fa τ st).bind fun x s1 => (fb τ s1).bind fun y s2 => (o x y s2).bind fun z s3 => match z with
  | .bl true => (fc τ s3).bind fun w s4 => o' y w s4
  | .bl false => .ok (.bl false) s3
  | _ => .bad := rfl
/-! values -/
@[simp] theorem oAdd_int {i j : Int} : oAdd (.int i) (.int j) st = .ok (.int (i + j)) st := rfl
@[simp] theorem oIAdd_int {i j : Int} : oIAdd (.int i) (.int j) st = .ok (.int (i + j)) st := rfl
@[simp] theorem oAdd_str {a b : List Nat} : oAdd (.str a) (.str b) st = if a.length + b.length ≤ 16777216 then .ok (.str (a ++ b)) st else .bad := rfl
@[simp] theorem oAdd_tup {a b : List D} : oAdd (.tup a) (.tup b) st = if a.length + b.length ≤ 16777216 then .ok (.tup (a ++ b)) st else .bad := rfl
@[simp] theorem oInt_e {i j : Int} {k : Int → Int → Int} : oInt k (.int i) (.int j) st = .ok (.int (k i j)) st := rfl
@[simp] theorem oIntC_e {i j : Int} {C : Int → Int → Bool} {k : Int → Int → Int} (hc : C i j = true) : oIntC C k (.int i) (.int j) st = .ok (.int (k i j)) st := by
  show (if C i j = true then _ else _) = _
  rw [if_pos hc]
@[simp] theorem oCmp_e {i j : Int} {k : Int → Int → Bool} : oCmp k (.int i) (.int j) st = .ok (.bl (k i j)) st := rfl
@[simp] theorem oNeg_e {i : Int} : oNeg (.int i) st = .ok (.int (-i)) st := rfl
@[simp] theorem oEq_int {i j : Int} : oEq (.int i) (.int j) st = .ok (.bl (decide (i = j))) st := rfl
@[simp] theorem oNe_int {i j : Int} : oNe (.int i) (.int j) st = .ok (.bl !(decide (i = j))) st := rfl
@[simp] theorem oEq_str {a b : List Nat} : oEq (.str a) (.str b) st = .ok (.bl (decide (a = b))) st := rfl
@[simp] theorem oNe_str {a b : List Nat} : oNe (.str a) (.str b) st = .ok (.bl !(decide (a = b))) st := rfl
@[simp] theorem oEq_bl {a b : Bool} : oEq (.bl a) (.bl b) st = .ok (.bl (decide (a = b))) st := rfl
@[simp] theorem oNe_bl {a b : Bool} : oNe (.bl a) (.bl b) st = .ok (.bl !(decide (a = b))) st := rfl
@[simp] theorem oEq_tup {a b : List D} (ha : (D.tup a).plain 60 = true) (hb : (D.tup b).plain 60 = true) : oEq (.tup a) (.tup b) st = .ok (.bl (decide (a = b))) st := by
  simp [oEq, dEq, D.pd, ha, hb]
@[simp] theorem oNe_tup {a b : List D} (ha : (D.tup a).plain 60 = true) (hb : (D.tup b).plain 60 = true) : oNe (.tup a) (.tup b) st = .ok (.bl !(decide (a = b))) st := by
  simp [oNe, dEq, D.pd, ha, hb]
@[simp] theorem plain_tup {n : Nat} {xs : List D} : (D.tup xs).plain (n + 1) = xs.all (D.plain n) := rfl
@[simp] theorem plain_int {n : Nat} {k : Int} : (D.int k).plain n = true := by cases n <;> rfl
@[simp] theorem plain_non {n : Nat} : D.non.plain n = true := by cases n <;> rfl
@[simp] theorem plain_str {n : Nat} {x : List Nat} : (D.str x).plain n = x.all fun c => decide (c < 1114112) := by cases n <;> rfl
@[simp] theorem oIs_bl {a b : Bool} : oIs (.bl a) (.bl b) st = .ok (.bl (decide (a = b))) st := rfl
@[simp] theorem oIsNot_bl {a b : Bool} : oIsNot (.bl a) (.bl b) st = .ok (.bl !(decide (a = b))) st := rfl
@[simp] theorem oIs_non : oIs .non .non st = .ok (.bl true) st := rfl
@[simp] theorem oIs_int {i : Int} : oIs (.int i) .non st = .ok (.bl false) st := rfl
@[simp] theorem oIs_tup {xs : List D} : oIs (.tup xs) .non st = .ok (.bl false) st := rfl
@[simp] theorem oIsNot_non : oIsNot .non .non st = .ok (.bl false) st := rfl
@[simp] theorem oIsNot_int {i : Int} : oIsNot (.int i) .non st = .ok (.bl true) st := rfl
@[simp] theorem oIsNot_tup {xs : List D} : oIsNot (.tup xs) .non st = .ok (.bl true) st := rfl
def ofO (st : Store) : Option D → ER D
  | some d => .ok d st
  | none => .bad
@[simp] theorem ofO_some : ofO st (some d) = .ok d st := rfl
@[simp] theorem oIx_tup {xs : List D} {k : Int} : oIx (.tup xs) (.int k) st = ofO st (atI xs k) := by
  unfold oIx ofO
  simp only <;> (split <;> simp_all)
theorem oIx_ref {xs : List D} {m : Nat} {k : Int} (hh : lstAt st m = some xs) : oIx (.ref m) (.int k) st = ofO st (atI xs k) := by
  unfold oIx ofO
  simp only [hh] <;> (split <;> simp_all)
@[simp] theorem atI_0 {α : Type} {x : α} {xs : List α} : atI (x :: xs) 0 = some x := by simp [atI, ixN]
@[simp] theorem atI_1 {α : Type} {x y : α} {xs : List α} : atI (x :: y :: xs) 1 = some y := atI_nat (j := 1) rfl
@[simp] theorem atI_2 {α : Type} {x y z : α} {xs : List α} : atI (x :: y :: z :: xs) 2 = some z := atI_nat (j := 2) rfl
@[simp] theorem atI_3 {α : Type} {x y z w : α} {xs : List α} : atI (x :: y :: z :: w :: xs) 3 = some w := atI_nat (j := 3) rfl
/-! built-ins -/
@[simp] theorem fInt_int {i : Int} : fInt [.int i] st = .ok (.int i) st := rfl
@[simp] theorem fInt_bl {b : Bool} : fInt [.bl b] st = .ok (.int (if b then 1 else 0)) st := rfl
@[simp] theorem fAbs_e {i : Int} : fAbs [.int i] st = .ok (.int (i.natAbs : Nat)) st := rfl
@[simp] theorem fGcd_e {i j : Int} : fGcd [.int i, .int j] st = .ok (.int (Nat.gcd i.natAbs j.natAbs : Nat)) st := rfl
@[simp] theorem fLen_tup {xs : List D} : fLen [.tup xs] st = .ok (.int xs.length) st := rfl
@[simp] theorem fLen_rol {xs : List D} : fLen [.rol xs] st = .ok (.int xs.length) st := rfl
theorem fLen_ref {xs : List D} {m : Nat} (hh : lstAt st m = some xs) : fLen [.ref m] st = .ok (.int xs.length) st := by simp [fLen, dSeq, hh]
@[simp] theorem fTuple_tup {xs : List D} : fTuple [.tup xs] st = .ok (.tup xs) st := rfl
theorem fTuple_ref {xs : List D} {m : Nat} (hh : lstAt st m = some xs) : fTuple [.ref m] st = .ok (.tup xs) st := by simp [fTuple, dSeq, hh]
@[simp] theorem gTuple_e {xs : List D} : gTuple xs st = .ok (.tup xs) st := rfl
@[simp] theorem gLen_e {xs : List D} : gLen xs st = .ok (.int xs.length) st := rfl
@[simp] theorem fMin2_e {i j : Int} : fMin2 [.int i, .int j] st = .ok (.int (if j < i then j else i)) st := rfl
@[simp] theorem fMax2_e {i j : Int} : fMax2 [.int i, .int j] st = .ok (.int (if j > i then j else i)) st := rfl
theorem fIsi_e {t c : String} {b : Bool} (h1 : dTy st d = some t) (h2 : isiT t c = some b) : fIsi [d, .ty c] st = .ok (.bl b) st := by simp [fIsi, h1, h2]
theorem isi1 : isiT "int" "int" = some true := by decide +kernel
theorem isi2 : isiT "int" "bool" = some false := by decide +kernel
theorem isi3 : isiT "bool" "int" = some true := by decide +kernel
theorem isi4 : isiT "bool" "bool" = some true := by decide +kernel
theorem isi5 : isiT "tuple" "tuple" = some true := by decide +kernel
theorem isi6 : isiT "tuple" "int" = some false := by decide +kernel
theorem isi7 : isiT "str" "str" = some true := by decide +kernel
theorem isi8 : isiT "str" "int" = some false := by decide +kernel
theorem isi9 : isiT "NoneType" "int" = some false := by decide +kernel
@[simp] theorem fIsi_ii {i : Int} : fIsi [.int i, .ty "int"] st = .ok (.bl true) st := fIsi_e rfl isi1
@[simp] theorem fIsi_ib {i : Int} : fIsi [.int i, .ty "bool"] st = .ok (.bl false) st := fIsi_e rfl isi2
@[simp] theorem fIsi_bi {i : Bool} : fIsi [.bl i, .ty "int"] st = .ok (.bl true) st := fIsi_e rfl isi3
@[simp] theorem fIsi_bb {i : Bool} : fIsi [.bl i, .ty "bool"] st = .ok (.bl true) st := fIsi_e rfl isi4
@[simp] theorem fIsi_tt {xs : List D} : fIsi [.tup xs, .ty "tuple"] st = .ok (.bl true) st := fIsi_e rfl isi5
@[simp] theorem fIsi_ti {xs : List D} : fIsi [.tup xs, .ty "int"] st = .ok (.bl false) st := fIsi_e rfl isi6
@[simp] theorem fIsi_ss {x : List Nat} : fIsi [.str x, .ty "str"] st = .ok (.bl true) st := fIsi_e rfl isi7
@[simp] theorem fIsi_si {x : List Nat} : fIsi [.str x, .ty "int"] st = .ok (.bl false) st := fIsi_e rfl isi8
@[simp] theorem fIsi_ni : fIsi [.non, .ty "int"] st = .ok (.bl false) st := fIsi_e rfl isi9
/-! statements -/
def SR.seq (r : SR) (k : SM) : SR := match r with
  | .nx τ s => k τ s
  | r => r
@[simp] theorem seq_nx {k : SM} : (SR.nx τ st).seq k = k τ st := rfl
@[simp] theorem seq_rt {k : SM} : (SR.rt d st).seq k = .rt d st := rfl
@[simp] theorem seq_bad {k : SM} : SR.bad.seq k = .bad := rfl
@[simp] theorem seq_exc {x : Xc} {k : SM} : (SR.exc x τ st).seq k = .exc x τ st := rfl
@[simp] theorem seq_bk {k : SM} : (SR.bk τ st).seq k = .bk τ st := rfl
@[simp] theorem seq_ct {k : SM} : (SR.ct τ st).seq k = .ct τ st := rfl
@[simp] theorem sSeq_e : sSeq u v τ st = (u τ st).seq v := by
  unfold sSeq SR.seq
  rfl
@[simp] theorem sNil_e : sNil τ st = .nx τ st := rfl
@[simp] theorem sIf_e : sIf ga u v τ st = bindE (ga τ st) τ fun b s1 => if b then u τ s1 else v τ s1 := rfl
@[simp] theorem sSet_e : sSet i fe τ st = bindE (fe τ st) τ fun d s1 => .nx (τ.set i (some d)) s1 := rfl
@[simp] theorem sRet_e : sRet fe τ st = bindE (fe τ st) τ fun d s1 => .rt d s1 := rfl
@[simp] theorem sRetN_e : sRetN τ st = .rt .non st := rfl
@[simp] theorem sExpr_e : sExpr fe τ st = bindE (fe τ st) τ fun _ s1 => .nx τ s1 := rfl
@[simp] theorem sRaise_e {x : Xc} : sRaise x τ st = .exc x τ st := rfl
@[simp] theorem sBrk_e : sBrk τ st = .bk τ st := rfl
@[simp] theorem sCnt_e : sCnt τ st = .ct τ st := rfl
@[simp] theorem bindE_bind {r : ER α} {k : α → Store → ER β} {k' : β → Store → SR} : bindE (r.bind k) τ k' = bindE r τ fun a s => bindE (k a s) τ k' := by cases r <;> rfl
@[simp] theorem bind_bind {γ : Type} {r : ER α} {k : α → Store → ER β} {k' : β → Store → ER γ} : (r.bind k).bind k' = r.bind fun a s => (k a s).bind k' := by cases r <;> rfl
@[simp] theorem bind_ite {c : Prop} [Decidable c] {r r' : ER α} {k : α → Store → ER β} : (if c then r else r').bind k = if c then r.bind k else r'.bind k := by split <;> rfl
@[simp] theorem bindE_ite {c : Prop} [Decidable c] {r r' : ER α} {k : α → Store → SR} : bindE (if c then r else r') τ k = if c then bindE r τ k else bindE r' τ k := by split <;> rfl
def SR.fin : SR → ER D
  | .nx _ s => .ok .non s
  | .rt d s => .ok d s
  | .exc x _ s => .exc x s
  | _ => .bad
@[simp] theorem fin_nx : (SR.nx τ st).fin = .ok .non st := rfl
@[simp] theorem fin_rt : (SR.rt d st).fin = .ok d st := rfl
@[simp] theorem fin_exc {x : Xc} : (SR.exc x τ st).fin = .exc x st := rfl
@[simp] theorem fin_bad : SR.bad.fin = .bad := rfl
theorem runB_e {ds : List D} : runB n u ds st = (u (ent n ds) st).fin := rfl
@[simp] theorem fin_ite {c : Prop} [Decidable c] {r r' : SR} : (if c then r else r').fin = if c then r.fin else r'.fin := by split <;> rfl
@[simp] theorem seq_ite {c : Prop} [Decidable c] {r r' : SR} {k : SM} : (if c then r else r').seq k = if c then r.seq k else r'.seq k := by split <;> rfl
@[simp] theorem ent_0 : ent n [] = List.replicate n none := by simp [ent]
@[simp] theorem ent_cons {x : D} {xs : List D} : ent (n + 1) (x :: xs) = some x :: ent n xs := by
  simp [ent]
end
end HM

/-! HM, part T: lists written to, loops, the draws' store. -/
namespace HM
open PySem PySem.Spec PyProof.Rows L2
section
variable {α β : Type} {τ : Sl} {st : Store} {f g h fa fb fc fe fo fi : EM D} {fs : EM (List D)} {ga gb : EM Bool} {i n m : Nat} {d v : D} {xs ys : List D} {u w : SM}
theorem lstAt_set (hh : lstAt st n = some xs) : lstAt (st.set n (.lst ys)) n = some ys := by
  have : n < st.length := by
    unfold lstAt at hh
    split at hh
    · rename_i e
      exact (List.getElem?_eq_some_iff.mp e).1
    · cases hh
  simp [lstAt, this]
theorem lstAt_ne {c : Cell} (hh : m ≠ n) : lstAt (st.set n c) m = lstAt st m := by
  unfold lstAt
  rw [List.getElem?_set_ne (Ne.symm hh)]
theorem oSet_ref {k : Int} {j : Nat} (hh : lstAt st m = some xs) (hj : ixN xs.length k = some j) : oSet (.ref m) (.int k) v st = some (st.set m (.lst (xs.set j v))) := by
  simp [oSet, hh, hj]
theorem oGetL_ref {k : Int} (hh : lstAt st m = some xs) : oGetL (.ref m) (.int k) st = ofO st (atI xs k) := by
  unfold oGetL ofO
  simp only [hh] <;> (split <;> simp_all)
def ofS (τ : Sl) : Option Store → SR
  | some s => .nx τ s
  | none => .bad
@[simp] theorem ofS_some : ofS τ (some st) = .nx τ st := rfl
@[simp] theorem sSub_e : sSub fo fi fe τ st = bindE (fe τ st) τ fun v s1 => bindE (fo τ s1) τ fun o s2 => bindE (fi τ s2) τ fun i s3 => ofS τ (oSet o i v s3) := by
  unfold sSub ofS
  rfl
@[simp] theorem sAugS_e {o : O2} : sAugS o fo fi fe τ st = bindE (fo τ st) τ fun x s1 => bindE (fi τ s1) τ fun i s2 => bindE (oGetL x i s2) τ fun y s3 => bindE (fe τ s3) τ fun z s4 => bindE (o y z s4) τ fun v s5 => ofS τ (oSet x i v s5) := by
  unfold sAugS ofS
  rfl
theorem sAug_e {o : O2} (hh : τ[i]? = some (some d)) : sAug i o fe τ st = bindE (fe τ st) τ fun y s1 => bindE (o d y s1) τ fun z s2 => .nx (τ.set i (some z)) s2 := by
  unfold sAug
  rw [hh]
def ofA (set : D → Sl → Option Sl) (τ : Sl) (d : D) (st : Store) : SR := match set d τ with
  | some τ1 => .nx τ1 st
  | none => .bad
@[simp] theorem sAsg_e {set : D → Sl → Option Sl} : sAsg set fe τ st = bindE (fe τ st) τ (ofA set τ) := rfl
@[simp] theorem okMul_l {i j : Int} (hh : i.natAbs < 18446744073709551616) : okMul i j = true := decide_eq_true (.inl (.inl hh))
@[simp] theorem okMul_r {i j : Int} (hh : j.natAbs < 18446744073709551616) : okMul i j = true := decide_eq_true (.inl (.inr hh))
theorem okMod_of {i j : Int} (hh : j ≠ 0) : okMod i j = true := decide_eq_true hh
theorem okDiv_of {i j : Int} (hh : j ≠ 0) (h2 : j.natAbs.log2 < 9000) : okDiv i j = true := decide_eq_true ⟨hh, h2⟩
theorem log2_le {x k : Nat} (h : x < 2 ^ k) : x.log2 ≤ k := by
  by_cases z : x = 0
  · subst z
    exact Nat.zero_le _
  · exact Nat.le_of_lt ((Nat.log2_lt z).mpr h)
/-! for loops -/
theorem sFor_e {fi : EM Sq} {set : D → Sl → Option Sl} : sFor fi set u τ st = bindE (fi τ st) τ fun q s1 => forL q set u q.items τ s1 := rfl
def ofQ (st : Store) : Option Sq → ER Sq
  | some q => .ok q st
  | none => .bad
@[simp] theorem ofQ_some {q : Sq} : ofQ st (some q) = .ok q st := rfl
@[simp] theorem iEx_e : iEx f τ st = (f τ st).bind fun d s1 => ofQ s1 (dSq s1 d) := by
  unfold iEx ofQ
  rfl
@[simp] theorem dSq_tup : dSq st (.tup xs) = some (.fix xs) := rfl
@[simp] theorem dSq_rol : dSq st (.rol xs) = some (.fix xs) := rfl
theorem dSq_ref (hh : lstAt st n = some xs) : dSq st (.ref n) = some (.cell n xs) := by simp [dSq, hh]
@[simp] theorem items_fix : (Sq.fix xs).items = xs := rfl
@[simp] theorem items_cell : (Sq.cell n xs).items = xs := rfl
@[simp] theorem iEl_e : iEl fs τ st = (fs τ st).bind fun xs s1 => .ok (.fix xs) s1 := rfl
def rg1 (d : D) (st : Store) : ER Sq := match d with
  | .int j => if okRng j then .ok (.fix (rng 0 j)) st else .bad
  | _ => .bad
def rg2 (d e : D) (st : Store) : ER Sq := match d, e with
  | .int i, .int j => if okRng i && okRng j then .ok (.fix (rng i j)) st else .bad
  | _, _ => .bad
@[simp] theorem iRg1_e : iRg1 f τ st = (f τ st).bind rg1 := rfl
@[simp] theorem iRg2_e : iRg2 fa fb τ st = (fa τ st).bind fun d s1 => (fb τ s1).bind fun e s2 => rg2 d e s2 := rfl
theorem okRng_of {j : Int} (hh : j.natAbs < 4611686018427387904) : okRng j = true := decide_eq_true hh
theorem rg1_int {j : Int} (hh : j.natAbs < 4611686018427387904) : rg1 (.int j) st = .ok (.fix (rng 0 j)) st := by simp [rg1, okRng_of hh]
theorem rg2_int {i j : Int} (hi : i.natAbs < 4611686018427387904) (hh : j.natAbs < 4611686018427387904) : rg2 (.int i) (.int j) st = .ok (.fix (rng i j)) st := by simp [rg2, okRng_of hh, okRng_of hi]
/-- a loop, by an invariant -/
theorem for_inv {set : D → Sl → Option Sl} {q : Sq} (P : Nat → Sl → Store → Prop) (hc : ∀ k τ st, P k τ st → q.chk st = true) :
    ∀ (xs : List D) (k : Nat) (τ : Sl) (st : Store), P k τ st →
    (∀ i d τ st, xs[i]? = some d → P (k + i) τ st → ∃ τ1, set d τ = some τ1 ∧ ∃ τ2 s2, (u τ1 st = .nx τ2 s2 ∨ u τ1 st = .ct τ2 s2) ∧ P (k + i + 1) τ2 s2) →
    ∃ τ' st', forL q set u xs τ st = .nx τ' st' ∧ P (k + xs.length) τ' st'
  | [], k, τ, st, h0, _ => ⟨τ, st, by
      unfold forL
      rw [if_pos (hc _ _ _ h0)], h0⟩
  | d :: ds, k, τ, st, h0, hs => by
    obtain ⟨τ1, e1, τ2, s2, e2, h2⟩ := hs 0 d τ st rfl h0
    obtain ⟨τ', st', e3, h3⟩ := for_inv (q := q) P hc ds (k + 1) τ2 s2 h2 fun i d τ st hi hp => by
      have := hs (i + 1) d τ st hi (by rwa [show k + (i + 1) = k + 1 + i by omega])
      rwa [show k + (i + 1) + 1 = k + 1 + i + 1 by omega] at this
    refine ⟨τ', st', ?_, ?_⟩
    · unfold forL
      rw [if_pos (hc _ _ _ h0), e1]
      rcases e2 with e2 | e2 <;> simp only [e2, e3]
    · rw [List.length_cons]
      rwa [show k + (ds.length + 1) = k + 1 + ds.length by omega]
/-! comprehensions -/
def lc1 (own : List Nat) (set : D → Sl → Option Sl) (ft : EM Bool) (fe : EM D) (τ : Sl) (q : Sq) (st : Store) : ER (List D) := if q.items.length ≤ 16777216 then compL q set ft fe (wipeD τ own) q.items [] st else .bad
theorem lComp_e {own : List Nat} {fi : EM Sq} {set : D → Sl → Option Sl} {ft : EM Bool} : lComp own fi set ft fe τ st = (fi τ st).bind (lc1 own set ft fe τ) := rfl
/-- a comprehension without tests -/
theorem comp_inv {set : D → Sl → Option Sl} {q : Sq} (P : List D → Store → Prop) (hc : ∀ acc st, P acc st → q.chk st = true) :
    ∀ (xs acc : List D) (st : Store), P acc st →
    (∀ i d acc' st, xs[i]? = some d → acc'.length = acc.length + i → P acc' st → ∃ τ1, set d τ = some τ1 ∧ ∃ x s2, fe τ1 st = .ok x s2 ∧ P (acc' ++ [x]) s2) →
    ∃ ys st', compL q set tYes fe τ xs acc st = .ok ys st' ∧ P ys st' ∧ ys.length = acc.length + xs.length
  | [], acc, st, h0, _ => ⟨acc, st, by
      unfold compL
      rw [if_pos (hc _ _ h0)], h0, rfl⟩
  | d :: ds, acc, st, h0, hs => by
    obtain ⟨τ1, e1, x, s2, e2, h2⟩ := hs 0 d acc st rfl rfl h0
    obtain ⟨ys, st', e3, h3, h4⟩ := comp_inv (q := q) P hc ds (acc ++ [x]) s2 h2 fun i d acc' st hi ha hp => hs (i + 1) d acc' st hi (by simp at ha; omega) hp
    refine ⟨ys, st', ?_, h3, by simp at h4; simp; omega⟩
    unfold compL
    rw [if_pos (hc _ _ h0), e1]
    simp only [tYes, ER.bindN_ok, if_true, e2]
    exact e3
end
/-! the draws' store: cell 0 holds the script's numbers, cell 1 the place -/
structure DS (ns : List Int) (st : Store) : Prop where
  c0 : lstAt st 0 = some (ns.map D.int)
  c1 : ∃ p h q : Int, 0 ≤ p ∧ lstAt st 1 = some [.ref 0, .int p, .int h, .int q]
/-- what a draw may change -/
structure Fr (a b : Store) : Prop where
  len : a.length ≤ b.length
  at' : ∀ n, n ≠ 1 → n < a.length → b[n]? = a[n]?
theorem Fr.refl {a : Store} : Fr a a := ⟨Nat.le_refl _, fun _ _ _ => rfl⟩
theorem Fr.trans {a b c : Store} (x : Fr a b) (y : Fr b c) : Fr a c := ⟨Nat.le_trans x.len y.len, fun n h1 h2 => (y.at' n h1 (Nat.lt_of_lt_of_le h2 x.len)).trans (x.at' n h1 h2)⟩
theorem Fr.lst {a b : Store} {n : Nat} {xs : List D} (x : Fr a b) (h : lstAt a n = some xs) (hn : n ≠ 1) : lstAt b n = some xs := by
  have := x.at' n hn (lstAt_lt h)
  unfold lstAt at h ⊢
  rwa [this]
theorem Fr.app {a : Store} {c : Cell} : Fr a (a ++ [c]) := ⟨by simp, fun n _ h => by rw [List.getElem?_append_left h]⟩
theorem DS.app {ns : List Int} {st : Store} {c : Cell} (h : DS ns st) : DS ns (st ++ [c]) := by
  obtain ⟨c0, p, hh, q, hp, c1⟩ := h
  exact ⟨by rw [lstAt_left (lstAt_lt c0)]; exact c0, p, hh, q, hp, by rw [lstAt_left (lstAt_lt c1)]; exact c1⟩
end HM

/-! HM, part U: how the mirrors of parts 10 to 12 are computed. -/
namespace HM
open PySem PySem.Spec PyProof.Rows L2
section
variable {τ : Sl} {st : Store} {f g fo fi : EM D} {fs : EM (List D)} {fl fh : EM (Option Int)} {i n m : Nat} {d v x : D} {xs ys : List D}
@[simp] theorem eM_e {T : String} {g : MM} : eM T g fo fs τ st = (fo τ st).bind fun d s1 => if okT T s1 d then (fs τ s1).bind fun ds s2 => g d ds s2 else .bad := rfl
theorem okT_ref (hh : lstAt st n = some xs) : okT "list" st (.ref n) = true := by simp [okT, hh]
@[simp] theorem okT_str {z : List Nat} : okT "str" st (.str z) = true := rfl
theorem mAppend_ref (hh : lstAt st n = some xs) (hl : xs.length < 16777216) : mAppend (.ref n) [x] st = .ok .non (st.set n (.lst (xs ++ [x]))) := by simp [mAppend, hh, hl]
theorem mInsert_ref {k : Nat} (hh : lstAt st n = some xs) (hl : xs.length < 16777216) (hk : k < 9223372036854775808) : mInsert (.ref n) [.int k, x] st = .ok .non (st.set n (.lst (xs.take k ++ [x] ++ xs.drop k))) := by
  have h2 : okIx (k : Int) = true := decide_eq_true (by omega)
  simp [mInsert, hh, hl, h2]
theorem mExtend_ref (hh : lstAt st n = some xs) (h2 : lstAt st m = some ys) (hl : xs.length + ys.length ≤ 16777216) : mExtend (.ref n) [.ref m] st = .ok .non (st.set n (.lst (xs ++ ys))) := by simp [mExtend, hh, h2, hl]
theorem mPop_ref (hh : lstAt st n = some (xs ++ [x])) : mPop (.ref n) [] st = .ok x (st.set n (.lst xs)) := by simp [mPop, hh]
theorem mJoin_tup {a : List Nat} {ys : List (List Nat)} (hl : (ys.map List.length).sum + ys.length * a.length ≤ 16777216) : mJoin (.str a) [.tup (ys.map D.str)] st = .ok (.str (joinD a ys)) st := by
  simp [mJoin, dSeq, strsD_map, hl]
theorem mJoin_ref {a : List Nat} {ys : List (List Nat)} (hh : lstAt st n = some (ys.map D.str)) (hl : (ys.map List.length).sum + ys.length * a.length ≤ 16777216) : mJoin (.str a) [.ref n] st = .ok (.str (joinD a ys)) st := by
  simp [mJoin, dSeq, hh, strsD_map, hl]
def ofB (st : Store) : Option Bool → ER D
  | some b => .ok (.bl b) st
  | none => .bad
@[simp] theorem ofB_some {b : Bool} : ofB st (some b) = .ok (.bl b) st := rfl
@[simp] theorem oIn_e : oIn x v st = ofB st (dIn x v st) := by
  unfold oIn ofB
  rfl
@[simp] theorem oNotIn_e : oNotIn x v st = ofB st ((dIn x v st).map fun b => !b) := by
  unfold oNotIn ofB
  cases dIn x v st <;> rfl
@[simp] theorem dIn_sign {c : Nat} {z : List Nat} : dIn (.str [c]) (.str z) st = some (decide (c ∈ z)) := rfl
theorem dIn_flat (hy : dSeq st v = some ys) (h1 : x.flat = true) (h2 : ys.all D.flat = true) : dIn x v st = some (ys.any fun y => eqF y x) := by
  unfold dIn
  split
  · rename_i c z
    cases hy
  · simp [hy, h1, h2]
@[simp] theorem dSeq_tup : dSeq st (.tup xs) = some xs := rfl
@[simp] theorem dSeq_rol : dSeq st (.rol xs) = some xs := rfl
theorem dSeq_ref (hh : lstAt st n = some xs) : dSeq st (.ref n) = some xs := hh
@[simp] theorem flat_int {k : Int} : (D.int k).flat = true := rfl
@[simp] theorem flat_str {k : List Nat} : (D.str k).flat = true := rfl
@[simp] theorem flat_bl {k : Bool} : (D.bl k).flat = true := rfl
@[simp] theorem flat_non : D.non.flat = true := rfl
@[simp] theorem eqF_int {a b : Int} : eqF (.int a) (.int b) = decide (a = b) := rfl
@[simp] theorem eqF_str {a b : List Nat} : eqF (.str a) (.str b) = decide (a = b) := rfl
@[simp] theorem dIn_tup {k : Int} : dIn (.int k) (.tup ys) st = if ys.all D.flat then some (ys.any fun y => eqF y (.int k)) else if ys.all (D.plain 59) then some (decide (D.int k ∈ ys)) else none := by
  simp [dIn, dSeq] <;> rfl
@[simp] theorem eSl_e : eSl f fl fh τ st = (f τ st).bind fun d s1 => (fl τ s1).bind fun l s2 => (fh τ s2).bind fun h s3 => dCut d l h s3 := rfl
@[simp] theorem oNone_e : oNone τ st = .ok none st := rfl
def ofI (d : D) (st : Store) : ER (Option Int) := match d with
  | .int i => .ok (some i) st
  | _ => .bad
@[simp] theorem ofI_int {k : Int} : ofI (.int k) st = .ok (some k) st := rfl
@[simp] theorem oSome_e : oSome f τ st = (f τ st).bind ofI := rfl
theorem sIx_n {n d k : Nat} : HT.sIx n d (some (k : Int)) = min k n := HT.sIx_nat n d k
@[simp] theorem sIx_0 {n d : Nat} : HT.sIx n d none = d := rfl
theorem dCut_str {z : List Nat} {lo hi : Option Int} (hz : z.length ≤ 16777216) : dCut (.str z) lo hi st = .ok (.str (cutD z lo hi)) st := by simp [dCut, hz]
theorem dCut_ref {lo hi : Option Int} (hh : lstAt st n = some xs) : dCut (.ref n) lo hi st = .ok (.ref st.length) (st ++ [.lst (cutD xs lo hi)]) := by simp [dCut, hh]
theorem cutD_nn {α : Type} {zs : List α} {a b : Nat} : cutD zs (some (a : Int)) (some (b : Int)) = (zs.drop (min a zs.length)).take (min b zs.length - min a zs.length) := by
  unfold cutD
  rw [sIx_n, sIx_n]
theorem cutD_to {α : Type} {zs : List α} {b : Nat} : cutD zs none (some (b : Int)) = zs.take b := by
  unfold cutD
  rw [sIx_n, sIx_0, List.drop_zero, Nat.sub_zero]
  exact PySem.W.kmk_take_min ..
theorem cutD_from {α : Type} {zs : List α} {a : Nat} : cutD zs (some (a : Int)) none = zs.drop a := by
  unfold cutD
  rw [sIx_n, sIx_0]
  rw [show zs.drop (min a zs.length) = zs.drop a from PySem.W.kmk_drop_min ..]
  refine List.take_of_length_le ?_
  rw [List.length_drop]
  omega
theorem gSum_ints {ns : List Int} : gSum (ns.map D.int) st = .ok (.int ns.sum) st := by simp [gSum, intsD_map]
theorem gAllB_bls {bs : List Bool} : gAllB (bs.map D.bl) st = .ok (.bl (bs.all id)) st := by simp [gAllB, blsD_map]
theorem gAnyB_bls {bs : List Bool} : gAnyB (bs.map D.bl) st = .ok (.bl (bs.any id)) st := by simp [gAnyB, blsD_map]
@[simp] theorem oMul_int {a b : Int} (hc : okMul a b = true) : oMul (.int a) (.int b) st = .ok (.int (a * b)) st := by simp [oMul, hc]
theorem oMul_str {z : List Nat} {k : Int} (h2 : 2 ≤ k) (hz : k ≤ 16777216) (hl : z.length * k.toNat ≤ 16777216) : oMul (.str z) (.int k) st = .ok (.str (repD k.toNat z)) st := by
  simp [oMul, h2, hz, hl]
theorem fLcm_W {a b : Int} (ha : a.natAbs < 2 ^ 9000) (hb : b.natAbs < 2 ^ 9000) : fLcm [.int a, .int b] st = .ok (.int (Nat.lcm a.natAbs b.natAbs : Nat)) st := by
  unfold fLcm
  simp only [decide_eq_true ha, decide_eq_true hb, Bool.and_self, if_true]
theorem fLcm_e {a b : Int} (ha : a.natAbs < 18446744073709551616) (hb : b.natAbs < 18446744073709551616) : fLcm [.int a, .int b] st = .ok (.int (Nat.lcm a.natAbs b.natAbs : Nat)) st :=
  fLcm_W (Nat.lt_of_lt_of_le ha (Nat.pow_le_pow_right (n := 2) (i := 64) (by decide) (by decide))) (Nat.lt_of_lt_of_le hb (Nat.pow_le_pow_right (n := 2) (i := 64) (by decide) (by decide)))
theorem fList_tup : fList [.tup xs] st = .ok (.ref st.length) (st ++ [.lst xs]) := rfl
theorem fList_ref (hh : lstAt st n = some xs) : fList [.ref n] st = .ok (.ref st.length) (st ++ [.lst xs]) := by simp [fList, dSeq, hh]
theorem sExL_e : sExL f τ st = (f τ st).bind fun d s1 => match dSeqL s1 d with
  | some xs => .ok xs s1
  | none => .bad := rfl
theorem oAdd_ref (hh : lstAt st n = some xs) (h2 : lstAt st m = some ys) (hl : xs.length + ys.length ≤ 16777216) : oAdd (.ref n) (.ref m) st = .ok (.ref st.length) (st ++ [.lst (xs ++ ys)]) := by simp [oAdd, hh, h2, hl]
theorem oIx_str {z : List Nat} {k : Nat} {c : Nat} (hz : z.length ≤ 16777216) (hk : z[k]? = some c) : oIx (.str z) (.int k) st = .ok (.str [c]) st := by
  have := atI_nat (xs := z) (j := k) (v := c) hk
  simp [oIx, hz, this]
theorem fLen_str {z : List Nat} (hz : z.length ≤ 16777216) : fLen [.str z] st = .ok (.int z.length) st := by simp [fLen, hz]
end
/-- a while loop, by an invariant with a measure -/
theorem while_inv {g : EM Bool} {u : SM} (P : Nat → Sl → Store → Prop) (Done : Sl → Store → Prop)
    (hs : ∀ n τ st, P n τ st → (∃ s1, g τ st = .ok false s1 ∧ Done τ s1) ∨ (∃ s1, g τ st = .ok true s1 ∧ ∃ τ2 s2, (u τ s1 = .nx τ2 s2 ∨ u τ s1 = .ct τ2 s2) ∧ ∃ m, m < n ∧ P m τ2 s2)) :
    ∀ (k n : Nat) (τ : Sl) (st : Store), n < k → P n τ st → ∃ τ' st', whileN g u k τ st = .nx τ' st' ∧ Done τ' st'
  | 0, _, _, _, h, _ => absurd h (Nat.not_lt_zero _)
  | k + 1, n, τ, st, h, hp => by
    unfold whileN
    rcases hs n τ st hp with ⟨s1, e, hd⟩ | ⟨s1, e, τ2, s2, e2, m, hm, hp2⟩
    · rw [e, bindE_ok, if_neg Bool.false_ne_true]
      exact ⟨τ, s1, rfl, hd⟩
    · rw [e, bindE_ok, if_pos rfl]
      obtain ⟨τ', st', e3, hd⟩ := while_inv P Done hs k m τ2 s2 (by omega) hp2
      refine ⟨τ', st', ?_, hd⟩
      rcases e2 with e2 | e2 <;> simp only [e2] <;> exact e3
/-- a comprehension that reads alone -/
theorem comp_map {α : Type} {q : Sq} {set : D → Sl → Option Sl} {fe : EM D} {τ : Sl} {st : Store} (hq : q.chk st = true) (g h : α → D) : ∀ (xs : List α) (acc : List D), (∀ a ∈ xs, ∃ τ1, set (g a) τ = some τ1 ∧ fe τ1 st = .ok (h a) st) → compL q set tYes fe τ (xs.map g) acc st = .ok (acc ++ xs.map h) st
  | [], acc, _ => by
    rw [List.map_nil, List.map_nil, List.append_nil]
    unfold compL
    rw [if_pos hq]
  | a :: xs, acc, hs => by
    obtain ⟨τ1, e1, e2⟩ := hs a (List.mem_cons_self ..)
    rw [List.map_cons]
    unfold compL
    rw [if_pos hq, e1]
    simp only [tYes, ER.bindN_ok, if_true, e2]
    rw [comp_map hq g h xs (acc ++ [h a]) fun b hb => hs b (List.mem_cons_of_mem _ hb), List.map_cons, List.append_assoc]
    rfl
/-- a loop that folds -/
theorem for_fold {α β : Type} {q : Sq} {set : D → Sl → Option Sl} {u : SM} {st : Store} (hq : q.chk st = true) (g : α → D) (F : β → α → β) (E : β → Option D → Sl) (I : β → Prop) : ∀ (xs : List α) (b : β) (t : Option D), I b →
    (∀ b t a, a ∈ xs → I b → I (F b a) ∧ ∃ τ1, set (g a) (E b t) = some τ1 ∧ u τ1 st = .nx (E (F b a) (some (g a))) st) → (∃ t', forL q set u (xs.map g) (E b t) st = .nx (E (xs.foldl F b) t') st) ∧ I (xs.foldl F b)
  | [], b, t, hI, _ => ⟨⟨t, by rw [List.map_nil, forL, if_pos hq]; rfl⟩, hI⟩
  | a :: xs, b, t, hI, hs => by
    obtain ⟨h1, τ1, e1, e2⟩ := hs b t a (List.mem_cons_self ..) hI
    obtain ⟨⟨t', e3⟩, h3⟩ := for_fold hq g F E I xs (F b a) (some (g a)) h1 fun b t a ha => hs b t a (List.mem_cons_of_mem _ ha)
    refine ⟨⟨t', ?_⟩, h3⟩
    rw [List.map_cons, forL, if_pos hq, e1]
    simp only [e2]
    exact e3
end HM

/-! HM, part V: growth of stores, comprehensions with tests, keyword calls. -/
namespace HM
open PySem PySem.Spec PyProof.Rows L2
section
variable {τ : Sl} {st : Store} {fs fk : EM (List D)} {n k np : Nat} {is : List Nat} {mf : FM}
@[simp] theorem eCallK_e : eCallK n k np is mf fs fk τ st = (fs τ st).bind fun ds s1 => (fk τ s1).bind fun es s2 => if ds.length = n ∧ es.length = k ∧ (arr is (ds ++ es)).length = np then mf (arr is (ds ++ es)) s2 else .bad := rfl
end
/-- cells are added alone -/
structure Gr (a b : Store) : Prop where
  ex : ∃ l, b = a ++ l
theorem Gr.refl {a : Store} : Gr a a := ⟨[], by simp⟩
theorem Gr.app {a : Store} {c : Cell} : Gr a (a ++ [c]) := ⟨[c], rfl⟩
theorem Gr.trans {a b c : Store} (x : Gr a b) (y : Gr b c) : Gr a c := by
  obtain ⟨l, rfl⟩ := x.ex
  obtain ⟨m, rfl⟩ := y.ex
  exact ⟨l ++ m, by simp⟩
theorem Gr.lst {a b : Store} {n : Nat} {xs : List D} (x : Gr a b) (h : lstAt a n = some xs) : lstAt b n = some xs := by
  obtain ⟨l, rfl⟩ := x.ex
  rw [lstAt_left (lstAt_lt h)]
  exact h
theorem Gr.fr {a b : Store} (x : Gr a b) : Fr a b := by
  obtain ⟨l, rfl⟩ := x.ex
  exact ⟨by simp, fun n _ h => by rw [List.getElem?_append_left h]⟩
theorem Gr.ds {a b : Store} {ns : List Int} (x : Gr a b) (H : DS ns a) : DS ns b := by
  obtain ⟨c0, p, h, q, hp, c1⟩ := H
  exact ⟨x.lst c0, p, h, q, hp, x.lst c1⟩
/-- the last cell is written -/
theorem Gr.put {a b : Store} {m : Nat} {c : Cell} (x : Gr a b) (h : a.length ≤ m) : Gr a (b.set m c) := by
  obtain ⟨l, rfl⟩ := x.ex
  exact ⟨l.set (m - a.length) c, List.set_append_right m c h⟩
theorem Gr.len {a b : Store} (x : Gr a b) : a.length ≤ b.length := by
  obtain ⟨l, rfl⟩ := x.ex
  simp
theorem DS.put2 {ns : List Int} {s : Store} {m : Nat} {c : Cell} (H : DS ns s) (h0 : m ≠ 0) (h1 : m ≠ 1) : DS ns (s.set m c) := by
  obtain ⟨c0, p, h, q, hp, c1⟩ := H
  exact ⟨by rw [lstAt_ne (Ne.symm h0)]; exact c0, p, h, q, hp, by rw [lstAt_ne (Ne.symm h1)]; exact c1⟩
theorem Fr.put2 {st s : Store} {m : Nat} {c : Cell} (F : Fr st s) (h : st.length ≤ m) : Fr st (s.set m c) :=
  ⟨by rw [List.length_set]; exact F.len, fun n h1 h2 => by rw [List.getElem?_set_ne (by omega)]; exact F.at' n h1 h2⟩
theorem DS.len {ns : List Int} {s : Store} (H : DS ns s) : 2 ≤ s.length := by
  obtain ⟨p, h, q, _, c1⟩ := H.c1
  exact lstAt_lt c1
theorem rng_eq (n : Nat) : rng 0 n = (List.range n).map fun k => D.int (k : Nat) := by
  unfold rng
  simp
theorem rng_mem {n : Nat} {i : Nat} {d : D} (h : (rng 0 n)[i]? = some d) : ∃ k : Nat, k < n ∧ d = .int k := by
  rw [rng_eq, List.getElem?_map] at h
  cases hx : (List.range n)[i]? with
  | none => rw [hx] at h; cases h
  | some a =>
    have := List.mem_range.mp (List.mem_of_getElem? hx)
    rw [hx] at h
    exact ⟨a, this, (Option.some.inj h).symm⟩
@[simp] theorem iZip_e {fa fb : EM D} {τ : Sl} {st : Store} : iZip fa fb τ st = (fa τ st).bind fun d s1 => (fb τ s1).bind fun e s2 => zip2 d e s2 := rfl
@[simp] theorem zip2_tup {xs ys : List D} {st : Store} : zip2 (.tup xs) (.tup ys) st = .ok (.fix (zipD xs ys)) st := rfl
def okRg (k : Int → Int → Store → ER D) (d : D) (st : Store) : ER D := match d with
  | .int j => k 0 j st
  | _ => .bad
@[simp] theorem eRg1_e {k : Int → Int → Store → ER D} {fa : EM D} {τ : Sl} {st : Store} : eRg1 k fa τ st = (fa τ st).bind (okRg k) := rfl
@[simp] theorem okRg_int {k : Int → Int → Store → ER D} {j : Int} {st : Store} : okRg k (.int j) st = k 0 j st := rfl
theorem rng_len {n : Nat} : (rng 0 (n : Nat)).length = n := by
  unfold rng
  simp
theorem lstAt_new {a : Store} {xs : List D} : lstAt (a ++ [.lst xs]) a.length = some xs := by simp [lstAt]
/-- a comprehension with a test -/
theorem comp_gen {q : Sq} {set : D → Sl → Option Sl} {ft : EM Bool} {fe : EM D} {τ : Sl} (P : Nat → List D → Store → Prop) (hc : ∀ k acc st, P k acc st → q.chk st = true) :
    ∀ (xs : List D) (k : Nat) (acc : List D) (st : Store), P k acc st →
    (∀ (i : Nat) (d : D) (acc' : List D) (st : Store), xs[i]? = some d → P (k + i) acc' st → ∃ τ1, set d τ = some τ1 ∧ ∃ b s1, ft τ1 st = .ok b s1 ∧ (b = false → P (k + i + 1) acc' s1) ∧ (b = true → ∃ x s2, fe τ1 s1 = .ok x s2 ∧ P (k + i + 1) (acc' ++ [x]) s2)) →
    ∃ ys st', compL q set ft fe τ xs acc st = .ok ys st' ∧ P (k + xs.length) ys st'
  | [], k, acc, st, h0, _ => ⟨acc, st, by
      unfold compL
      rw [if_pos (hc _ _ _ h0)], h0⟩
  | d :: ds, k, acc, st, h0, hs => by
    obtain ⟨τ1, e1, b, s1, e2, h2, h3⟩ := hs 0 d acc st rfl h0
    have next : ∀ acc s, P (k + 1) acc s → ∃ ys st', compL q set ft fe τ ds acc s = .ok ys st' ∧ P (k + (d :: ds).length) ys st' := fun acc s h => by
      rw [List.length_cons, show k + (ds.length + 1) = k + 1 + ds.length by omega]
      refine comp_gen P hc ds (k + 1) acc s h fun i d acc' st hi hp => ?_
      rw [show k + 1 + i = k + (i + 1) by omega] at hp ⊢
      exact hs (i + 1) d acc' st hi hp
    unfold compL
    rw [if_pos (hc _ _ _ h0), e1]
    simp only [e2, ER.bindN_ok]
    cases b with
    | false => exact next _ _ (h2 rfl)
    | true =>
      obtain ⟨x, s2, e3, h4⟩ := h3 rfl
      simp only [if_true, e3, ER.bindN_ok]
      exact next _ _ h4
/-- a comprehension with a test that reads alone -/
theorem comp_fil {α : Type} {q : Sq} {set : D → Sl → Option Sl} {ft : EM Bool} {fe : EM D} {τ : Sl} {st : Store} (hq : q.chk st = true) (g h : α → D) (p : α → Bool) : ∀ (xs : List α) (acc : List D), (∀ a ∈ xs, ∃ τ1, set (g a) τ = some τ1 ∧ ft τ1 st = .ok (p a) st ∧ (p a = true → fe τ1 st = .ok (h a) st)) → compL q set ft fe τ (xs.map g) acc st = .ok (acc ++ (xs.filter p).map h) st
  | [], acc, _ => by
    rw [List.map_nil, List.filter_nil, List.map_nil, List.append_nil]
    unfold compL
    rw [if_pos hq]
  | a :: xs, acc, hs => by
    obtain ⟨τ1, e1, e2, e3⟩ := hs a (List.mem_cons_self ..)
    have ih := fun acc => comp_fil hq g h p xs acc fun b hb => hs b (List.mem_cons_of_mem _ hb)
    rw [List.map_cons, List.filter_cons]
    unfold compL
    rw [if_pos hq, e1]
    simp only [e2, ER.bindN_ok]
    cases hp : p a with
    | false => simp only [Bool.false_eq_true, if_false]; exact ih acc
    | true =>
      simp only [if_true, e3 hp, ER.bindN_ok]
      rw [ih, List.map_cons, List.append_assoc]
      rfl
theorem forL_nil {set : D → Sl → Option Sl} {u : SM} {q : Sq} {τ : Sl} {st : Store} (hq : q.chk st = true) : forL q set u [] τ st = .nx τ st := by
  rw [forL, if_pos hq]
theorem forL_nx {set : D → Sl → Option Sl} {u : SM} {q : Sq} {τ τ1 τ2 : Sl} {st s2 : Store} {d : D} {ds : List D} (hq : q.chk st = true) (h1 : set d τ = some τ1) (h2 : u τ1 st = .nx τ2 s2) : forL q set u (d :: ds) τ st = forL q set u ds τ2 s2 := by
  rw [forL, if_pos hq, h1]
  simp only [h2]
theorem forL_ct {set : D → Sl → Option Sl} {u : SM} {q : Sq} {τ τ1 τ2 : Sl} {st s2 : Store} {d : D} {ds : List D} (hq : q.chk st = true) (h1 : set d τ = some τ1) (h2 : u τ1 st = .ct τ2 s2) : forL q set u (d :: ds) τ st = forL q set u ds τ2 s2 := by
  rw [forL, if_pos hq, h1]
  simp only [h2]
theorem forL_rt {set : D → Sl → Option Sl} {u : SM} {q : Sq} {τ τ1 : Sl} {st s2 : Store} {d x : D} {ds : List D} (hq : q.chk st = true) (h1 : set d τ = some τ1) (h2 : u τ1 st = .rt x s2) : forL q set u (d :: ds) τ st = .rt x s2 := by
  rw [forL, if_pos hq, h1]
  simp only [h2]
theorem forL_bk {set : D → Sl → Option Sl} {u : SM} {q : Sq} {τ τ1 τ2 : Sl} {st s2 : Store} {d : D} {ds : List D} (hq : q.chk st = true) (h1 : set d τ = some τ1) (h2 : u τ1 st = .bk τ2 s2) : forL q set u (d :: ds) τ st = .nx τ2 s2 := by
  rw [forL, if_pos hq, h1]
  simp only [h2]
theorem map_mem {α : Type} {f : α → D} {xs : List α} {i : Nat} {d : D} (h : (xs.map f)[i]? = some d) : ∃ a ∈ xs, d = f a := by
  rw [List.getElem?_map] at h
  cases hx : xs[i]? with
  | none => simp [hx] at h
  | some a => exact ⟨a, List.mem_of_getElem? hx, by simpa [hx] using h.symm⟩
theorem any_eqF {cs : List Int} {k : Int} : ((cs.map D.int).any fun y => eqF y (.int k)) = decide (k ∈ cs) := by
  induction cs with
  | nil => rfl
  | cons c cs ih =>
    rw [List.map_cons, List.any_cons, ih]
    by_cases h : k = c <;> simp [h, eq_comm]
theorem dIn_ints {cs : List Int} {k : Int} {st : Store} : dIn (.int k) (.tup (cs.map D.int)) st = some (decide (k ∈ cs)) := by
  rw [dIn_tup, if_pos, any_eqF]
  rw [List.all_eq_true]
  intro x hx
  obtain ⟨c, _, rfl⟩ := List.mem_map.mp hx
  rfl
end HM

namespace K54
open PySem PySem.Spec PyProof.Rows L2 HM
def top (i : Nat) : Stmt := PySem.Challenge.pw_closedratios_k54_views_and_worths.main.body.getD i (.Pass ⟨0, 0, 0, 0⟩)
abbrev s_ratio : Stmt := top 4
abbrev s_plus : Stmt := top 5
abbrev s_times : Stmt := top 6
abbrev s_is_below : Stmt := top 7
abbrev s_total : Stmt := top 8
abbrev s_mean : Stmt := top 9
abbrev s_is_fraction : Stmt := top 10
abbrev s_is_ratio : Stmt := top 11
abbrev s_is_chances : Stmt := top 13
abbrev s_act_sum : Stmt := top 15
abbrev s_act_sums : Stmt := top 16
abbrev s_best_place : Stmt := top 17
abbrev s_are_rows : Stmt := top 21
abbrev s_is_view : Stmt := top 22
abbrev s_milled : Stmt := top 23
abbrev s_milled_row : Stmt := top 24
abbrev s_through : Stmt := top 25
abbrev s_best_acts : Stmt := top 26
abbrev s_worth_of : Stmt := top 27
abbrev s__law_begin : Stmt := top 29
abbrev s__law_draw : Stmt := top 30
abbrev s__law_pick : Stmt := top 31
abbrev s__law_rare : Stmt := top 32
abbrev s__law_is_int : Stmt := top 33
abbrev s__law_is_ints : Stmt := top 34
abbrev s__law_is_rows : Stmt := top 35
abbrev s__law_gcd : Stmt := top 36
abbrev s__law_f : Stmt := top 37
abbrev s__law_plus : Stmt := top 38
abbrev s__law_minus : Stmt := top 39
abbrev s__law_times : Stmt := top 40
abbrev s__law_less : Stmt := top 41
abbrev s__law_total : Stmt := top 42
abbrev s__law_great : Stmt := top 43
abbrev s__law_is_frac : Stmt := top 44
abbrev s__law_is_ratio : Stmt := top 45
abbrev s__law_is_ratios : Stmt := top 46
abbrev s__law_is_shares : Stmt := top 47
abbrev s__law_row : Stmt := top 48
abbrev s__law_chances : Stmt := top 49
abbrev s__law_shares : Stmt := top 50
abbrev s__law_view : Stmt := top 51
abbrev s__law_is_view : Stmt := top 52
abbrev s__law_through : Stmt := top 53
abbrev s__law_act_worth : Stmt := top 54
abbrev s__law_worth : Stmt := top 55
abbrev s__law_wide_view : Stmt := top 56
abbrev s__law_some_acts : Stmt := top 57
abbrev s__law_best_number : Stmt := top 58
abbrev s__law_worth_right : Stmt := top 59
abbrev s__law_through_right : Stmt := top 60
abbrev s__law_right_view : Stmt := top 61
abbrev s__law_view_judged : Stmt := top 62
abbrev s__law_grown : Stmt := top 63
abbrev s__law_spoilt_view : Stmt := top 64
abbrev s_law : Stmt := top 65
def q_ZERO : D := .tup [.int 0, .int 1]
def q_ONE : D := .tup [.int 1, .int 1]
def q_MOST_STATES : D := .int 4
def q_MOST_ANSWERS : D := .int 6
def N_ratio : List PySem.Str := ["n", "d", "common"]
theorem sc_ratio : FnScope N_ratio ["n", "d"] (defScope s_ratio) := ⟨rfl, rfl, rfl, by decide +kernel, rfl, by decide +kernel, by decide +kernel⟩
def m_ratio : SM := (sSeq (sIf (tBl (eBin oEq (eVar 1) (eC (.int 0)))) (sRaise ⟨.ty "ZeroDivisionError", []⟩) sNil)
    (sSeq (sSet 2 (eCB fGcd (aCons (eVar 0) (aCons (eVar 1) aNil))))
    (sSeq (sIf (tBl (eBin oLt (eVar 1) (eC (.int 0)))) (sSet 2 (eUn oNeg (eVar 2))) sNil)
    (sRet (eTup (aCons (eBin oDiv (eVar 0) (eVar 2)) (aCons (eBin oDiv (eVar 1) (eVar 2)) aNil)))))))
theorem ok_ratio {P : Program} {w : World} {K : PySem.W.Frag} {mg : PySem.Str → Option Value} {base : Heap} {f : Addr} {fd : FuncData} (F : FnP K "ratio" s_ratio f fd) (gx : mg "ratio" = some (.ref f)) (g_gcd : mg "gcd" = some (.builtin "math.gcd")) (z_ZeroDivisionError : mg "ZeroDivisionError" = none) :
    Cal P w K mg base "ratio" 1 ["n", "d"] (runB 3 (m_ratio)) :=
  cal_mk (k := 0) F sc_ratio gx (fun _ _ _ _ _ _ us hl => match us, hl with | [_, _], _ => rfl) fun cdv A outer s H E hr tk hp =>
    (sx_cons (sx_if (et_cmp (m_eq hr.units) (xv 1) ex_int (nomark _)) (sx_one (sx_raiseB (by rfl) tk exb_ZeroDivisionError (by rfl) z_ZeroDivisionError boot_ZeroDivisionError)) sx_nil)
    (sx_cons (sx_set sc_ratio.nd (ex_callF c_gcd (by rfl) g_gcd (ea_cons (xv 0) (ea_cons (xv 1) ea_nil))))
    (sx_cons (sx_if (et_cmp m_lt (xv 1) ex_int (nomark _)) (sx_one (sx_set sc_ratio.nd (ex_un m_neg (xv 2)))) sx_nil)
    (sx_one (sx_ret (ex_tup (ea_cons (ex_op m_div (xv 0) (xv 2)) (ea_cons (ex_op m_div (xv 1) (xv 2)) ea_nil))))))))
def N_plus : List PySem.Str := ["x", "y"]
theorem sc_plus : FnScope N_plus ["x", "y"] (defScope s_plus) := ⟨rfl, rfl, rfl, by decide +kernel, rfl, by decide +kernel, by decide +kernel⟩
def m_plus (f_ratio : FM) : SM := (sSeq (sIf (tBl (eBin oEq (eBin oIx (eVar 0) (eC (.int 1))) (eBin oIx (eVar 1) (eC (.int 1))))) (sRet (eCall 2 f_ratio (aCons (eBin oAdd (eBin oIx (eVar 0) (eC (.int 0))) (eBin oIx (eVar 1) (eC (.int 0)))) (aCons (eBin oIx (eVar 0) (eC (.int 1))) aNil)))) sNil)
    (sRet (eCall 2 f_ratio (aCons (eBin oAdd (eBin oMul (eBin oIx (eVar 0) (eC (.int 0))) (eBin oIx (eVar 1) (eC (.int 1)))) (eBin oMul (eBin oIx (eVar 1) (eC (.int 0))) (eBin oIx (eVar 0) (eC (.int 1))))) (aCons (eBin oMul (eBin oIx (eVar 0) (eC (.int 1))) (eBin oIx (eVar 1) (eC (.int 1)))) aNil)))))
theorem ok_plus {P : Program} {w : World} {K : PySem.W.Frag} {mg : PySem.Str → Option Value} {base : Heap} {f : Addr} {fd : FuncData} {f_ratio : FM} (F : FnP K "plus" s_plus f fd) (gx : mg "plus" = some (.ref f)) (c_ratio : Cal P w K mg base "ratio" 1 ["n", "d"] f_ratio) :
    Cal P w K mg base "plus" 2 ["x", "y"] (runB 2 (m_plus f_ratio)) :=
  cal_mk (k := 1) F sc_plus gx (fun _ _ _ _ _ _ us hl => match us, hl with | [_, _], _ => rfl) fun cdv A outer s H E hr tk hp =>
    (sx_cons (sx_if (et_cmp (m_eq hr.units) (ex_ix m_ix (xv 0) ex_int) (ex_ix m_ix (xv 1) ex_int) (nomark _)) (sx_one (sx_ret (ex_c1 c_ratio tk hr (by decide) (ea_cons (ex_op m_add (ex_ix m_ix (xv 0) ex_int) (ex_ix m_ix (xv 1) ex_int)) (ea_cons (ex_ix m_ix (xv 0) ex_int) ea_nil))))) sx_nil)
    (sx_one (sx_ret (ex_c1 c_ratio tk hr (by decide) (ea_cons (ex_op m_add (ex_op m_mul (ex_ix m_ix (xv 0) ex_int) (ex_ix m_ix (xv 1) ex_int)) (ex_op m_mul (ex_ix m_ix (xv 1) ex_int) (ex_ix m_ix (xv 0) ex_int))) (ea_cons (ex_op m_mul (ex_ix m_ix (xv 0) ex_int) (ex_ix m_ix (xv 1) ex_int)) ea_nil))))))
def N_times : List PySem.Str := ["x", "y"]
theorem sc_times : FnScope N_times ["x", "y"] (defScope s_times) := ⟨rfl, rfl, rfl, by decide +kernel, rfl, by decide +kernel, by decide +kernel⟩
def m_times (f_ratio : FM) : SM := (sRet (eCall 2 f_ratio (aCons (eBin oMul (eBin oIx (eVar 0) (eC (.int 0))) (eBin oIx (eVar 1) (eC (.int 0)))) (aCons (eBin oMul (eBin oIx (eVar 0) (eC (.int 1))) (eBin oIx (eVar 1) (eC (.int 1)))) aNil))))
theorem ok_times {P : Program} {w : World} {K : PySem.W.Frag} {mg : PySem.Str → Option Value} {base : Heap} {f : Addr} {fd : FuncData} {f_ratio : FM} (F : FnP K "times" s_times f fd) (gx : mg "times" = some (.ref f)) (c_ratio : Cal P w K mg base "ratio" 1 ["n", "d"] f_ratio) :
    Cal P w K mg base "times" 2 ["x", "y"] (runB 2 (m_times f_ratio)) :=
  cal_mk (k := 1) F sc_times gx (fun _ _ _ _ _ _ us hl => match us, hl with | [_, _], _ => rfl) fun cdv A outer s H E hr tk hp =>
    (sx_one (sx_ret (ex_c1 c_ratio tk hr (by decide) (ea_cons (ex_op m_mul (ex_ix m_ix (xv 0) ex_int) (ex_ix m_ix (xv 1) ex_int)) (ea_cons (ex_op m_mul (ex_ix m_ix (xv 0) ex_int) (ex_ix m_ix (xv 1) ex_int)) ea_nil)))))
def N_is_below : List PySem.Str := ["x", "y"]
theorem sc_is_below : FnScope N_is_below ["x", "y"] (defScope s_is_below) := ⟨rfl, rfl, rfl, by decide +kernel, rfl, by decide +kernel, by decide +kernel⟩
def m_is_below : SM := (sRet (eBin oLt (eBin oMul (eBin oIx (eVar 0) (eC (.int 0))) (eBin oIx (eVar 1) (eC (.int 1)))) (eBin oMul (eBin oIx (eVar 1) (eC (.int 0))) (eBin oIx (eVar 0) (eC (.int 1))))))
theorem ok_is_below {P : Program} {w : World} {K : PySem.W.Frag} {mg : PySem.Str → Option Value} {base : Heap} {f : Addr} {fd : FuncData} (F : FnP K "is_below" s_is_below f fd) (gx : mg "is_below" = some (.ref f))  :
    Cal P w K mg base "is_below" 1 ["x", "y"] (runB 2 (m_is_below)) :=
  cal_mk (k := 0) F sc_is_below gx (fun _ _ _ _ _ _ us hl => match us, hl with | [_, _], _ => rfl) fun cdv A outer s H E hr tk hp =>
    (sx_one (sx_ret (ex_cmp m_lt (ex_op m_mul (ex_ix m_ix (xv 0) ex_int) (ex_ix m_ix (xv 1) ex_int)) (ex_op m_mul (ex_ix m_ix (xv 1) ex_int) (ex_ix m_ix (xv 0) ex_int)) (nomark _))))
def N_total : List PySem.Str := ["row", "found", "part"]
theorem sc_total : FnScope N_total ["row"] (defScope s_total) := ⟨rfl, rfl, rfl, by decide +kernel, rfl, by decide +kernel, by decide +kernel⟩
def m_total (f_plus : FM) : SM := (sSeq (sSet 1 (eC q_ZERO))
    (sSeq (sFor (iEx (eVar 0)) (gN 2) (sSet 1 (eCall 2 f_plus (aCons (eVar 1) (aCons (eVar 2) aNil)))))
    (sRet (eVar 1))))
theorem ok_total {P : Program} {w : World} {K : PySem.W.Frag} {mg : PySem.Str → Option Value} {base : Heap} {f : Addr} {fd : FuncData} {f_plus : FM} (F : FnP K "total" s_total f fd) (gx : mg "total" = some (.ref f)) (c_plus : Cal P w K mg base "plus" 2 ["x", "y"] f_plus) (k_ZERO : Con K mg "ZERO" q_ZERO) :
    Cal P w K mg base "total" 3 ["row"] (runB 3 (m_total f_plus)) :=
  cal_mk (k := 2) F sc_total gx (fun _ _ _ _ _ _ us hl => match us, hl with | [_], _ => rfl) fun cdv A outer s H E hr tk hp =>
    (sx_cons (sx_set sc_total.nd (ex_con k_ZERO))
    (sx_cons (sx_for hp (by rfl) (ei_ex (xv 0)) (eg_name sc_total.nd) (sx_one (sx_set sc_total.nd (ex_c1 c_plus tk hr (by decide) (ea_cons (xv 1) (ea_cons (xv 2) ea_nil))))))
    (sx_one (sx_ret (xv 1)))))
def N_mean : List PySem.Str := ["row", "shares", "found", "part", "share"]
theorem sc_mean : FnScope N_mean ["row", "shares"] (defScope s_mean) := ⟨rfl, rfl, rfl, by decide +kernel, rfl, by decide +kernel, by decide +kernel⟩
def m_mean (f_plus : FM) (f_times : FM) : SM := (sSeq (sSet 2 (eC q_ZERO))
    (sSeq (sFor (iZip (eVar 0) (eVar 1)) (gT 2 (gCs 3 (gCs 4 gNil0))) (sSet 2 (eCall 2 f_plus (aCons (eVar 2) (aCons (eCall 2 f_times (aCons (eVar 3) (aCons (eVar 4) aNil))) aNil)))))
    (sRet (eVar 2))))
theorem ok_mean {P : Program} {w : World} {K : PySem.W.Frag} {mg : PySem.Str → Option Value} {base : Heap} {f : Addr} {fd : FuncData} {f_plus f_times : FM} (F : FnP K "mean" s_mean f fd) (gx : mg "mean" = some (.ref f)) (c_plus : Cal P w K mg base "plus" 2 ["x", "y"] f_plus) (c_times : Cal P w K mg base "times" 2 ["x", "y"] f_times) (k_ZERO : Con K mg "ZERO" q_ZERO) (z_zip : mg "zip" = none) :
    Cal P w K mg base "mean" 3 ["row", "shares"] (runB 5 (m_mean f_plus f_times)) :=
  cal_mk (k := 2) F sc_mean gx (fun _ _ _ _ _ _ us hl => match us, hl with | [_, _], _ => rfl) fun cdv A outer s H E hr tk hp =>
    (sx_cons (sx_set sc_mean.nd (ex_con k_ZERO))
    (sx_cons (sx_for hp (by rfl) (ei_zip (by rfl) z_zip (xv 0) (xv 1)) (eg_tup (by rfl) (egs_cons sc_mean.nd (egs_cons sc_mean.nd egs_nil))) (sx_one (sx_set sc_mean.nd (ex_c1 c_plus tk hr (by decide) (ea_cons (xv 2) (ea_cons (ex_c1 c_times tk hr (by decide) (ea_cons (xv 3) (ea_cons (xv 4) ea_nil))) ea_nil))))))
    (sx_one (sx_ret (xv 2)))))
def N_is_fraction : List PySem.Str := ["pair", "n", "d"]
theorem sc_is_fraction : FnScope N_is_fraction ["pair"] (defScope s_is_fraction) := ⟨rfl, rfl, rfl, by decide +kernel, rfl, by decide +kernel, by decide +kernel⟩
def m_is_fraction : SM := (sSeq (sAsg (gT 2 (gCs 1 (gCs 2 gNil0))) (eVar 0))
    (sSeq (sIf (tBl (eBin oLt (eVar 2) (eC (.int 1)))) (sRet (eC (.bl false))) sNil)
    (sRet (eBin oEq (eCB fGcd (aCons (eVar 1) (aCons (eVar 2) aNil))) (eC (.int 1))))))
theorem ok_is_fraction {P : Program} {w : World} {K : PySem.W.Frag} {mg : PySem.Str → Option Value} {base : Heap} {f : Addr} {fd : FuncData} (F : FnP K "is_fraction" s_is_fraction f fd) (gx : mg "is_fraction" = some (.ref f)) (g_gcd : mg "gcd" = some (.builtin "math.gcd")) :
    Cal P w K mg base "is_fraction" 1 ["pair"] (runB 3 (m_is_fraction)) :=
  cal_mk (k := 0) F sc_is_fraction gx (fun _ _ _ _ _ _ us hl => match us, hl with | [_], _ => rfl) fun cdv A outer s H E hr tk hp =>
    (sx_cons (sx_asg (xv 0) (eg_tup (by rfl) (egs_cons sc_is_fraction.nd (egs_cons sc_is_fraction.nd egs_nil))))
    (sx_cons (sx_if (et_cmp m_lt (xv 2) ex_int (nomark _)) (sx_one (sx_ret ex_bl)) sx_nil)
    (sx_one (sx_ret (ex_cmp (m_eq hr.units) (ex_callF c_gcd (by rfl) g_gcd (ea_cons (xv 1) (ea_cons (xv 2) ea_nil))) ex_int (nomark _))))))
def N_is_ratio : List PySem.Str := ["pair"]
theorem sc_is_ratio : FnScope N_is_ratio ["pair"] (defScope s_is_ratio) := ⟨rfl, rfl, rfl, by decide +kernel, rfl, by decide +kernel, by decide +kernel⟩
def m_is_ratio (f_is_fraction : FM) : SM := (sRet (eAnd (eCall 1 f_is_fraction (aCons (eVar 0) aNil)) (eBin oGe (eBin oIx (eVar 0) (eC (.int 0))) (eC (.int 0)))))
theorem ok_is_ratio {P : Program} {w : World} {K : PySem.W.Frag} {mg : PySem.Str → Option Value} {base : Heap} {f : Addr} {fd : FuncData} {f_is_fraction : FM} (F : FnP K "is_ratio" s_is_ratio f fd) (gx : mg "is_ratio" = some (.ref f)) (c_is_fraction : Cal P w K mg base "is_fraction" 1 ["pair"] f_is_fraction) :
    Cal P w K mg base "is_ratio" 2 ["pair"] (runB 1 (m_is_ratio f_is_fraction)) :=
  cal_mk (k := 1) F sc_is_ratio gx (fun _ _ _ _ _ _ us hl => match us, hl with | [_], _ => rfl) fun cdv A outer s H E hr tk hp =>
    (sx_one (sx_ret (ex_and (ex_c1 c_is_fraction tk hr (by decide) (ea_cons (xv 0) ea_nil)) (ex_one (ex_cmp m_ge (ex_ix m_ix (xv 0) ex_int) ex_int (nomark _))))))
def N_is_chances : List PySem.Str := ["row", "part"]
theorem sc_is_chances : FnScope N_is_chances ["row"] (defScope s_is_chances) := ⟨rfl, rfl, rfl, by decide +kernel, rfl, by decide +kernel, by decide +kernel⟩
def m_is_chances (f_is_ratio : FM) (f_total : FM) : SM := (sSeq (sFor (iEx (eVar 0)) (gN 1) (sIf (HM.tNot (tVal (eCall 1 f_is_ratio (aCons (eVar 1) aNil)))) (sRet (eC (.bl false))) sNil))
    (sRet (eAnd (eBin oGt (eCB fLen (aCons (eVar 0) aNil)) (eC (.int 0))) (eBin oEq (eCall 1 f_total (aCons (eVar 0) aNil)) (eC q_ONE)))))
theorem ok_is_chances {P : Program} {w : World} {K : PySem.W.Frag} {mg : PySem.Str → Option Value} {base : Heap} {f : Addr} {fd : FuncData} {f_is_ratio f_total : FM} (F : FnP K "is_chances" s_is_chances f fd) (gx : mg "is_chances" = some (.ref f)) (c_is_ratio : Cal P w K mg base "is_ratio" 2 ["pair"] f_is_ratio) (c_total : Cal P w K mg base "total" 3 ["row"] f_total) (k_ONE : Con K mg "ONE" q_ONE) (z_len : mg "len" = none) :
    Cal P w K mg base "is_chances" 4 ["row"] (runB 2 (m_is_chances f_is_ratio f_total)) :=
  cal_mk (k := 3) F sc_is_chances gx (fun _ _ _ _ _ _ us hl => match us, hl with | [_], _ => rfl) fun cdv A outer s H E hr tk hp =>
    (sx_cons (sx_for hp (by rfl) (ei_ex (xv 0)) (eg_name sc_is_chances.nd) (sx_one (sx_if (et_not (et_val (ex_c1 c_is_ratio tk hr (by decide) (ea_cons (xv 1) ea_nil)))) (sx_one (sx_ret ex_bl)) sx_nil)))
    (sx_one (sx_ret (ex_and (ex_cmp m_gt (ex_callB c_len (by rfl) z_len bt_len (ea_cons (xv 0) ea_nil)) ex_int (nomark _)) (ex_one (ex_cmp (m_eq hr.units) (ex_c1 c_total tk hr (by decide) (ea_cons (xv 0) ea_nil)) (ex_con k_ONE) (nomark _)))))))
def N_act_sum : List PySem.Str := ["view", "answer", "act", "row"]
theorem sc_act_sum : FnScope N_act_sum ["view", "answer", "act"] (defScope s_act_sum) := ⟨rfl, rfl, rfl, by decide +kernel, rfl, by decide +kernel, by decide +kernel⟩
def m_act_sum (f_mean : FM) : SM := (sRet (eCall 2 f_mean (aCons (eEl (lComp [3] (iEx (eVar 0)) (gN 3) tYes (eBin oIx (eVar 3) (eVar 1)))) (aCons (eVar 2) aNil))))
theorem ok_act_sum {P : Program} {w : World} {K : PySem.W.Frag} {mg : PySem.Str → Option Value} {base : Heap} {f : Addr} {fd : FuncData} {f_mean : FM} (F : FnP K "act_sum" s_act_sum f fd) (gx : mg "act_sum" = some (.ref f)) (c_mean : Cal P w K mg base "mean" 3 ["row", "shares"] f_mean) :
    Cal P w K mg base "act_sum" 4 ["view", "answer", "act"] (runB 4 (m_act_sum f_mean)) :=
  cal_mk (k := 3) F sc_act_sum gx (fun _ _ _ _ _ _ us hl => match us, hl with | [_, _, _], _ => rfl) fun cdv A outer s H E hr tk hp =>
    (sx_one (sx_ret (ex_c1 c_mean tk hr (by decide) (ea_cons (ex_el (el_comp (own := [(("row" : PySem.Str), 3)]) (by rfl) sc_act_sum.nd (ei_ex (xv 0)) (blkOk_by (N := N_act_sum) (sc := (defScope s_act_sum)) (by decide +kernel)) (fun _ _ _ _ _ => (eg_name sc_act_sum.nd)) (fun _ _ _ _ _ => ets_nil) (fun _ _ _ _ _ => (ex_ix m_ix (xv 3) (xv 1))))) (ea_cons (xv 2) ea_nil)))))
def N_act_sums : List PySem.Str := ["view", "answer", "stakes", "act"]
theorem sc_act_sums : FnScope N_act_sums ["view", "answer", "stakes"] (defScope s_act_sums) := ⟨rfl, rfl, rfl, by decide +kernel, rfl, by decide +kernel, by decide +kernel⟩
def m_act_sums (f_act_sum : FM) : SM := (sRet (eEl (lComp [3] (iEx (eVar 2)) (gN 3) tYes (eCall 3 f_act_sum (aCons (eVar 0) (aCons (eVar 1) (aCons (eVar 3) aNil)))))))
theorem ok_act_sums {P : Program} {w : World} {K : PySem.W.Frag} {mg : PySem.Str → Option Value} {base : Heap} {f : Addr} {fd : FuncData} {f_act_sum : FM} (F : FnP K "act_sums" s_act_sums f fd) (gx : mg "act_sums" = some (.ref f)) (c_act_sum : Cal P w K mg base "act_sum" 4 ["view", "answer", "act"] f_act_sum) :
    Cal P w K mg base "act_sums" 5 ["view", "answer", "stakes"] (runB 4 (m_act_sums f_act_sum)) :=
  cal_mk (k := 4) F sc_act_sums gx (fun _ _ _ _ _ _ us hl => match us, hl with | [_, _, _], _ => rfl) fun cdv A outer s H E hr tk hp =>
    (sx_one (sx_ret (ex_el (el_comp (own := [(("act" : PySem.Str), 3)]) (by rfl) sc_act_sums.nd (ei_ex (xv 2)) (blkOk_by (N := N_act_sums) (sc := (defScope s_act_sums)) (by decide +kernel)) (fun _ _ _ _ _ => (eg_name sc_act_sums.nd)) (fun _ _ _ _ _ => ets_nil) (fun _ _ _ _ _ => (ex_c1 c_act_sum tk0 hr (by decide) (ea_cons (xv 0) (ea_cons (xv 1) (ea_cons (xv 3) ea_nil)))))))))
def N_best_place : List PySem.Str := ["sums", "best", "place"]
theorem sc_best_place : FnScope N_best_place ["sums"] (defScope s_best_place) := ⟨rfl, rfl, rfl, by decide +kernel, rfl, by decide +kernel, by decide +kernel⟩
def m_best_place (f_is_below : FM) : SM := (sSeq (sSet 1 (eC (.int 0)))
    (sSeq (sFor (iRg2 (eC (.int 1)) (eCB fLen (aCons (eVar 0) aNil))) (gN 2) (sIf (tVal (eCall 2 f_is_below (aCons (eBin oIx (eVar 0) (eVar 1)) (aCons (eBin oIx (eVar 0) (eVar 2)) aNil)))) (sSet 1 (eVar 2)) sNil))
    (sRet (eVar 1))))
theorem ok_best_place {P : Program} {w : World} {K : PySem.W.Frag} {mg : PySem.Str → Option Value} {base : Heap} {f : Addr} {fd : FuncData} {f_is_below : FM} (F : FnP K "best_place" s_best_place f fd) (gx : mg "best_place" = some (.ref f)) (c_is_below : Cal P w K mg base "is_below" 1 ["x", "y"] f_is_below) (z_range : mg "range" = none) (z_len : mg "len" = none) :
    Cal P w K mg base "best_place" 2 ["sums"] (runB 3 (m_best_place f_is_below)) :=
  cal_mk (k := 1) F sc_best_place gx (fun _ _ _ _ _ _ us hl => match us, hl with | [_], _ => rfl) fun cdv A outer s H E hr tk hp =>
    (sx_cons (sx_set sc_best_place.nd ex_int)
    (sx_cons (sx_for hp (by rfl) (ei_range2 (by rfl) z_range ex_int (ex_callB c_len (by rfl) z_len bt_len (ea_cons (xv 0) ea_nil))) (eg_name sc_best_place.nd) (sx_one (sx_if (et_val (ex_c1 c_is_below tk hr (by decide) (ea_cons (ex_ix m_ix (xv 0) (xv 1)) (ea_cons (ex_ix m_ix (xv 0) (xv 2)) ea_nil)))) (sx_one (sx_set sc_best_place.nd (xv 2))) sx_nil)))
    (sx_one (sx_ret (xv 1)))))
def N_are_rows : List PySem.Str := ["rows", "many", "row"]
theorem sc_are_rows : FnScope N_are_rows ["rows", "many"] (defScope s_are_rows) := ⟨rfl, rfl, rfl, by decide +kernel, rfl, by decide +kernel, by decide +kernel⟩
def m_are_rows (f_is_chances : FM) : SM := (sSeq (sFor (iEx (eVar 0)) (gN 2) (sIf (tOr (tBl (eBin oNe (eCB fLen (aCons (eVar 2) aNil)) (eVar 1))) (HM.tNot (tVal (eCall 1 f_is_chances (aCons (eVar 2) aNil))))) (sRet (eC (.bl false))) sNil))
    (sRet (eC (.bl true))))
theorem ok_are_rows {P : Program} {w : World} {K : PySem.W.Frag} {mg : PySem.Str → Option Value} {base : Heap} {f : Addr} {fd : FuncData} {f_is_chances : FM} (F : FnP K "are_rows" s_are_rows f fd) (gx : mg "are_rows" = some (.ref f)) (c_is_chances : Cal P w K mg base "is_chances" 4 ["row"] f_is_chances) (z_len : mg "len" = none) :
    Cal P w K mg base "are_rows" 5 ["rows", "many"] (runB 3 (m_are_rows f_is_chances)) :=
  cal_mk (k := 4) F sc_are_rows gx (fun _ _ _ _ _ _ us hl => match us, hl with | [_, _], _ => rfl) fun cdv A outer s H E hr tk hp =>
    (sx_cons (sx_for hp (by rfl) (ei_ex (xv 0)) (eg_name sc_are_rows.nd) (sx_one (sx_if (Ew.et (ew_or (et_cmp (m_ne hr.units) (ex_callB c_len (by rfl) z_len bt_len (ea_cons (xv 2) ea_nil)) (xv 1) (nomark _)) (ew_or1 (et_not (et_val (ex_c1 c_is_chances tk hr (by decide) (ea_cons (xv 2) ea_nil))))))) (sx_one (sx_ret ex_bl)) sx_nil)))
    (sx_one (sx_ret ex_bl)))
def N_is_view : List PySem.Str := ["view", "many"]
theorem sc_is_view : FnScope N_is_view ["view"] (defScope s_is_view) := ⟨rfl, rfl, rfl, by decide +kernel, rfl, by decide +kernel, by decide +kernel⟩
def m_is_view (f_are_rows : FM) : SM := (sSeq (sIf (HM.tNot (tBl (eChain oLe oLe (eC (.int 1)) (eCB fLen (aCons (eVar 0) aNil)) (eC q_MOST_STATES)))) (sRet (eC (.bl false))) sNil)
    (sSeq (sSet 1 (eCB fLen (aCons (eBin oIx (eVar 0) (eC (.int 0))) aNil)))
    (sRet (eAnd (eChain oLe oLe (eC (.int 1)) (eVar 1) (eC q_MOST_ANSWERS)) (eCall 2 f_are_rows (aCons (eVar 0) (aCons (eVar 1) aNil)))))))
theorem ok_is_view {P : Program} {w : World} {K : PySem.W.Frag} {mg : PySem.Str → Option Value} {base : Heap} {f : Addr} {fd : FuncData} {f_are_rows : FM} (F : FnP K "is_view" s_is_view f fd) (gx : mg "is_view" = some (.ref f)) (c_are_rows : Cal P w K mg base "are_rows" 5 ["rows", "many"] f_are_rows) (k_MOST_STATES : Con K mg "MOST_STATES" q_MOST_STATES) (k_MOST_ANSWERS : Con K mg "MOST_ANSWERS" q_MOST_ANSWERS) (z_len : mg "len" = none) :
    Cal P w K mg base "is_view" 6 ["view"] (runB 2 (m_is_view f_are_rows)) :=
  cal_mk (k := 5) F sc_is_view gx (fun _ _ _ _ _ _ us hl => match us, hl with | [_], _ => rfl) fun cdv A outer s H E hr tk hp =>
    (sx_cons (sx_if (et_not (et_chain m_le m_le ex_int (ex_callB c_len (by rfl) z_len bt_len (ea_cons (xv 0) ea_nil)) (ex_con k_MOST_STATES))) (sx_one (sx_ret ex_bl)) sx_nil)
    (sx_cons (sx_set sc_is_view.nd (ex_callB c_len (by rfl) z_len bt_len (ea_cons (ex_ix m_ix (xv 0) ex_int) ea_nil)))
    (sx_one (sx_ret (ex_and (ex_chain m_le m_le ex_int (xv 1) (ex_con k_MOST_ANSWERS)) (ex_one (ex_c1 c_are_rows tk hr (by decide) (ea_cons (xv 0) (ea_cons (xv 1) ea_nil)))))))))
def N_milled : List PySem.Str := ["row", "mill", "part", "found", "share", "line"]
theorem sc_milled : FnScope N_milled ["row", "mill", "part"] (defScope s_milled) := ⟨rfl, rfl, rfl, by decide +kernel, rfl, by decide +kernel, by decide +kernel⟩
def m_milled (f_plus : FM) (f_times : FM) : SM := (sSeq (sSet 3 (eC q_ZERO))
    (sSeq (sFor (iZip (eVar 0) (eVar 1)) (gT 2 (gCs 4 (gCs 5 gNil0))) (sSet 3 (eCall 2 f_plus (aCons (eVar 3) (aCons (eCall 2 f_times (aCons (eVar 4) (aCons (eBin oIx (eVar 5) (eVar 2)) aNil))) aNil)))))
    (sRet (eVar 3))))
theorem ok_milled {P : Program} {w : World} {K : PySem.W.Frag} {mg : PySem.Str → Option Value} {base : Heap} {f : Addr} {fd : FuncData} {f_plus f_times : FM} (F : FnP K "milled" s_milled f fd) (gx : mg "milled" = some (.ref f)) (c_plus : Cal P w K mg base "plus" 2 ["x", "y"] f_plus) (c_times : Cal P w K mg base "times" 2 ["x", "y"] f_times) (k_ZERO : Con K mg "ZERO" q_ZERO) (z_zip : mg "zip" = none) :
    Cal P w K mg base "milled" 3 ["row", "mill", "part"] (runB 6 (m_milled f_plus f_times)) :=
  cal_mk (k := 2) F sc_milled gx (fun _ _ _ _ _ _ us hl => match us, hl with | [_, _, _], _ => rfl) fun cdv A outer s H E hr tk hp =>
    (sx_cons (sx_set sc_milled.nd (ex_con k_ZERO))
    (sx_cons (sx_for hp (by rfl) (ei_zip (by rfl) z_zip (xv 0) (xv 1)) (eg_tup (by rfl) (egs_cons sc_milled.nd (egs_cons sc_milled.nd egs_nil))) (sx_one (sx_set sc_milled.nd (ex_c1 c_plus tk hr (by decide) (ea_cons (xv 3) (ea_cons (ex_c1 c_times tk hr (by decide) (ea_cons (xv 4) (ea_cons (ex_ix m_ix (xv 5) (xv 2)) ea_nil))) ea_nil))))))
    (sx_one (sx_ret (xv 3)))))
def N_milled_row : List PySem.Str := ["row", "mill", "part"]
theorem sc_milled_row : FnScope N_milled_row ["row", "mill"] (defScope s_milled_row) := ⟨rfl, rfl, rfl, by decide +kernel, rfl, by decide +kernel, by decide +kernel⟩
def m_milled_row (f_milled : FM) : SM := (sRet (eCS gTuple (lComp [2] (iRg1 (eCB fLen (aCons (eBin oIx (eVar 1) (eC (.int 0))) aNil))) (gN 2) tYes (eCall 3 f_milled (aCons (eVar 0) (aCons (eVar 1) (aCons (eVar 2) aNil)))))))
theorem ok_milled_row {P : Program} {w : World} {K : PySem.W.Frag} {mg : PySem.Str → Option Value} {base : Heap} {f : Addr} {fd : FuncData} {f_milled : FM} (F : FnP K "milled_row" s_milled_row f fd) (gx : mg "milled_row" = some (.ref f)) (c_milled : Cal P w K mg base "milled" 3 ["row", "mill", "part"] f_milled) (z_range : mg "range" = none) (z_len : mg "len" = none) (z_tuple : mg "tuple" = none) :
    Cal P w K mg base "milled_row" 4 ["row", "mill"] (runB 3 (m_milled_row f_milled)) :=
  cal_mk (k := 3) F sc_milled_row gx (fun _ _ _ _ _ _ us hl => match us, hl with | [_, _], _ => rfl) fun cdv A outer s H E hr tk hp =>
    (sx_one (sx_ret (ex_callTs s_tuple (by rfl) z_tuple bt_tuple (es_el (el_comp (own := [(("part" : PySem.Str), 2)]) (by rfl) sc_milled_row.nd (ei_range1 (by rfl) z_range (ex_callB c_len (by rfl) z_len bt_len (ea_cons (ex_ix m_ix (xv 1) ex_int) ea_nil))) (blkOk_by (N := N_milled_row) (sc := (defScope s_milled_row)) (by decide +kernel)) (fun _ _ _ _ _ => (eg_name sc_milled_row.nd)) (fun _ _ _ _ _ => ets_nil) (fun _ _ _ _ _ => (ex_c1 c_milled tk0 hr (by decide) (ea_cons (xv 0) (ea_cons (xv 1) (ea_cons (xv 2) ea_nil))))))))))
def N_through : List PySem.Str := ["view", "mill", "row"]
theorem sc_through : FnScope N_through ["view", "mill"] (defScope s_through) := ⟨rfl, rfl, rfl, by decide +kernel, rfl, by decide +kernel, by decide +kernel⟩
def m_through (f_milled_row : FM) : SM := (sRet (eCS gTuple (lComp [2] (iEx (eVar 0)) (gN 2) tYes (eCall 2 f_milled_row (aCons (eVar 2) (aCons (eVar 1) aNil))))))
theorem ok_through {P : Program} {w : World} {K : PySem.W.Frag} {mg : PySem.Str → Option Value} {base : Heap} {f : Addr} {fd : FuncData} {f_milled_row : FM} (F : FnP K "through" s_through f fd) (gx : mg "through" = some (.ref f)) (c_milled_row : Cal P w K mg base "milled_row" 4 ["row", "mill"] f_milled_row) (z_tuple : mg "tuple" = none) :
    Cal P w K mg base "through" 5 ["view", "mill"] (runB 3 (m_through f_milled_row)) :=
  cal_mk (k := 4) F sc_through gx (fun _ _ _ _ _ _ us hl => match us, hl with | [_, _], _ => rfl) fun cdv A outer s H E hr tk hp =>
    (sx_one (sx_ret (ex_callTs s_tuple (by rfl) z_tuple bt_tuple (es_el (el_comp (own := [(("row" : PySem.Str), 2)]) (by rfl) sc_through.nd (ei_ex (xv 0)) (blkOk_by (N := N_through) (sc := (defScope s_through)) (by decide +kernel)) (fun _ _ _ _ _ => (eg_name sc_through.nd)) (fun _ _ _ _ _ => ets_nil) (fun _ _ _ _ _ => (ex_c1 c_milled_row tk0 hr (by decide) (ea_cons (xv 2) (ea_cons (xv 1) ea_nil)))))))))
def N_best_acts : List PySem.Str := ["view", "stakes", "answer"]
theorem sc_best_acts : FnScope N_best_acts ["view", "stakes"] (defScope s_best_acts) := ⟨rfl, rfl, rfl, by decide +kernel, rfl, by decide +kernel, by decide +kernel⟩
def m_best_acts (f_best_place : FM) (f_act_sums : FM) : SM := (sRet (eCS gTuple (lComp [2] (iRg1 (eCB fLen (aCons (eBin oIx (eVar 0) (eC (.int 0))) aNil))) (gN 2) tYes (eCall 1 f_best_place (aCons (eCall 3 f_act_sums (aCons (eVar 0) (aCons (eVar 2) (aCons (eVar 1) aNil)))) aNil)))))
theorem ok_best_acts {P : Program} {w : World} {K : PySem.W.Frag} {mg : PySem.Str → Option Value} {base : Heap} {f : Addr} {fd : FuncData} {f_best_place f_act_sums : FM} (F : FnP K "best_acts" s_best_acts f fd) (gx : mg "best_acts" = some (.ref f)) (c_best_place : Cal P w K mg base "best_place" 2 ["sums"] f_best_place) (c_act_sums : Cal P w K mg base "act_sums" 5 ["view", "answer", "stakes"] f_act_sums) (z_range : mg "range" = none) (z_len : mg "len" = none) (z_tuple : mg "tuple" = none) :
    Cal P w K mg base "best_acts" 6 ["view", "stakes"] (runB 3 (m_best_acts f_best_place f_act_sums)) :=
  cal_mk (k := 5) F sc_best_acts gx (fun _ _ _ _ _ _ us hl => match us, hl with | [_, _], _ => rfl) fun cdv A outer s H E hr tk hp =>
    (sx_one (sx_ret (ex_callTs s_tuple (by rfl) z_tuple bt_tuple (es_el (el_comp (own := [(("answer" : PySem.Str), 2)]) (by rfl) sc_best_acts.nd (ei_range1 (by rfl) z_range (ex_callB c_len (by rfl) z_len bt_len (ea_cons (ex_ix m_ix (xv 0) ex_int) ea_nil))) (blkOk_by (N := N_best_acts) (sc := (defScope s_best_acts)) (by decide +kernel)) (fun _ _ _ _ _ => (eg_name sc_best_acts.nd)) (fun _ _ _ _ _ => ets_nil) (fun _ _ _ _ _ => (ex_c1 c_best_place tk0 hr (by decide) (ea_cons (ex_c1 c_act_sums tk0 hr (by decide) (ea_cons (xv 0) (ea_cons (xv 2) (ea_cons (xv 1) ea_nil)))) ea_nil))))))))
def N_worth_of : List PySem.Str := ["view", "stakes", "found", "answer", "sums"]
theorem sc_worth_of : FnScope N_worth_of ["view", "stakes"] (defScope s_worth_of) := ⟨rfl, rfl, rfl, by decide +kernel, rfl, by decide +kernel, by decide +kernel⟩
def m_worth_of (f_act_sums : FM) (f_plus : FM) (f_best_place : FM) : SM := (sSeq (sSet 2 (eC q_ZERO))
    (sSeq (sFor (iRg1 (eCB fLen (aCons (eBin oIx (eVar 0) (eC (.int 0))) aNil))) (gN 3) (sSeq (sSet 4 (eCall 3 f_act_sums (aCons (eVar 0) (aCons (eVar 3) (aCons (eVar 1) aNil)))))
    (sSet 2 (eCall 2 f_plus (aCons (eVar 2) (aCons (eBin oIx (eVar 4) (eCall 1 f_best_place (aCons (eVar 4) aNil))) aNil))))))
    (sRet (eVar 2))))
theorem ok_worth_of {P : Program} {w : World} {K : PySem.W.Frag} {mg : PySem.Str → Option Value} {base : Heap} {f : Addr} {fd : FuncData} {f_act_sums f_plus f_best_place : FM} (F : FnP K "worth_of" s_worth_of f fd) (gx : mg "worth_of" = some (.ref f)) (c_act_sums : Cal P w K mg base "act_sums" 5 ["view", "answer", "stakes"] f_act_sums) (c_plus : Cal P w K mg base "plus" 2 ["x", "y"] f_plus) (c_best_place : Cal P w K mg base "best_place" 2 ["sums"] f_best_place) (k_ZERO : Con K mg "ZERO" q_ZERO) (z_range : mg "range" = none) (z_len : mg "len" = none) :
    Cal P w K mg base "worth_of" 6 ["view", "stakes"] (runB 5 (m_worth_of f_act_sums f_plus f_best_place)) :=
  cal_mk (k := 5) F sc_worth_of gx (fun _ _ _ _ _ _ us hl => match us, hl with | [_, _], _ => rfl) fun cdv A outer s H E hr tk hp =>
    (sx_cons (sx_set sc_worth_of.nd (ex_con k_ZERO))
    (sx_cons (sx_for hp (by rfl) (ei_range1 (by rfl) z_range (ex_callB c_len (by rfl) z_len bt_len (ea_cons (ex_ix m_ix (xv 0) ex_int) ea_nil))) (eg_name sc_worth_of.nd) (sx_cons (sx_set sc_worth_of.nd (ex_c1 c_act_sums tk hr (by decide) (ea_cons (xv 0) (ea_cons (xv 3) (ea_cons (xv 1) ea_nil)))))
    (sx_one (sx_set sc_worth_of.nd (ex_c1 c_plus tk hr (by decide) (ea_cons (xv 2) (ea_cons (ex_ix m_ix (xv 4) (ex_c1 c_best_place tk hr (by decide) (ea_cons (xv 4) ea_nil))) ea_nil)))))))
    (sx_one (sx_ret (xv 2)))))
def N__law_begin : List PySem.Str := ["script", "cell"]
theorem sc__law_begin : FnScope N__law_begin ["script"] (defScope s__law_begin) := ⟨rfl, rfl, rfl, by decide +kernel, rfl, by decide +kernel, by decide +kernel⟩
def m__law_begin : SM := (sRet (eLst (aCons (eEl (lComp [1] (iEx (eVar 0)) (gN 1) tYes (eCB fInt (aCons (eVar 1) aNil)))) (aCons (eC (.int 0)) (aCons (eC (.int 0)) (aCons (eC (.int 7)) aNil))))))
theorem ok__law_begin {P : Program} {w : World} {K : PySem.W.Frag} {mg : PySem.Str → Option Value} {base : Heap} {f : Addr} {fd : FuncData} (F : FnP K "_law_begin" s__law_begin f fd) (gx : mg "_law_begin" = some (.ref f)) (z_int : mg "int" = none) :
    Cal P w K mg base "_law_begin" 1 ["script"] (runB 2 (m__law_begin)) :=
  cal_mk (k := 0) F sc__law_begin gx (fun _ _ _ _ _ _ us hl => match us, hl with | [_], _ => rfl) fun cdv A outer s H E hr tk hp =>
    (sx_one (sx_ret (ex_lst (ea_cons (ex_el (el_comp (own := [(("cell" : PySem.Str), 1)]) (by rfl) sc__law_begin.nd (ei_ex (xv 0)) (blkOk_by (N := N__law_begin) (sc := (defScope s__law_begin)) (by decide +kernel)) (fun _ _ _ _ _ => (eg_name sc__law_begin.nd)) (fun _ _ _ _ _ => ets_nil) (fun _ _ _ _ _ => (ex_callT c_int (by rfl) z_int bt_int (ea_cons (xv 1) ea_nil))))) (ea_cons ex_int (ea_cons ex_int (ea_cons ex_int ea_nil)))))))
def N__law_draw : List PySem.Str := ["d", "many", "found", "size", "cell"]
theorem sc__law_draw : FnScope N__law_draw ["d", "many"] (defScope s__law_draw) := ⟨rfl, rfl, rfl, by decide +kernel, rfl, by decide +kernel, by decide +kernel⟩
def m__law_draw : SM := (sSeq (sIf (tBl (eBin oGt (eBin oIx (eVar 0) (eC (.int 2))) (eC (.int 0)))) (sSeq (sSet 2 (eBin oIx (eVar 0) (eC (.int 2))))
    (sSeq (sSub (eVar 0) (eC (.int 2)) (eBin oDiv (eVar 2) (eVar 1)))
    (sRet (eBin oMod (eCB fInt (aCons (eVar 2) aNil)) (eVar 1))))) sNil)
    (sSeq (sSet 3 (eC (.int 0)))
    (sSeq (sIf (tBl (eBin oLt (eBin oIx (eVar 0) (eC (.int 1))) (eCB fLen (aCons (eBin oIx (eVar 0) (eC (.int 0))) aNil)))) (sSeq (sSet 4 (eBin oIx (eBin oIx (eVar 0) (eC (.int 0))) (eBin oIx (eVar 0) (eC (.int 1)))))
    (sSet 3 (eBin oAdd (eBin oMul (eC (.int 2)) (eCB fAbs (aCons (eVar 4) aNil))) (eCB fInt (aCons (eBin oLt (eVar 4) (eC (.int 0))) aNil))))) sNil)
    (sSeq (sAugS oIAdd (eVar 0) (eC (.int 1)) (eC (.int 1)))
    (sSeq (sIf (tBl (eBin oGe (eVar 3) (eBin oMul (eC (.int 2)) (eBin oPow (eC (.int 10)) (eC (.int 18)))))) (sSeq (sSet 2 (eBin oMod (eCB fInt (aCons (eBin oDiv (eVar 3) (eC (.int 2))) aNil)) (eBin oShl (eC (.int 1)) (eC (.int 6000)))))
    (sSeq (sSub (eVar 0) (eC (.int 2)) (eBin oDiv (eVar 2) (eVar 1)))
    (sRet (eBin oMod (eCB fInt (aCons (eVar 2) aNil)) (eVar 1))))) sNil)
    (sSeq (sSub (eVar 0) (eC (.int 3)) (eBin oMod (eCB fInt (aCons (eBin oAdd (eBin oAdd (eBin oAdd (eBin oMul (eBin oIx (eVar 0) (eC (.int 3))) (eC (.int 48271))) (eBin oMul (eBin oMod (eCB fInt (aCons (eVar 3) aNil)) (eC (.int 2147483629))) (eC (.int 16807)))) (eBin oMul (eBin oIx (eVar 0) (eC (.int 1))) (eC (.int 69621)))) (eC (.int 11))) aNil)) (eC (.int 2147483647))))
    (sRet (eBin oMod (eCB fInt (aCons (eBin oDiv (eBin oIx (eVar 0) (eC (.int 3))) (eC (.int 16))) aNil)) (eVar 1)))))))))
theorem ok__law_draw {P : Program} {w : World} {K : PySem.W.Frag} {mg : PySem.Str → Option Value} {base : Heap} {f : Addr} {fd : FuncData} (F : FnP K "_law_draw" s__law_draw f fd) (gx : mg "_law_draw" = some (.ref f)) (z_int : mg "int" = none) (z_len : mg "len" = none) (z_abs : mg "abs" = none) :
    Cal P w K mg base "_law_draw" 1 ["d", "many"] (runB 5 (m__law_draw)) :=
  cal_mk (k := 0) F sc__law_draw gx (fun _ _ _ _ _ _ us hl => match us, hl with | [_, _], _ => rfl) fun cdv A outer s H E hr tk hp =>
    (sx_cons (sx_if (et_cmp m_gt (ex_ix m_ix (xv 0) ex_int) ex_int (nomark _)) (sx_cons (sx_set sc__law_draw.nd (ex_ix m_ix (xv 0) ex_int))
    (sx_cons (sx_sub (ex_op m_div (xv 2) (xv 1)) (xv 0) ex_int)
    (sx_one (sx_ret (ex_op m_mod (ex_callT c_int (by rfl) z_int bt_int (ea_cons (xv 2) ea_nil)) (xv 1)))))) sx_nil)
    (sx_cons (sx_set sc__law_draw.nd ex_int)
    (sx_cons (sx_if (et_cmp m_lt (ex_ix m_ix (xv 0) ex_int) (ex_callB c_len (by rfl) z_len bt_len (ea_cons (ex_ix m_ix (xv 0) ex_int) ea_nil)) (nomark _)) (sx_cons (sx_set sc__law_draw.nd (ex_ix m_ix (ex_ix m_ix (xv 0) ex_int) (ex_ix m_ix (xv 0) ex_int)))
    (sx_one (sx_set sc__law_draw.nd (ex_op m_add (ex_op m_mul ex_int (ex_callB c_abs (by rfl) z_abs bt_abs (ea_cons (xv 4) ea_nil))) (ex_callT c_int (by rfl) z_int bt_int (ea_cons (ex_cmp m_lt (xv 4) ex_int (nomark _)) ea_nil)))))) sx_nil)
    (sx_cons (sx_augS (xv 0) ex_int ex_int mi_add)
    (sx_cons (sx_if (et_cmp m_ge (xv 3) (ex_op m_mul ex_int (ex_op m_pow ex_int ex_int)) (nomark _)) (sx_cons (sx_set sc__law_draw.nd (ex_op m_mod (ex_callT c_int (by rfl) z_int bt_int (ea_cons (ex_op m_div (xv 3) ex_int) ea_nil)) (ex_op m_shl ex_int ex_int)))
    (sx_cons (sx_sub (ex_op m_div (xv 2) (xv 1)) (xv 0) ex_int)
    (sx_one (sx_ret (ex_op m_mod (ex_callT c_int (by rfl) z_int bt_int (ea_cons (xv 2) ea_nil)) (xv 1)))))) sx_nil)
    (sx_cons (sx_sub (ex_op m_mod (ex_callT c_int (by rfl) z_int bt_int (ea_cons (ex_op m_add (ex_op m_add (ex_op m_add (ex_op m_mul (ex_ix m_ix (xv 0) ex_int) ex_int) (ex_op m_mul (ex_op m_mod (ex_callT c_int (by rfl) z_int bt_int (ea_cons (xv 3) ea_nil)) ex_int) ex_int)) (ex_op m_mul (ex_ix m_ix (xv 0) ex_int) ex_int)) ex_int) ea_nil)) ex_int) (xv 0) ex_int)
    (sx_one (sx_ret (ex_op m_mod (ex_callT c_int (by rfl) z_int bt_int (ea_cons (ex_op m_div (ex_ix m_ix (xv 0) ex_int) ex_int) ea_nil)) (xv 1))))))))))
def N__law_pick : List PySem.Str := ["d", "row"]
theorem sc__law_pick : FnScope N__law_pick ["d", "row"] (defScope s__law_pick) := ⟨rfl, rfl, rfl, by decide +kernel, rfl, by decide +kernel, by decide +kernel⟩
def m__law_pick (f__law_draw : FM) : SM := (sRet (eBin oIx (eVar 1) (eCall 2 f__law_draw (aCons (eVar 0) (aCons (eCB fLen (aCons (eVar 1) aNil)) aNil)))))
theorem ok__law_pick {P : Program} {w : World} {K : PySem.W.Frag} {mg : PySem.Str → Option Value} {base : Heap} {f : Addr} {fd : FuncData} {f__law_draw : FM} (F : FnP K "_law_pick" s__law_pick f fd) (gx : mg "_law_pick" = some (.ref f)) (c__law_draw : Cal P w K mg base "_law_draw" 1 ["d", "many"] f__law_draw) (z_len : mg "len" = none) :
    Cal P w K mg base "_law_pick" 2 ["d", "row"] (runB 2 (m__law_pick f__law_draw)) :=
  cal_mk (k := 1) F sc__law_pick gx (fun _ _ _ _ _ _ us hl => match us, hl with | [_, _], _ => rfl) fun cdv A outer s H E hr tk hp =>
    (sx_one (sx_ret (ex_ix m_ix (xv 1) (ex_c1 c__law_draw tk hr (by decide) (ea_cons (xv 0) (ea_cons (ex_callB c_len (by rfl) z_len bt_len (ea_cons (xv 1) ea_nil)) ea_nil))))))
def N__law_rare : List PySem.Str := ["d", "many"]
theorem sc__law_rare : FnScope N__law_rare ["d", "many"] (defScope s__law_rare) := ⟨rfl, rfl, rfl, by decide +kernel, rfl, by decide +kernel, by decide +kernel⟩
def m__law_rare (f__law_draw : FM) : SM := (sRet (eBin oEq (eCall 2 f__law_draw (aCons (eVar 0) (aCons (eVar 1) aNil))) (eBin oDiv (eVar 1) (eC (.int 2)))))
theorem ok__law_rare {P : Program} {w : World} {K : PySem.W.Frag} {mg : PySem.Str → Option Value} {base : Heap} {f : Addr} {fd : FuncData} {f__law_draw : FM} (F : FnP K "_law_rare" s__law_rare f fd) (gx : mg "_law_rare" = some (.ref f)) (c__law_draw : Cal P w K mg base "_law_draw" 1 ["d", "many"] f__law_draw) :
    Cal P w K mg base "_law_rare" 2 ["d", "many"] (runB 2 (m__law_rare f__law_draw)) :=
  cal_mk (k := 1) F sc__law_rare gx (fun _ _ _ _ _ _ us hl => match us, hl with | [_, _], _ => rfl) fun cdv A outer s H E hr tk hp =>
    (sx_one (sx_ret (ex_cmp (m_eq hr.units) (ex_c1 c__law_draw tk hr (by decide) (ea_cons (xv 0) (ea_cons (xv 1) ea_nil))) (ex_op m_div (xv 1) ex_int) (nomark _))))
def N__law_is_int : List PySem.Str := ["thing"]
theorem sc__law_is_int : FnScope N__law_is_int ["thing"] (defScope s__law_is_int) := ⟨rfl, rfl, rfl, by decide +kernel, rfl, by decide +kernel, by decide +kernel⟩
def m__law_is_int : SM := (sRet (eAnd (eCB fIsi (aCons (eVar 0) (aCons (eC (.ty "int")) aNil))) (eNot (eCB fIsi (aCons (eVar 0) (aCons (eC (.ty "bool")) aNil))))))
theorem ok__law_is_int {P : Program} {w : World} {K : PySem.W.Frag} {mg : PySem.Str → Option Value} {base : Heap} {f : Addr} {fd : FuncData} (F : FnP K "_law_is_int" s__law_is_int f fd) (gx : mg "_law_is_int" = some (.ref f)) (z_int : mg "int" = none) (z_isinstance : mg "isinstance" = none) (z_bool : mg "bool" = none) :
    Cal P w K mg base "_law_is_int" 1 ["thing"] (runB 1 (m__law_is_int)) :=
  cal_mk (k := 0) F sc__law_is_int gx (fun _ _ _ _ _ _ us hl => match us, hl with | [_], _ => rfl) fun cdv A outer s H E hr tk hp =>
    (sx_one (sx_ret (ex_and (ex_callB c_isi (by rfl) z_isinstance bt_isinstance (ea_cons (xv 0) (ea_cons (ex_bltn (by rfl) z_int bt_int (by rfl) (fun _ _ => .ty _)) ea_nil))) (ex_one (ex_not (ex_callB c_isi (by rfl) z_isinstance bt_isinstance (ea_cons (xv 0) (ea_cons (ex_bltn (by rfl) z_bool bt_bool (by rfl) (fun _ _ => .ty _)) ea_nil))))))))
def N__law_is_ints : List PySem.Str := ["row", "part"]
theorem sc__law_is_ints : FnScope N__law_is_ints ["row"] (defScope s__law_is_ints) := ⟨rfl, rfl, rfl, by decide +kernel, rfl, by decide +kernel, by decide +kernel⟩
def m__law_is_ints (f__law_is_int : FM) : SM := (sRet (eAnd (eCB fIsi (aCons (eVar 0) (aCons (eC (.ty "tuple")) aNil))) (eCS gAllB (lComp [1] (iEx (eVar 0)) (gN 1) tYes (eCall 1 f__law_is_int (aCons (eVar 1) aNil))))))
theorem ok__law_is_ints {P : Program} {w : World} {K : PySem.W.Frag} {mg : PySem.Str → Option Value} {base : Heap} {f : Addr} {fd : FuncData} {f__law_is_int : FM} (F : FnP K "_law_is_ints" s__law_is_ints f fd) (gx : mg "_law_is_ints" = some (.ref f)) (c__law_is_int : Cal P w K mg base "_law_is_int" 1 ["thing"] f__law_is_int) (z_tuple : mg "tuple" = none) (z_isinstance : mg "isinstance" = none) (z_all : mg "all" = none) :
    Cal P w K mg base "_law_is_ints" 2 ["row"] (runB 2 (m__law_is_ints f__law_is_int)) :=
  cal_mk (k := 1) F sc__law_is_ints gx (fun _ _ _ _ _ _ us hl => match us, hl with | [_], _ => rfl) fun cdv A outer s H E hr tk hp =>
    (sx_one (sx_ret (ex_and (ex_callB c_isi (by rfl) z_isinstance bt_isinstance (ea_cons (xv 0) (ea_cons (ex_bltn (by rfl) z_tuple bt_tuple (by rfl) (fun _ _ => .ty _)) ea_nil))) (ex_one (ex_callBl (s_all (by rfl)) (by rfl) z_all bt_all (esl_el (el_comp (own := [(("part" : PySem.Str), 1)]) (by rfl) sc__law_is_ints.nd (ei_ex (xv 0)) (blkOk_by (N := N__law_is_ints) (sc := (defScope s__law_is_ints)) (by decide +kernel)) (fun _ _ _ _ _ => (eg_name sc__law_is_ints.nd)) (fun _ _ _ _ _ => ets_nil) (fun _ _ _ _ _ => (ex_c1 c__law_is_int tk0 hr (by decide) (ea_cons (xv 1) ea_nil))))))))))
def N__law_is_rows : List PySem.Str := ["rows", "size", "row"]
theorem sc__law_is_rows : FnScope N__law_is_rows ["rows", "size"] (defScope s__law_is_rows) := ⟨rfl, rfl, rfl, by decide +kernel, rfl, by decide +kernel, by decide +kernel⟩
def m__law_is_rows : SM := (sSeq (sIf (HM.tNot (tVal (eCB fIsi (aCons (eVar 0) (aCons (eC (.ty "tuple")) aNil))))) (sRet (eC (.bl false))) sNil)
    (sRet (eCS gAllB (lComp [2] (iEx (eVar 0)) (gN 2) tYes (eAnd (eCB fIsi (aCons (eVar 2) (aCons (eC (.ty "tuple")) aNil))) (eBin oEq (eCB fLen (aCons (eVar 2) aNil)) (eVar 1)))))))
theorem ok__law_is_rows {P : Program} {w : World} {K : PySem.W.Frag} {mg : PySem.Str → Option Value} {base : Heap} {f : Addr} {fd : FuncData} (F : FnP K "_law_is_rows" s__law_is_rows f fd) (gx : mg "_law_is_rows" = some (.ref f)) (z_tuple : mg "tuple" = none) (z_isinstance : mg "isinstance" = none) (z_len : mg "len" = none) (z_all : mg "all" = none) :
    Cal P w K mg base "_law_is_rows" 1 ["rows", "size"] (runB 3 (m__law_is_rows)) :=
  cal_mk (k := 0) F sc__law_is_rows gx (fun _ _ _ _ _ _ us hl => match us, hl with | [_, _], _ => rfl) fun cdv A outer s H E hr tk hp =>
    (sx_cons (sx_if (et_not (et_val (ex_callB c_isi (by rfl) z_isinstance bt_isinstance (ea_cons (xv 0) (ea_cons (ex_bltn (by rfl) z_tuple bt_tuple (by rfl) (fun _ _ => .ty _)) ea_nil))))) (sx_one (sx_ret ex_bl)) sx_nil)
    (sx_one (sx_ret (ex_callBl (s_all (by rfl)) (by rfl) z_all bt_all (esl_el (el_comp (own := [(("row" : PySem.Str), 2)]) (by rfl) sc__law_is_rows.nd (ei_ex (xv 0)) (blkOk_by (N := N__law_is_rows) (sc := (defScope s__law_is_rows)) (by decide +kernel)) (fun _ _ _ _ _ => (eg_name sc__law_is_rows.nd)) (fun _ _ _ _ _ => ets_nil) (fun _ _ _ _ _ => (ex_and (ex_callB c_isi (by rfl) z_isinstance bt_isinstance (ea_cons (xv 2) (ea_cons (ex_bltn (by rfl) z_tuple bt_tuple (by rfl) (fun _ _ => .ty _)) ea_nil))) (ex_one (ex_cmp (m_eq hr.units) (ex_callB c_len (by rfl) z_len bt_len (ea_cons (xv 2) ea_nil)) (xv 1) (nomark _)))))))))))
def N__law_gcd : List PySem.Str := ["left", "right", "a", "b", "c"]
theorem sc__law_gcd : FnScope N__law_gcd ["left", "right"] (defScope s__law_gcd) := ⟨rfl, rfl, rfl, by decide +kernel, rfl, by decide +kernel, by decide +kernel⟩
def m__law_gcd : SM := (sSeq (sSet 2 (eCB fAbs (aCons (eVar 0) aNil)))
    (sSeq (sSet 3 (eCB fAbs (aCons (eVar 1) aNil)))
    (sSeq (whileN (tBl (eBin oGt (eVar 3) (eC (.int 0)))) (sSeq (sSet 4 (eBin oMod (eCB fInt (aCons (eVar 2) aNil)) (eVar 3)))
    (sSeq (sSet 2 (eVar 3))
    (sSet 3 (eVar 4)))) big)
    (sRet (eVar 2)))))
theorem ok__law_gcd {P : Program} {w : World} {K : PySem.W.Frag} {mg : PySem.Str → Option Value} {base : Heap} {f : Addr} {fd : FuncData} (F : FnP K "_law_gcd" s__law_gcd f fd) (gx : mg "_law_gcd" = some (.ref f)) (z_abs : mg "abs" = none) (z_int : mg "int" = none) :
    Cal P w K mg base "_law_gcd" 1 ["left", "right"] (runB 5 (m__law_gcd)) :=
  cal_mk (k := 0) F sc__law_gcd gx (fun _ _ _ _ _ _ us hl => match us, hl with | [_, _], _ => rfl) fun cdv A outer s H E hr tk hp =>
    (sx_cons (sx_set sc__law_gcd.nd (ex_callB c_abs (by rfl) z_abs bt_abs (ea_cons (xv 0) ea_nil)))
    (sx_cons (sx_set sc__law_gcd.nd (ex_callB c_abs (by rfl) z_abs bt_abs (ea_cons (xv 1) ea_nil)))
    (sx_cons (sx_while big hp (et_cmp m_gt (xv 3) ex_int (nomark _)) (sx_cons (sx_set sc__law_gcd.nd (ex_op m_mod (ex_callT c_int (by rfl) z_int bt_int (ea_cons (xv 2) ea_nil)) (xv 3)))
    (sx_cons (sx_set sc__law_gcd.nd (xv 3))
    (sx_one (sx_set sc__law_gcd.nd (xv 4))))))
    (sx_one (sx_ret (xv 2))))))
def N__law_f : List PySem.Str := ["n", "d", "common"]
theorem sc__law_f : FnScope N__law_f ["n", "d"] (defScope s__law_f) := ⟨rfl, rfl, rfl, by decide +kernel, rfl, by decide +kernel, by decide +kernel⟩
def m__law_f (f__law_gcd : FM) : SM := (sSeq (sSet 2 (eCall 2 f__law_gcd (aCons (eVar 0) (aCons (eVar 1) aNil))))
    (sSeq (sIf (tBl (eBin oLt (eVar 1) (eC (.int 0)))) (sSet 2 (eUn oNeg (eVar 2))) sNil)
    (sRet (eTup (aCons (eBin oDiv (eVar 0) (eVar 2)) (aCons (eBin oDiv (eVar 1) (eVar 2)) aNil))))))
theorem ok__law_f {P : Program} {w : World} {K : PySem.W.Frag} {mg : PySem.Str → Option Value} {base : Heap} {f : Addr} {fd : FuncData} {f__law_gcd : FM} (F : FnP K "_law_f" s__law_f f fd) (gx : mg "_law_f" = some (.ref f)) (c__law_gcd : Cal P w K mg base "_law_gcd" 1 ["left", "right"] f__law_gcd) :
    Cal P w K mg base "_law_f" 2 ["n", "d"] (runB 3 (m__law_f f__law_gcd)) :=
  cal_mk (k := 1) F sc__law_f gx (fun _ _ _ _ _ _ us hl => match us, hl with | [_, _], _ => rfl) fun cdv A outer s H E hr tk hp =>
    (sx_cons (sx_set sc__law_f.nd (ex_c1 c__law_gcd tk hr (by decide) (ea_cons (xv 0) (ea_cons (xv 1) ea_nil))))
    (sx_cons (sx_if (et_cmp m_lt (xv 1) ex_int (nomark _)) (sx_one (sx_set sc__law_f.nd (ex_un m_neg (xv 2)))) sx_nil)
    (sx_one (sx_ret (ex_tup (ea_cons (ex_op m_div (xv 0) (xv 2)) (ea_cons (ex_op m_div (xv 1) (xv 2)) ea_nil)))))))
def N__law_plus : List PySem.Str := ["x", "y"]
theorem sc__law_plus : FnScope N__law_plus ["x", "y"] (defScope s__law_plus) := ⟨rfl, rfl, rfl, by decide +kernel, rfl, by decide +kernel, by decide +kernel⟩
def m__law_plus (f__law_f : FM) : SM := (sRet (eCall 2 f__law_f (aCons (eBin oAdd (eBin oMul (eBin oIx (eVar 0) (eC (.int 0))) (eBin oIx (eVar 1) (eC (.int 1)))) (eBin oMul (eBin oIx (eVar 1) (eC (.int 0))) (eBin oIx (eVar 0) (eC (.int 1))))) (aCons (eBin oMul (eBin oIx (eVar 0) (eC (.int 1))) (eBin oIx (eVar 1) (eC (.int 1)))) aNil))))
theorem ok__law_plus {P : Program} {w : World} {K : PySem.W.Frag} {mg : PySem.Str → Option Value} {base : Heap} {f : Addr} {fd : FuncData} {f__law_f : FM} (F : FnP K "_law_plus" s__law_plus f fd) (gx : mg "_law_plus" = some (.ref f)) (c__law_f : Cal P w K mg base "_law_f" 2 ["n", "d"] f__law_f) :
    Cal P w K mg base "_law_plus" 3 ["x", "y"] (runB 2 (m__law_plus f__law_f)) :=
  cal_mk (k := 2) F sc__law_plus gx (fun _ _ _ _ _ _ us hl => match us, hl with | [_, _], _ => rfl) fun cdv A outer s H E hr tk hp =>
    (sx_one (sx_ret (ex_c1 c__law_f tk hr (by decide) (ea_cons (ex_op m_add (ex_op m_mul (ex_ix m_ix (xv 0) ex_int) (ex_ix m_ix (xv 1) ex_int)) (ex_op m_mul (ex_ix m_ix (xv 1) ex_int) (ex_ix m_ix (xv 0) ex_int))) (ea_cons (ex_op m_mul (ex_ix m_ix (xv 0) ex_int) (ex_ix m_ix (xv 1) ex_int)) ea_nil)))))
def N__law_minus : List PySem.Str := ["x", "y"]
theorem sc__law_minus : FnScope N__law_minus ["x", "y"] (defScope s__law_minus) := ⟨rfl, rfl, rfl, by decide +kernel, rfl, by decide +kernel, by decide +kernel⟩
def m__law_minus (f__law_f : FM) : SM := (sRet (eCall 2 f__law_f (aCons (eBin oSub (eBin oMul (eBin oIx (eVar 0) (eC (.int 0))) (eBin oIx (eVar 1) (eC (.int 1)))) (eBin oMul (eBin oIx (eVar 1) (eC (.int 0))) (eBin oIx (eVar 0) (eC (.int 1))))) (aCons (eBin oMul (eBin oIx (eVar 0) (eC (.int 1))) (eBin oIx (eVar 1) (eC (.int 1)))) aNil))))
theorem ok__law_minus {P : Program} {w : World} {K : PySem.W.Frag} {mg : PySem.Str → Option Value} {base : Heap} {f : Addr} {fd : FuncData} {f__law_f : FM} (F : FnP K "_law_minus" s__law_minus f fd) (gx : mg "_law_minus" = some (.ref f)) (c__law_f : Cal P w K mg base "_law_f" 2 ["n", "d"] f__law_f) :
    Cal P w K mg base "_law_minus" 3 ["x", "y"] (runB 2 (m__law_minus f__law_f)) :=
  cal_mk (k := 2) F sc__law_minus gx (fun _ _ _ _ _ _ us hl => match us, hl with | [_, _], _ => rfl) fun cdv A outer s H E hr tk hp =>
    (sx_one (sx_ret (ex_c1 c__law_f tk hr (by decide) (ea_cons (ex_op m_sub (ex_op m_mul (ex_ix m_ix (xv 0) ex_int) (ex_ix m_ix (xv 1) ex_int)) (ex_op m_mul (ex_ix m_ix (xv 1) ex_int) (ex_ix m_ix (xv 0) ex_int))) (ea_cons (ex_op m_mul (ex_ix m_ix (xv 0) ex_int) (ex_ix m_ix (xv 1) ex_int)) ea_nil)))))
def N__law_times : List PySem.Str := ["x", "y"]
theorem sc__law_times : FnScope N__law_times ["x", "y"] (defScope s__law_times) := ⟨rfl, rfl, rfl, by decide +kernel, rfl, by decide +kernel, by decide +kernel⟩
def m__law_times (f__law_f : FM) : SM := (sRet (eCall 2 f__law_f (aCons (eBin oMul (eBin oIx (eVar 0) (eC (.int 0))) (eBin oIx (eVar 1) (eC (.int 0)))) (aCons (eBin oMul (eBin oIx (eVar 0) (eC (.int 1))) (eBin oIx (eVar 1) (eC (.int 1)))) aNil))))
theorem ok__law_times {P : Program} {w : World} {K : PySem.W.Frag} {mg : PySem.Str → Option Value} {base : Heap} {f : Addr} {fd : FuncData} {f__law_f : FM} (F : FnP K "_law_times" s__law_times f fd) (gx : mg "_law_times" = some (.ref f)) (c__law_f : Cal P w K mg base "_law_f" 2 ["n", "d"] f__law_f) :
    Cal P w K mg base "_law_times" 3 ["x", "y"] (runB 2 (m__law_times f__law_f)) :=
  cal_mk (k := 2) F sc__law_times gx (fun _ _ _ _ _ _ us hl => match us, hl with | [_, _], _ => rfl) fun cdv A outer s H E hr tk hp =>
    (sx_one (sx_ret (ex_c1 c__law_f tk hr (by decide) (ea_cons (ex_op m_mul (ex_ix m_ix (xv 0) ex_int) (ex_ix m_ix (xv 1) ex_int)) (ea_cons (ex_op m_mul (ex_ix m_ix (xv 0) ex_int) (ex_ix m_ix (xv 1) ex_int)) ea_nil)))))
def N__law_less : List PySem.Str := ["x", "y"]
theorem sc__law_less : FnScope N__law_less ["x", "y"] (defScope s__law_less) := ⟨rfl, rfl, rfl, by decide +kernel, rfl, by decide +kernel, by decide +kernel⟩
def m__law_less : SM := (sRet (eBin oLt (eBin oMul (eBin oIx (eVar 0) (eC (.int 0))) (eBin oIx (eVar 1) (eC (.int 1)))) (eBin oMul (eBin oIx (eVar 1) (eC (.int 0))) (eBin oIx (eVar 0) (eC (.int 1))))))
theorem ok__law_less {P : Program} {w : World} {K : PySem.W.Frag} {mg : PySem.Str → Option Value} {base : Heap} {f : Addr} {fd : FuncData} (F : FnP K "_law_less" s__law_less f fd) (gx : mg "_law_less" = some (.ref f))  :
    Cal P w K mg base "_law_less" 1 ["x", "y"] (runB 2 (m__law_less)) :=
  cal_mk (k := 0) F sc__law_less gx (fun _ _ _ _ _ _ us hl => match us, hl with | [_, _], _ => rfl) fun cdv A outer s H E hr tk hp =>
    (sx_one (sx_ret (ex_cmp m_lt (ex_op m_mul (ex_ix m_ix (xv 0) ex_int) (ex_ix m_ix (xv 1) ex_int)) (ex_op m_mul (ex_ix m_ix (xv 1) ex_int) (ex_ix m_ix (xv 0) ex_int)) (nomark _))))
def N__law_total : List PySem.Str := ["row", "found", "part"]
theorem sc__law_total : FnScope N__law_total ["row"] (defScope s__law_total) := ⟨rfl, rfl, rfl, by decide +kernel, rfl, by decide +kernel, by decide +kernel⟩
def m__law_total (f__law_plus : FM) : SM := (sSeq (sSet 1 (eTup (aCons (eC (.int 0)) (aCons (eC (.int 1)) aNil))))
    (sSeq (sFor (iEx (eVar 0)) (gN 2) (sSet 1 (eCall 2 f__law_plus (aCons (eVar 1) (aCons (eVar 2) aNil)))))
    (sRet (eVar 1))))
theorem ok__law_total {P : Program} {w : World} {K : PySem.W.Frag} {mg : PySem.Str → Option Value} {base : Heap} {f : Addr} {fd : FuncData} {f__law_plus : FM} (F : FnP K "_law_total" s__law_total f fd) (gx : mg "_law_total" = some (.ref f)) (c__law_plus : Cal P w K mg base "_law_plus" 3 ["x", "y"] f__law_plus) :
    Cal P w K mg base "_law_total" 4 ["row"] (runB 3 (m__law_total f__law_plus)) :=
  cal_mk (k := 3) F sc__law_total gx (fun _ _ _ _ _ _ us hl => match us, hl with | [_], _ => rfl) fun cdv A outer s H E hr tk hp =>
    (sx_cons (sx_set sc__law_total.nd (ex_tup (ea_cons ex_int (ea_cons ex_int ea_nil))))
    (sx_cons (sx_for hp (by rfl) (ei_ex (xv 0)) (eg_name sc__law_total.nd) (sx_one (sx_set sc__law_total.nd (ex_c1 c__law_plus tk hr (by decide) (ea_cons (xv 1) (ea_cons (xv 2) ea_nil))))))
    (sx_one (sx_ret (xv 1)))))
def N__law_great : List PySem.Str := ["row", "found", "part"]
theorem sc__law_great : FnScope N__law_great ["row"] (defScope s__law_great) := ⟨rfl, rfl, rfl, by decide +kernel, rfl, by decide +kernel, by decide +kernel⟩
def m__law_great (f__law_less : FM) : SM := (sSeq (sSet 1 (eBin oIx (eVar 0) (eC (.int 0))))
    (sSeq (sFor (iEx (eVar 0)) (gN 2) (sIf (tVal (eCall 2 f__law_less (aCons (eVar 1) (aCons (eVar 2) aNil)))) (sSet 1 (eVar 2)) sNil))
    (sRet (eVar 1))))
theorem ok__law_great {P : Program} {w : World} {K : PySem.W.Frag} {mg : PySem.Str → Option Value} {base : Heap} {f : Addr} {fd : FuncData} {f__law_less : FM} (F : FnP K "_law_great" s__law_great f fd) (gx : mg "_law_great" = some (.ref f)) (c__law_less : Cal P w K mg base "_law_less" 1 ["x", "y"] f__law_less) :
    Cal P w K mg base "_law_great" 2 ["row"] (runB 3 (m__law_great f__law_less)) :=
  cal_mk (k := 1) F sc__law_great gx (fun _ _ _ _ _ _ us hl => match us, hl with | [_], _ => rfl) fun cdv A outer s H E hr tk hp =>
    (sx_cons (sx_set sc__law_great.nd (ex_ix m_ix (xv 0) ex_int))
    (sx_cons (sx_for hp (by rfl) (ei_ex (xv 0)) (eg_name sc__law_great.nd) (sx_one (sx_if (et_val (ex_c1 c__law_less tk hr (by decide) (ea_cons (xv 1) (ea_cons (xv 2) ea_nil)))) (sx_one (sx_set sc__law_great.nd (xv 2))) sx_nil)))
    (sx_one (sx_ret (xv 1)))))
def N__law_is_frac : List PySem.Str := ["thing"]
theorem sc__law_is_frac : FnScope N__law_is_frac ["thing"] (defScope s__law_is_frac) := ⟨rfl, rfl, rfl, by decide +kernel, rfl, by decide +kernel, by decide +kernel⟩
def m__law_is_frac (f__law_is_int : FM) (f__law_gcd : FM) : SM := (sSeq (sIf (tOr (HM.tNot (tVal (eCB fIsi (aCons (eVar 0) (aCons (eC (.ty "tuple")) aNil))))) (tBl (eBin oNe (eCB fLen (aCons (eVar 0) aNil)) (eC (.int 2))))) (sRet (eC (.bl false))) sNil)
    (sSeq (sIf (tOr (HM.tNot (tVal (eCall 1 f__law_is_int (aCons (eBin oIx (eVar 0) (eC (.int 0))) aNil)))) (HM.tNot (tVal (eCall 1 f__law_is_int (aCons (eBin oIx (eVar 0) (eC (.int 1))) aNil))))) (sRet (eC (.bl false))) sNil)
    (sRet (eAnd (eBin oGe (eBin oIx (eVar 0) (eC (.int 1))) (eC (.int 1))) (eBin oEq (eCall 2 f__law_gcd (aCons (eBin oIx (eVar 0) (eC (.int 0))) (aCons (eBin oIx (eVar 0) (eC (.int 1))) aNil))) (eC (.int 1)))))))
theorem ok__law_is_frac {P : Program} {w : World} {K : PySem.W.Frag} {mg : PySem.Str → Option Value} {base : Heap} {f : Addr} {fd : FuncData} {f__law_is_int f__law_gcd : FM} (F : FnP K "_law_is_frac" s__law_is_frac f fd) (gx : mg "_law_is_frac" = some (.ref f)) (c__law_is_int : Cal P w K mg base "_law_is_int" 1 ["thing"] f__law_is_int) (c__law_gcd : Cal P w K mg base "_law_gcd" 1 ["left", "right"] f__law_gcd) (z_tuple : mg "tuple" = none) (z_isinstance : mg "isinstance" = none) (z_len : mg "len" = none) :
    Cal P w K mg base "_law_is_frac" 2 ["thing"] (runB 1 (m__law_is_frac f__law_is_int f__law_gcd)) :=
  cal_mk (k := 1) F sc__law_is_frac gx (fun _ _ _ _ _ _ us hl => match us, hl with | [_], _ => rfl) fun cdv A outer s H E hr tk hp =>
    (sx_cons (sx_if (Ew.et (ew_or (et_not (et_val (ex_callB c_isi (by rfl) z_isinstance bt_isinstance (ea_cons (xv 0) (ea_cons (ex_bltn (by rfl) z_tuple bt_tuple (by rfl) (fun _ _ => .ty _)) ea_nil))))) (ew_or1 (et_cmp (m_ne hr.units) (ex_callB c_len (by rfl) z_len bt_len (ea_cons (xv 0) ea_nil)) ex_int (nomark _))))) (sx_one (sx_ret ex_bl)) sx_nil)
    (sx_cons (sx_if (Ew.et (ew_or (et_not (et_val (ex_c1 c__law_is_int tk hr (by decide) (ea_cons (ex_ix m_ix (xv 0) ex_int) ea_nil)))) (ew_or1 (et_not (et_val (ex_c1 c__law_is_int tk hr (by decide) (ea_cons (ex_ix m_ix (xv 0) ex_int) ea_nil))))))) (sx_one (sx_ret ex_bl)) sx_nil)
    (sx_one (sx_ret (ex_and (ex_cmp m_ge (ex_ix m_ix (xv 0) ex_int) ex_int (nomark _)) (ex_one (ex_cmp (m_eq hr.units) (ex_c1 c__law_gcd tk hr (by decide) (ea_cons (ex_ix m_ix (xv 0) ex_int) (ea_cons (ex_ix m_ix (xv 0) ex_int) ea_nil))) ex_int (nomark _))))))))
def N__law_is_ratio : List PySem.Str := ["thing"]
theorem sc__law_is_ratio : FnScope N__law_is_ratio ["thing"] (defScope s__law_is_ratio) := ⟨rfl, rfl, rfl, by decide +kernel, rfl, by decide +kernel, by decide +kernel⟩
def m__law_is_ratio (f__law_is_frac : FM) : SM := (sRet (eAnd (eCall 1 f__law_is_frac (aCons (eVar 0) aNil)) (eBin oGe (eBin oIx (eVar 0) (eC (.int 0))) (eC (.int 0)))))
theorem ok__law_is_ratio {P : Program} {w : World} {K : PySem.W.Frag} {mg : PySem.Str → Option Value} {base : Heap} {f : Addr} {fd : FuncData} {f__law_is_frac : FM} (F : FnP K "_law_is_ratio" s__law_is_ratio f fd) (gx : mg "_law_is_ratio" = some (.ref f)) (c__law_is_frac : Cal P w K mg base "_law_is_frac" 2 ["thing"] f__law_is_frac) :
    Cal P w K mg base "_law_is_ratio" 3 ["thing"] (runB 1 (m__law_is_ratio f__law_is_frac)) :=
  cal_mk (k := 2) F sc__law_is_ratio gx (fun _ _ _ _ _ _ us hl => match us, hl with | [_], _ => rfl) fun cdv A outer s H E hr tk hp =>
    (sx_one (sx_ret (ex_and (ex_c1 c__law_is_frac tk hr (by decide) (ea_cons (xv 0) ea_nil)) (ex_one (ex_cmp m_ge (ex_ix m_ix (xv 0) ex_int) ex_int (nomark _))))))
def N__law_is_ratios : List PySem.Str := ["row", "part"]
theorem sc__law_is_ratios : FnScope N__law_is_ratios ["row"] (defScope s__law_is_ratios) := ⟨rfl, rfl, rfl, by decide +kernel, rfl, by decide +kernel, by decide +kernel⟩
def m__law_is_ratios (f__law_is_ratio : FM) : SM := (sRet (eAnd (eCB fIsi (aCons (eVar 0) (aCons (eC (.ty "tuple")) aNil))) (eCS gAllB (lComp [1] (iEx (eVar 0)) (gN 1) tYes (eCall 1 f__law_is_ratio (aCons (eVar 1) aNil))))))
theorem ok__law_is_ratios {P : Program} {w : World} {K : PySem.W.Frag} {mg : PySem.Str → Option Value} {base : Heap} {f : Addr} {fd : FuncData} {f__law_is_ratio : FM} (F : FnP K "_law_is_ratios" s__law_is_ratios f fd) (gx : mg "_law_is_ratios" = some (.ref f)) (c__law_is_ratio : Cal P w K mg base "_law_is_ratio" 3 ["thing"] f__law_is_ratio) (z_tuple : mg "tuple" = none) (z_isinstance : mg "isinstance" = none) (z_all : mg "all" = none) :
    Cal P w K mg base "_law_is_ratios" 4 ["row"] (runB 2 (m__law_is_ratios f__law_is_ratio)) :=
  cal_mk (k := 3) F sc__law_is_ratios gx (fun _ _ _ _ _ _ us hl => match us, hl with | [_], _ => rfl) fun cdv A outer s H E hr tk hp =>
    (sx_one (sx_ret (ex_and (ex_callB c_isi (by rfl) z_isinstance bt_isinstance (ea_cons (xv 0) (ea_cons (ex_bltn (by rfl) z_tuple bt_tuple (by rfl) (fun _ _ => .ty _)) ea_nil))) (ex_one (ex_callBl (s_all (by rfl)) (by rfl) z_all bt_all (esl_el (el_comp (own := [(("part" : PySem.Str), 1)]) (by rfl) sc__law_is_ratios.nd (ei_ex (xv 0)) (blkOk_by (N := N__law_is_ratios) (sc := (defScope s__law_is_ratios)) (by decide +kernel)) (fun _ _ _ _ _ => (eg_name sc__law_is_ratios.nd)) (fun _ _ _ _ _ => ets_nil) (fun _ _ _ _ _ => (ex_c1 c__law_is_ratio tk0 hr (by decide) (ea_cons (xv 1) ea_nil))))))))))
def N__law_is_shares : List PySem.Str := ["row"]
theorem sc__law_is_shares : FnScope N__law_is_shares ["row"] (defScope s__law_is_shares) := ⟨rfl, rfl, rfl, by decide +kernel, rfl, by decide +kernel, by decide +kernel⟩
def m__law_is_shares (f__law_is_ratios : FM) (f__law_total : FM) : SM := (sRet (eAnd (eCall 1 f__law_is_ratios (aCons (eVar 0) aNil)) (eAnd (eBin oGt (eCB fLen (aCons (eVar 0) aNil)) (eC (.int 0))) (eBin oEq (eCall 1 f__law_total (aCons (eVar 0) aNil)) (eTup (aCons (eC (.int 1)) (aCons (eC (.int 1)) aNil)))))))
theorem ok__law_is_shares {P : Program} {w : World} {K : PySem.W.Frag} {mg : PySem.Str → Option Value} {base : Heap} {f : Addr} {fd : FuncData} {f__law_is_ratios f__law_total : FM} (F : FnP K "_law_is_shares" s__law_is_shares f fd) (gx : mg "_law_is_shares" = some (.ref f)) (c__law_is_ratios : Cal P w K mg base "_law_is_ratios" 4 ["row"] f__law_is_ratios) (c__law_total : Cal P w K mg base "_law_total" 4 ["row"] f__law_total) (z_len : mg "len" = none) :
    Cal P w K mg base "_law_is_shares" 5 ["row"] (runB 1 (m__law_is_shares f__law_is_ratios f__law_total)) :=
  cal_mk (k := 4) F sc__law_is_shares gx (fun _ _ _ _ _ _ us hl => match us, hl with | [_], _ => rfl) fun cdv A outer s H E hr tk hp =>
    (sx_one (sx_ret (ex_and (ex_c1 c__law_is_ratios tk hr (by decide) (ea_cons (xv 0) ea_nil)) (ex_and (ex_cmp m_gt (ex_callB c_len (by rfl) z_len bt_len (ea_cons (xv 0) ea_nil)) ex_int (nomark _)) (ex_one (ex_cmp (m_eq hr.units) (ex_c1 c__law_total tk hr (by decide) (ea_cons (xv 0) ea_nil)) (ex_tup (ea_cons ex_int (ea_cons ex_int ea_nil))) (nomark _)))))))
def N__law_row : List PySem.Str := ["d", "many", "most", "zeros", "found", "k"]
theorem sc__law_row : FnScope N__law_row ["d", "many", "most", "zeros"] (defScope s__law_row) := ⟨rfl, rfl, rfl, by decide +kernel, rfl, by decide +kernel, by decide +kernel⟩
def m__law_row (f__law_draw : FM) : SM := (sSeq (sSet 4 (eEl (lComp [5] (iRg1 (eVar 1)) (gN 5) tYes (eBin oAdd (eC (.int 1)) (eCall 2 f__law_draw (aCons (eVar 0) (aCons (eVar 2) aNil)))))))
    (sSeq (sIf (tVal (eVar 3)) (sFor (iRg1 (eVar 1)) (gN 5) (sIf (tBl (eBin oEq (eCall 2 f__law_draw (aCons (eVar 0) (aCons (eC (.int 4)) aNil))) (eC (.int 1)))) (sSub (eVar 4) (eVar 5) (eC (.int 0))) sNil)) sNil)
    (sSeq (sIf (tBl (eBin oEq (eCS gSum (sEx (eVar 4))) (eC (.int 0)))) (sSub (eVar 4) (eCall 2 f__law_draw (aCons (eVar 0) (aCons (eVar 1) aNil))) (eC (.int 1))) sNil)
    (sRet (eCB fTuple (aCons (eVar 4) aNil))))))
theorem ok__law_row {P : Program} {w : World} {K : PySem.W.Frag} {mg : PySem.Str → Option Value} {base : Heap} {f : Addr} {fd : FuncData} {f__law_draw : FM} (F : FnP K "_law_row" s__law_row f fd) (gx : mg "_law_row" = some (.ref f)) (c__law_draw : Cal P w K mg base "_law_draw" 1 ["d", "many"] f__law_draw) (z_range : mg "range" = none) (z_sum : mg "sum" = none) (z_tuple : mg "tuple" = none) :
    Cal P w K mg base "_law_row" 2 ["d", "many", "most", "zeros"] (runB 6 (m__law_row f__law_draw)) :=
  cal_mk (k := 1) F sc__law_row gx (fun _ _ _ _ _ _ us hl => match us, hl with | [_, _, _, _], _ => rfl) fun cdv A outer s H E hr tk hp =>
    (sx_cons (sx_setLc (own := [(("k" : PySem.Str), 5)]) (by rfl) sc__law_row.nd (ei_range1 (by rfl) z_range (xv 1)) (blkOk_by (N := N__law_row) (sc := (defScope s__law_row)) (by decide +kernel)) (fun _ _ _ _ _ => (eg_name sc__law_row.nd)) (fun _ _ _ _ _ => ets_nil) (fun _ _ _ _ _ => (ex_op m_add ex_int (ex_c1 c__law_draw tk0 hr (by decide) (ea_cons (xv 0) (ea_cons (xv 2) ea_nil))))))
    (sx_cons (sx_if (et_val (xv 3)) (sx_one (sx_for hp (by rfl) (ei_range1 (by rfl) z_range (xv 1)) (eg_name sc__law_row.nd) (sx_one (sx_if (et_cmp (m_eq hr.units) (ex_c1 c__law_draw tk hr (by decide) (ea_cons (xv 0) (ea_cons ex_int ea_nil))) ex_int (nomark _)) (sx_one (sx_sub ex_int (xv 4) (xv 5))) sx_nil)))) sx_nil)
    (sx_cons (sx_if (et_cmp (m_eq hr.units) (ex_callBs (s_sum (by rfl)) (by rfl) z_sum bt_sum (es_ex (xv 4))) ex_int (nomark _)) (sx_one (sx_sub ex_int (xv 4) (ex_c1 c__law_draw tk hr (by decide) (ea_cons (xv 0) (ea_cons (xv 1) ea_nil))))) sx_nil)
    (sx_one (sx_ret (ex_callT c_tuple (by rfl) z_tuple bt_tuple (ea_cons (xv 4) ea_nil)))))))
def N__law_chances : List PySem.Str := ["weights", "weight"]
theorem sc__law_chances : FnScope N__law_chances ["weights"] (defScope s__law_chances) := ⟨rfl, rfl, rfl, by decide +kernel, rfl, by decide +kernel, by decide +kernel⟩
def m__law_chances (f__law_f : FM) : SM := (sRet (eCS gTuple (lComp [1] (iEx (eVar 0)) (gN 1) tYes (eCall 2 f__law_f (aCons (eVar 1) (aCons (eCS gSum (sEx (eVar 0))) aNil))))))
theorem ok__law_chances {P : Program} {w : World} {K : PySem.W.Frag} {mg : PySem.Str → Option Value} {base : Heap} {f : Addr} {fd : FuncData} {f__law_f : FM} (F : FnP K "_law_chances" s__law_chances f fd) (gx : mg "_law_chances" = some (.ref f)) (c__law_f : Cal P w K mg base "_law_f" 2 ["n", "d"] f__law_f) (z_sum : mg "sum" = none) (z_tuple : mg "tuple" = none) :
    Cal P w K mg base "_law_chances" 3 ["weights"] (runB 2 (m__law_chances f__law_f)) :=
  cal_mk (k := 2) F sc__law_chances gx (fun _ _ _ _ _ _ us hl => match us, hl with | [_], _ => rfl) fun cdv A outer s H E hr tk hp =>
    (sx_one (sx_ret (ex_callTs s_tuple (by rfl) z_tuple bt_tuple (es_el (el_comp (own := [(("weight" : PySem.Str), 1)]) (by rfl) sc__law_chances.nd (ei_ex (xv 0)) (blkOk_by (N := N__law_chances) (sc := (defScope s__law_chances)) (by decide +kernel)) (fun _ _ _ _ _ => (eg_name sc__law_chances.nd)) (fun _ _ _ _ _ => ets_nil) (fun _ _ _ _ _ => (ex_c1 c__law_f tk0 hr (by decide) (ea_cons (xv 1) (ea_cons (ex_callBs (s_sum (by rfl)) (by rfl) z_sum bt_sum (es_ex (xv 0))) ea_nil)))))))))
def N__law_shares : List PySem.Str := ["d", "many", "most", "zeros"]
theorem sc__law_shares : FnScope N__law_shares ["d", "many", "most", "zeros"] (defScope s__law_shares) := ⟨rfl, rfl, rfl, by decide +kernel, rfl, by decide +kernel, by decide +kernel⟩
def m__law_shares (f__law_chances : FM) (f__law_row : FM) : SM := (sRet (eCall 1 f__law_chances (aCons (eCall 4 f__law_row (aCons (eVar 0) (aCons (eVar 1) (aCons (eVar 2) (aCons (eVar 3) aNil))))) aNil)))
theorem ok__law_shares {P : Program} {w : World} {K : PySem.W.Frag} {mg : PySem.Str → Option Value} {base : Heap} {f : Addr} {fd : FuncData} {f__law_chances f__law_row : FM} (F : FnP K "_law_shares" s__law_shares f fd) (gx : mg "_law_shares" = some (.ref f)) (c__law_chances : Cal P w K mg base "_law_chances" 3 ["weights"] f__law_chances) (c__law_row : Cal P w K mg base "_law_row" 2 ["d", "many", "most", "zeros"] f__law_row) :
    Cal P w K mg base "_law_shares" 4 ["d", "many", "most", "zeros"] (runB 4 (m__law_shares f__law_chances f__law_row)) :=
  cal_mk (k := 3) F sc__law_shares gx (fun _ _ _ _ _ _ us hl => match us, hl with | [_, _, _, _], _ => rfl) fun cdv A outer s H E hr tk hp =>
    (sx_one (sx_ret (ex_c1 c__law_chances tk hr (by decide) (ea_cons (ex_c1 c__law_row tk hr (by decide) (ea_cons (xv 0) (ea_cons (xv 1) (ea_cons (xv 2) (ea_cons (xv 3) ea_nil))))) ea_nil))))
def N__law_view : List PySem.Str := ["d", "states", "answers", "zeros", "s"]
theorem sc__law_view : FnScope N__law_view ["d", "states", "answers", "zeros"] (defScope s__law_view) := ⟨rfl, rfl, rfl, by decide +kernel, rfl, by decide +kernel, by decide +kernel⟩
def m__law_view (f__law_shares : FM) : SM := (sRet (eCS gTuple (lComp [4] (iRg1 (eVar 1)) (gN 4) tYes (eCall 4 f__law_shares (aCons (eVar 0) (aCons (eVar 2) (aCons (eC (.int 4)) (aCons (eVar 3) aNil))))))))
theorem ok__law_view {P : Program} {w : World} {K : PySem.W.Frag} {mg : PySem.Str → Option Value} {base : Heap} {f : Addr} {fd : FuncData} {f__law_shares : FM} (F : FnP K "_law_view" s__law_view f fd) (gx : mg "_law_view" = some (.ref f)) (c__law_shares : Cal P w K mg base "_law_shares" 4 ["d", "many", "most", "zeros"] f__law_shares) (z_range : mg "range" = none) (z_tuple : mg "tuple" = none) :
    Cal P w K mg base "_law_view" 5 ["d", "states", "answers", "zeros"] (runB 5 (m__law_view f__law_shares)) :=
  cal_mk (k := 4) F sc__law_view gx (fun _ _ _ _ _ _ us hl => match us, hl with | [_, _, _, _], _ => rfl) fun cdv A outer s H E hr tk hp =>
    (sx_one (sx_ret (ex_callTs s_tuple (by rfl) z_tuple bt_tuple (es_el (el_comp (own := [(("s" : PySem.Str), 4)]) (by rfl) sc__law_view.nd (ei_range1 (by rfl) z_range (xv 1)) (blkOk_by (N := N__law_view) (sc := (defScope s__law_view)) (by decide +kernel)) (fun _ _ _ _ _ => (eg_name sc__law_view.nd)) (fun _ _ _ _ _ => ets_nil) (fun _ _ _ _ _ => (ex_c1 c__law_shares tk0 hr (by decide) (ea_cons (xv 0) (ea_cons (xv 2) (ea_cons ex_int (ea_cons (xv 3) ea_nil)))))))))))
def N__law_is_view : List PySem.Str := ["view", "states", "answers", "row"]
theorem sc__law_is_view : FnScope N__law_is_view ["view", "states", "answers"] (defScope s__law_is_view) := ⟨rfl, rfl, rfl, by decide +kernel, rfl, by decide +kernel, by decide +kernel⟩
def m__law_is_view (f__law_is_rows : FM) (f__law_is_shares : FM) : SM := (sSeq (sIf (tOr (HM.tNot (tVal (eCall 2 f__law_is_rows (aCons (eVar 0) (aCons (eVar 2) aNil))))) (tBl (eBin oNe (eCB fLen (aCons (eVar 0) aNil)) (eVar 1)))) (sRet (eC (.bl false))) sNil)
    (sRet (eCS gAllB (lComp [3] (iEx (eVar 0)) (gN 3) tYes (eCall 1 f__law_is_shares (aCons (eVar 3) aNil))))))
theorem ok__law_is_view {P : Program} {w : World} {K : PySem.W.Frag} {mg : PySem.Str → Option Value} {base : Heap} {f : Addr} {fd : FuncData} {f__law_is_rows f__law_is_shares : FM} (F : FnP K "_law_is_view" s__law_is_view f fd) (gx : mg "_law_is_view" = some (.ref f)) (c__law_is_rows : Cal P w K mg base "_law_is_rows" 1 ["rows", "size"] f__law_is_rows) (c__law_is_shares : Cal P w K mg base "_law_is_shares" 5 ["row"] f__law_is_shares) (z_len : mg "len" = none) (z_all : mg "all" = none) :
    Cal P w K mg base "_law_is_view" 6 ["view", "states", "answers"] (runB 4 (m__law_is_view f__law_is_rows f__law_is_shares)) :=
  cal_mk (k := 5) F sc__law_is_view gx (fun _ _ _ _ _ _ us hl => match us, hl with | [_, _, _], _ => rfl) fun cdv A outer s H E hr tk hp =>
    (sx_cons (sx_if (Ew.et (ew_or (et_not (et_val (ex_c1 c__law_is_rows tk hr (by decide) (ea_cons (xv 0) (ea_cons (xv 2) ea_nil))))) (ew_or1 (et_cmp (m_ne hr.units) (ex_callB c_len (by rfl) z_len bt_len (ea_cons (xv 0) ea_nil)) (xv 1) (nomark _))))) (sx_one (sx_ret ex_bl)) sx_nil)
    (sx_one (sx_ret (ex_callBl (s_all (by rfl)) (by rfl) z_all bt_all (esl_el (el_comp (own := [(("row" : PySem.Str), 3)]) (by rfl) sc__law_is_view.nd (ei_ex (xv 0)) (blkOk_by (N := N__law_is_view) (sc := (defScope s__law_is_view)) (by decide +kernel)) (fun _ _ _ _ _ => (eg_name sc__law_is_view.nd)) (fun _ _ _ _ _ => ets_nil) (fun _ _ _ _ _ => (ex_c1 c__law_is_shares tk0 hr (by decide) (ea_cons (xv 3) ea_nil)))))))))
def N__law_through : List PySem.Str := ["view", "mill", "found", "row", "line", "part", "a"]
theorem sc__law_through : FnScope N__law_through ["view", "mill"] (defScope s__law_through) := ⟨rfl, rfl, rfl, by decide +kernel, rfl, by decide +kernel, by decide +kernel⟩
def m__law_through (f__law_total : FM) (f__law_times : FM) : SM := (sSeq (sSet 2 (eLst aNil))
    (sSeq (sFor (iEx (eVar 0)) (gN 3) (sSeq (sSet 4 (eLst aNil))
    (sSeq (sFor (iRg1 (eCB fLen (aCons (eBin oIx (eVar 1) (eC (.int 0))) aNil))) (gN 5) (sExpr (eM "list" mAppend (eVar 4) (aCons (eCall 1 f__law_total (aCons (eEl (lComp [6] (iRg1 (eCB fLen (aCons (eVar 3) aNil))) (gN 6) tYes (eCall 2 f__law_times (aCons (eBin oIx (eVar 3) (eVar 6)) (aCons (eBin oIx (eBin oIx (eVar 1) (eVar 6)) (eVar 5)) aNil))))) aNil)) aNil))))
    (sExpr (eM "list" mAppend (eVar 2) (aCons (eCB fTuple (aCons (eVar 4) aNil)) aNil))))))
    (sRet (eCB fTuple (aCons (eVar 2) aNil)))))
theorem ok__law_through {P : Program} {w : World} {K : PySem.W.Frag} {mg : PySem.Str → Option Value} {base : Heap} {f : Addr} {fd : FuncData} {f__law_total f__law_times : FM} (F : FnP K "_law_through" s__law_through f fd) (gx : mg "_law_through" = some (.ref f)) (c__law_total : Cal P w K mg base "_law_total" 4 ["row"] f__law_total) (c__law_times : Cal P w K mg base "_law_times" 3 ["x", "y"] f__law_times) (z_range : mg "range" = none) (z_len : mg "len" = none) (z_tuple : mg "tuple" = none) :
    Cal P w K mg base "_law_through" 5 ["view", "mill"] (runB 7 (m__law_through f__law_total f__law_times)) :=
  cal_mk (k := 4) F sc__law_through gx (fun _ _ _ _ _ _ us hl => match us, hl with | [_, _], _ => rfl) fun cdv A outer s H E hr tk hp =>
    (sx_cons (sx_set sc__law_through.nd (ex_lst ea_nil))
    (sx_cons (sx_for hp (by rfl) (ei_ex (xv 0)) (eg_name sc__law_through.nd) (sx_cons (sx_set sc__law_through.nd (ex_lst ea_nil))
    (sx_cons (sx_for hp (by rfl) (ei_range1 (by rfl) z_range (ex_callB c_len (by rfl) z_len bt_len (ea_cons (ex_ix m_ix (xv 1) ex_int) ea_nil))) (eg_name sc__law_through.nd) (sx_one (sx_expr (ex_m PySem.F.plainAttrs_list PySem.F.slot_list_append PySem.F.type_list_append me_append (xv 4) (ea_cons (ex_c1 c__law_total tk hr (by decide) (ea_cons (ex_el (el_comp (own := [(("a" : PySem.Str), 6)]) (by rfl) sc__law_through.nd (ei_range1 (by rfl) z_range (ex_callB c_len (by rfl) z_len bt_len (ea_cons (xv 3) ea_nil))) (blkOk_by (N := N__law_through) (sc := (defScope s__law_through)) (by decide +kernel)) (fun _ _ _ _ _ => (eg_name sc__law_through.nd)) (fun _ _ _ _ _ => ets_nil) (fun _ _ _ _ _ => (ex_c1 c__law_times tk0 hr (by decide) (ea_cons (ex_ix m_ix (xv 3) (xv 6)) (ea_cons (ex_ix m_ix (ex_ix m_ix (xv 1) (xv 6)) (xv 5)) ea_nil)))))) ea_nil)) ea_nil)))))
    (sx_one (sx_expr (ex_m PySem.F.plainAttrs_list PySem.F.slot_list_append PySem.F.type_list_append me_append (xv 2) (ea_cons (ex_callT c_tuple (by rfl) z_tuple bt_tuple (ea_cons (xv 4) ea_nil)) ea_nil)))))))
    (sx_one (sx_ret (ex_callT c_tuple (by rfl) z_tuple bt_tuple (ea_cons (xv 2) ea_nil))))))
def N__law_act_worth : List PySem.Str := ["view", "answer", "act", "s"]
theorem sc__law_act_worth : FnScope N__law_act_worth ["view", "answer", "act"] (defScope s__law_act_worth) := ⟨rfl, rfl, rfl, by decide +kernel, rfl, by decide +kernel, by decide +kernel⟩
def m__law_act_worth (f__law_total : FM) (f__law_times : FM) : SM := (sRet (eCall 1 f__law_total (aCons (eEl (lComp [3] (iRg1 (eCB fLen (aCons (eVar 0) aNil))) (gN 3) tYes (eCall 2 f__law_times (aCons (eBin oIx (eBin oIx (eVar 0) (eVar 3)) (eVar 1)) (aCons (eBin oIx (eVar 2) (eVar 3)) aNil))))) aNil)))
theorem ok__law_act_worth {P : Program} {w : World} {K : PySem.W.Frag} {mg : PySem.Str → Option Value} {base : Heap} {f : Addr} {fd : FuncData} {f__law_total f__law_times : FM} (F : FnP K "_law_act_worth" s__law_act_worth f fd) (gx : mg "_law_act_worth" = some (.ref f)) (c__law_total : Cal P w K mg base "_law_total" 4 ["row"] f__law_total) (c__law_times : Cal P w K mg base "_law_times" 3 ["x", "y"] f__law_times) (z_range : mg "range" = none) (z_len : mg "len" = none) :
    Cal P w K mg base "_law_act_worth" 5 ["view", "answer", "act"] (runB 4 (m__law_act_worth f__law_total f__law_times)) :=
  cal_mk (k := 4) F sc__law_act_worth gx (fun _ _ _ _ _ _ us hl => match us, hl with | [_, _, _], _ => rfl) fun cdv A outer s H E hr tk hp =>
    (sx_one (sx_ret (ex_c1 c__law_total tk hr (by decide) (ea_cons (ex_el (el_comp (own := [(("s" : PySem.Str), 3)]) (by rfl) sc__law_act_worth.nd (ei_range1 (by rfl) z_range (ex_callB c_len (by rfl) z_len bt_len (ea_cons (xv 0) ea_nil))) (blkOk_by (N := N__law_act_worth) (sc := (defScope s__law_act_worth)) (by decide +kernel)) (fun _ _ _ _ _ => (eg_name sc__law_act_worth.nd)) (fun _ _ _ _ _ => ets_nil) (fun _ _ _ _ _ => (ex_c1 c__law_times tk0 hr (by decide) (ea_cons (ex_ix m_ix (ex_ix m_ix (xv 0) (xv 3)) (xv 1)) (ea_cons (ex_ix m_ix (xv 2) (xv 3)) ea_nil)))))) ea_nil))))
def N__law_worth : List PySem.Str := ["view", "stakes", "found", "answer", "act"]
theorem sc__law_worth : FnScope N__law_worth ["view", "stakes"] (defScope s__law_worth) := ⟨rfl, rfl, rfl, by decide +kernel, rfl, by decide +kernel, by decide +kernel⟩
def m__law_worth (f__law_plus : FM) (f__law_great : FM) (f__law_act_worth : FM) : SM := (sSeq (sSet 2 (eTup (aCons (eC (.int 0)) (aCons (eC (.int 1)) aNil))))
    (sSeq (sFor (iRg1 (eCB fLen (aCons (eBin oIx (eVar 0) (eC (.int 0))) aNil))) (gN 3) (sSet 2 (eCall 2 f__law_plus (aCons (eVar 2) (aCons (eCall 1 f__law_great (aCons (eEl (lComp [4] (iEx (eVar 1)) (gN 4) tYes (eCall 3 f__law_act_worth (aCons (eVar 0) (aCons (eVar 3) (aCons (eVar 4) aNil)))))) aNil)) aNil)))))
    (sRet (eVar 2))))
theorem ok__law_worth {P : Program} {w : World} {K : PySem.W.Frag} {mg : PySem.Str → Option Value} {base : Heap} {f : Addr} {fd : FuncData} {f__law_plus f__law_great f__law_act_worth : FM} (F : FnP K "_law_worth" s__law_worth f fd) (gx : mg "_law_worth" = some (.ref f)) (c__law_plus : Cal P w K mg base "_law_plus" 3 ["x", "y"] f__law_plus) (c__law_great : Cal P w K mg base "_law_great" 2 ["row"] f__law_great) (c__law_act_worth : Cal P w K mg base "_law_act_worth" 5 ["view", "answer", "act"] f__law_act_worth) (z_range : mg "range" = none) (z_len : mg "len" = none) :
    Cal P w K mg base "_law_worth" 6 ["view", "stakes"] (runB 5 (m__law_worth f__law_plus f__law_great f__law_act_worth)) :=
  cal_mk (k := 5) F sc__law_worth gx (fun _ _ _ _ _ _ us hl => match us, hl with | [_, _], _ => rfl) fun cdv A outer s H E hr tk hp =>
    (sx_cons (sx_set sc__law_worth.nd (ex_tup (ea_cons ex_int (ea_cons ex_int ea_nil))))
    (sx_cons (sx_for hp (by rfl) (ei_range1 (by rfl) z_range (ex_callB c_len (by rfl) z_len bt_len (ea_cons (ex_ix m_ix (xv 0) ex_int) ea_nil))) (eg_name sc__law_worth.nd) (sx_one (sx_set sc__law_worth.nd (ex_c1 c__law_plus tk hr (by decide) (ea_cons (xv 2) (ea_cons (ex_c1 c__law_great tk hr (by decide) (ea_cons (ex_el (el_comp (own := [(("act" : PySem.Str), 4)]) (by rfl) sc__law_worth.nd (ei_ex (xv 1)) (blkOk_by (N := N__law_worth) (sc := (defScope s__law_worth)) (by decide +kernel)) (fun _ _ _ _ _ => (eg_name sc__law_worth.nd)) (fun _ _ _ _ _ => ets_nil) (fun _ _ _ _ _ => (ex_c1 c__law_act_worth tk0 hr (by decide) (ea_cons (xv 0) (ea_cons (xv 3) (ea_cons (xv 4) ea_nil))))))) ea_nil)) ea_nil))))))
    (sx_one (sx_ret (xv 2)))))
def N__law_wide_view : List PySem.Str := ["d", "states", "answers", "rows", "gone", "s", "row", "big", "at", "a"]
theorem sc__law_wide_view : FnScope N__law_wide_view ["d", "states", "answers"] (defScope s__law_wide_view) := ⟨rfl, rfl, rfl, by decide +kernel, rfl, by decide +kernel, by decide +kernel⟩
def m__law_wide_view (f__law_draw : FM) (f__law_row : FM) (f__law_rare : FM) (f__law_chances : FM) : SM := (sSeq (sSet 3 (eLst aNil))
    (sSeq (sSet 4 (eCall 2 f__law_draw (aCons (eVar 0) (aCons (eBin oMul (eC (.int 3)) (eVar 2)) aNil))))
    (sSeq (sFor (iRg1 (eVar 1)) (gN 5) (sSeq (sSet 6 (eCB fList (aCons (eCall 4 f__law_row (aCons (eVar 0) (aCons (eVar 2) (aCons (eC (.int 4)) (aCons (eC (.bl true)) aNil))))) aNil)))
    (sSeq (sIf (tAnd (tBl (eBin oLt (eVar 4) (eVar 2))) (tBl (eBin oGt (eVar 2) (eC (.int 1))))) (sSeq (sSub (eVar 6) (eVar 4) (eC (.int 0)))
    (sIf (tBl (eBin oEq (eCS gSum (sEx (eVar 6))) (eC (.int 0)))) (sSub (eVar 6) (eBin oSub (eVar 4) (eC (.int 1))) (eC (.int 1))) sNil)) sNil)
    (sExpr (eM "list" mAppend (eVar 3) (aCons (eVar 6) aNil))))))
    (sSeq (sIf (tVal (eCall 2 f__law_rare (aCons (eVar 0) (aCons (eC (.int 7)) aNil)))) (sSeq (sSet 7 (eBin oAdd (eBin oPow (eC (.int 10)) (eC (.int 30))) (eCall 2 f__law_draw (aCons (eVar 0) (aCons (eBin oPow (eC (.int 10)) (eC (.int 6))) aNil)))))
    (sSeq (sSet 8 (eCall 2 f__law_draw (aCons (eVar 0) (aCons (eVar 1) aNil))))
    (sSub (eVar 3) (eVar 8) (eEl (lComp [9] (iRg1 (eVar 2)) (gN 9) tYes (eBin oMul (eBin oIx (eBin oIx (eVar 3) (eVar 8)) (eVar 9)) (eBin oAdd (eVar 7) (eBin oMul (eC (.int 7)) (eVar 9))))))))) sNil)
    (sRet (eCS gTuple (lComp [6] (iEx (eVar 3)) (gN 6) tYes (eCall 1 f__law_chances (aCons (eVar 6) aNil)))))))))
theorem ok__law_wide_view {P : Program} {w : World} {K : PySem.W.Frag} {mg : PySem.Str → Option Value} {base : Heap} {f : Addr} {fd : FuncData} {f__law_draw f__law_row f__law_rare f__law_chances : FM} (F : FnP K "_law_wide_view" s__law_wide_view f fd) (gx : mg "_law_wide_view" = some (.ref f)) (c__law_draw : Cal P w K mg base "_law_draw" 1 ["d", "many"] f__law_draw) (c__law_row : Cal P w K mg base "_law_row" 2 ["d", "many", "most", "zeros"] f__law_row) (c__law_rare : Cal P w K mg base "_law_rare" 2 ["d", "many"] f__law_rare) (c__law_chances : Cal P w K mg base "_law_chances" 3 ["weights"] f__law_chances) (z_range : mg "range" = none) (z_list : mg "list" = none) (z_sum : mg "sum" = none) (z_tuple : mg "tuple" = none) :
    Cal P w K mg base "_law_wide_view" 4 ["d", "states", "answers"] (runB 10 (m__law_wide_view f__law_draw f__law_row f__law_rare f__law_chances)) :=
  cal_mk (k := 3) F sc__law_wide_view gx (fun _ _ _ _ _ _ us hl => match us, hl with | [_, _, _], _ => rfl) fun cdv A outer s H E hr tk hp =>
    (sx_cons (sx_set sc__law_wide_view.nd (ex_lst ea_nil))
    (sx_cons (sx_set sc__law_wide_view.nd (ex_c1 c__law_draw tk hr (by decide) (ea_cons (xv 0) (ea_cons (ex_op m_mul ex_int (xv 2)) ea_nil))))
    (sx_cons (sx_for hp (by rfl) (ei_range1 (by rfl) z_range (xv 1)) (eg_name sc__law_wide_view.nd) (sx_cons (sx_set sc__law_wide_view.nd (ex_callT c_list (by rfl) z_list bt_list (ea_cons (ex_c1 c__law_row tk hr (by decide) (ea_cons (xv 0) (ea_cons (xv 2) (ea_cons ex_int (ea_cons ex_bl ea_nil))))) ea_nil)))
    (sx_cons (sx_if (Ew.et (ew_and (et_cmp m_lt (xv 4) (xv 2) (nomark _)) (ew_and1 (et_cmp m_gt (xv 2) ex_int (nomark _))))) (sx_cons (sx_sub ex_int (xv 6) (xv 4))
    (sx_one (sx_if (et_cmp (m_eq hr.units) (ex_callBs (s_sum (by rfl)) (by rfl) z_sum bt_sum (es_ex (xv 6))) ex_int (nomark _)) (sx_one (sx_sub ex_int (xv 6) (ex_op m_sub (xv 4) ex_int))) sx_nil))) sx_nil)
    (sx_one (sx_expr (ex_m PySem.F.plainAttrs_list PySem.F.slot_list_append PySem.F.type_list_append me_append (xv 3) (ea_cons (xv 6) ea_nil)))))))
    (sx_cons (sx_if (et_val (ex_c1 c__law_rare tk hr (by decide) (ea_cons (xv 0) (ea_cons ex_int ea_nil)))) (sx_cons (sx_set sc__law_wide_view.nd (ex_op m_add (ex_op m_pow ex_int ex_int) (ex_c1 c__law_draw tk hr (by decide) (ea_cons (xv 0) (ea_cons (ex_op m_pow ex_int ex_int) ea_nil)))))
    (sx_cons (sx_set sc__law_wide_view.nd (ex_c1 c__law_draw tk hr (by decide) (ea_cons (xv 0) (ea_cons (xv 1) ea_nil))))
    (sx_one (sx_sub (ex_el (el_comp (own := [(("a" : PySem.Str), 9)]) (by rfl) sc__law_wide_view.nd (ei_range1 (by rfl) z_range (xv 2)) (blkOk_by (N := N__law_wide_view) (sc := (defScope s__law_wide_view)) (by decide +kernel)) (fun _ _ _ _ _ => (eg_name sc__law_wide_view.nd)) (fun _ _ _ _ _ => ets_nil) (fun _ _ _ _ _ => (ex_op m_mul (ex_ix m_ix (ex_ix m_ix (xv 3) (xv 8)) (xv 9)) (ex_op m_add (xv 7) (ex_op m_mul ex_int (xv 9))))))) (xv 3) (xv 8))))) sx_nil)
    (sx_one (sx_ret (ex_callTs s_tuple (by rfl) z_tuple bt_tuple (es_el (el_comp (own := [(("row" : PySem.Str), 6)]) (by rfl) sc__law_wide_view.nd (ei_ex (xv 3)) (blkOk_by (N := N__law_wide_view) (sc := (defScope s__law_wide_view)) (by decide +kernel)) (fun _ _ _ _ _ => (eg_name sc__law_wide_view.nd)) (fun _ _ _ _ _ => ets_nil) (fun _ _ _ _ _ => (ex_c1 c__law_chances tk0 hr (by decide) (ea_cons (xv 6) ea_nil))))))))))))
def N__law_some_acts : List PySem.Str := ["d", "states", "style", "found", "k", "act", "s", "twin"]
theorem sc__law_some_acts : FnScope N__law_some_acts ["d", "states"] (defScope s__law_some_acts) := ⟨rfl, rfl, rfl, by decide +kernel, rfl, by decide +kernel, by decide +kernel⟩
def m__law_some_acts (f__law_draw : FM) (f__law_f : FM) (f__law_pick : FM) : SM := (sSeq (sSet 2 (eCall 2 f__law_draw (aCons (eVar 0) (aCons (eC (.int 5)) aNil))))
    (sSeq (sSet 3 (eLst aNil))
    (sSeq (sFor (iRg1 (eBin oAdd (eC (.int 1)) (eCall 2 f__law_draw (aCons (eVar 0) (aCons (eC (.int 4)) aNil))))) (gN 4) (sSeq (sSet 5 (eLst aNil))
    (sSeq (sFor (iRg1 (eVar 1)) (gN 6) (sIf (tBl (eBin oEq (eVar 2) (eC (.int 0)))) (sExpr (eM "list" mAppend (eVar 5) (aCons (eTup (aCons (eBin oSub (eCall 2 f__law_draw (aCons (eVar 0) (aCons (eC (.int 5)) aNil))) (eC (.int 2))) (aCons (eC (.int 1)) aNil))) aNil))) (sIf (tBl (eBin oEq (eVar 2) (eC (.int 1)))) (sExpr (eM "list" mAppend (eVar 5) (aCons (eCall 2 f__law_f (aCons (eBin oSub (eUn oNeg (eC (.int 1))) (eCall 2 f__law_draw (aCons (eVar 0) (aCons (eC (.int 6)) aNil)))) (aCons (eBin oAdd (eC (.int 1)) (eCall 2 f__law_draw (aCons (eVar 0) (aCons (eC (.int 4)) aNil)))) aNil))) aNil))) (sIf (tBl (eBin oEq (eVar 2) (eC (.int 2)))) (sExpr (eM "list" mAppend (eVar 5) (aCons (eCall 2 f__law_f (aCons (eBin oSub (eCall 2 f__law_draw (aCons (eVar 0) (aCons (eBin oPow (eC (.int 10)) (eC (.int 12))) aNil))) (eBin oMul (eC (.int 5)) (eBin oPow (eC (.int 10)) (eC (.int 11))))) (aCons (eBin oAdd (eC (.int 1)) (eCall 2 f__law_draw (aCons (eVar 0) (aCons (eC (.int 9)) aNil)))) aNil))) aNil))) (sExpr (eM "list" mAppend (eVar 5) (aCons (eCall 2 f__law_f (aCons (eBin oSub (eCall 2 f__law_draw (aCons (eVar 0) (aCons (eC (.int 13)) aNil))) (eC (.int 6))) (aCons (eBin oAdd (eC (.int 1)) (eCall 2 f__law_draw (aCons (eVar 0) (aCons (eC (.int 4)) aNil)))) aNil))) aNil)))))))
    (sExpr (eM "list" mAppend (eVar 3) (aCons (eCB fTuple (aCons (eVar 5) aNil)) aNil))))))
    (sSeq (sFor (iRg1 (eCall 2 f__law_draw (aCons (eVar 0) (aCons (eC (.int 3)) aNil)))) (gN 4) (sSeq (sSet 7 (eCall 2 f__law_pick (aCons (eVar 0) (aCons (eVar 3) aNil))))
    (sExpr (eM "list" mInsert (eVar 3) (aCons (eCall 2 f__law_draw (aCons (eVar 0) (aCons (eBin oAdd (eCB fLen (aCons (eVar 3) aNil)) (eC (.int 1))) aNil))) (aCons (eVar 7) aNil))))))
    (sRet (eCB fTuple (aCons (eVar 3) aNil)))))))
theorem ok__law_some_acts {P : Program} {w : World} {K : PySem.W.Frag} {mg : PySem.Str → Option Value} {base : Heap} {f : Addr} {fd : FuncData} {f__law_draw f__law_f f__law_pick : FM} (F : FnP K "_law_some_acts" s__law_some_acts f fd) (gx : mg "_law_some_acts" = some (.ref f)) (c__law_draw : Cal P w K mg base "_law_draw" 1 ["d", "many"] f__law_draw) (c__law_f : Cal P w K mg base "_law_f" 2 ["n", "d"] f__law_f) (c__law_pick : Cal P w K mg base "_law_pick" 2 ["d", "row"] f__law_pick) (z_range : mg "range" = none) (z_tuple : mg "tuple" = none) (z_len : mg "len" = none) :
    Cal P w K mg base "_law_some_acts" 3 ["d", "states"] (runB 8 (m__law_some_acts f__law_draw f__law_f f__law_pick)) :=
  cal_mk (k := 2) F sc__law_some_acts gx (fun _ _ _ _ _ _ us hl => match us, hl with | [_, _], _ => rfl) fun cdv A outer s H E hr tk hp =>
    (sx_cons (sx_set sc__law_some_acts.nd (ex_c1 c__law_draw tk hr (by decide) (ea_cons (xv 0) (ea_cons ex_int ea_nil))))
    (sx_cons (sx_set sc__law_some_acts.nd (ex_lst ea_nil))
    (sx_cons (sx_for hp (by rfl) (ei_range1 (by rfl) z_range (ex_op m_add ex_int (ex_c1 c__law_draw tk hr (by decide) (ea_cons (xv 0) (ea_cons ex_int ea_nil))))) (eg_name sc__law_some_acts.nd) (sx_cons (sx_set sc__law_some_acts.nd (ex_lst ea_nil))
    (sx_cons (sx_for hp (by rfl) (ei_range1 (by rfl) z_range (xv 1)) (eg_name sc__law_some_acts.nd) (sx_one (sx_if (et_cmp (m_eq hr.units) (xv 2) ex_int (nomark _)) (sx_one (sx_expr (ex_m PySem.F.plainAttrs_list PySem.F.slot_list_append PySem.F.type_list_append me_append (xv 5) (ea_cons (ex_tup (ea_cons (ex_op m_sub (ex_c1 c__law_draw tk hr (by decide) (ea_cons (xv 0) (ea_cons ex_int ea_nil))) ex_int) (ea_cons ex_int ea_nil))) ea_nil)))) (sx_one (sx_if (et_cmp (m_eq hr.units) (xv 2) ex_int (nomark _)) (sx_one (sx_expr (ex_m PySem.F.plainAttrs_list PySem.F.slot_list_append PySem.F.type_list_append me_append (xv 5) (ea_cons (ex_c1 c__law_f tk hr (by decide) (ea_cons (ex_op m_sub (ex_un m_neg ex_int) (ex_c1 c__law_draw tk hr (by decide) (ea_cons (xv 0) (ea_cons ex_int ea_nil)))) (ea_cons (ex_op m_add ex_int (ex_c1 c__law_draw tk hr (by decide) (ea_cons (xv 0) (ea_cons ex_int ea_nil)))) ea_nil))) ea_nil)))) (sx_one (sx_if (et_cmp (m_eq hr.units) (xv 2) ex_int (nomark _)) (sx_one (sx_expr (ex_m PySem.F.plainAttrs_list PySem.F.slot_list_append PySem.F.type_list_append me_append (xv 5) (ea_cons (ex_c1 c__law_f tk hr (by decide) (ea_cons (ex_op m_sub (ex_c1 c__law_draw tk hr (by decide) (ea_cons (xv 0) (ea_cons (ex_op m_pow ex_int ex_int) ea_nil))) (ex_op m_mul ex_int (ex_op m_pow ex_int ex_int))) (ea_cons (ex_op m_add ex_int (ex_c1 c__law_draw tk hr (by decide) (ea_cons (xv 0) (ea_cons ex_int ea_nil)))) ea_nil))) ea_nil)))) (sx_one (sx_expr (ex_m PySem.F.plainAttrs_list PySem.F.slot_list_append PySem.F.type_list_append me_append (xv 5) (ea_cons (ex_c1 c__law_f tk hr (by decide) (ea_cons (ex_op m_sub (ex_c1 c__law_draw tk hr (by decide) (ea_cons (xv 0) (ea_cons ex_int ea_nil))) ex_int) (ea_cons (ex_op m_add ex_int (ex_c1 c__law_draw tk hr (by decide) (ea_cons (xv 0) (ea_cons ex_int ea_nil)))) ea_nil))) ea_nil)))))))))))
    (sx_one (sx_expr (ex_m PySem.F.plainAttrs_list PySem.F.slot_list_append PySem.F.type_list_append me_append (xv 3) (ea_cons (ex_callT c_tuple (by rfl) z_tuple bt_tuple (ea_cons (xv 5) ea_nil)) ea_nil)))))))
    (sx_cons (sx_for hp (by rfl) (ei_range1 (by rfl) z_range (ex_c1 c__law_draw tk hr (by decide) (ea_cons (xv 0) (ea_cons ex_int ea_nil)))) (eg_name sc__law_some_acts.nd) (sx_cons (sx_set sc__law_some_acts.nd (ex_c1 c__law_pick tk hr (by decide) (ea_cons (xv 0) (ea_cons (xv 3) ea_nil))))
    (sx_one (sx_expr (ex_m PySem.F.plainAttrs_list PySem.F.slot_list_insert PySem.F.type_list_insert me_insert (xv 3) (ea_cons (ex_c1 c__law_draw tk hr (by decide) (ea_cons (xv 0) (ea_cons (ex_op m_add (ex_callB c_len (by rfl) z_len bt_len (ea_cons (xv 3) ea_nil)) ex_int) ea_nil))) (ea_cons (xv 7) ea_nil)))))))
    (sx_one (sx_ret (ex_callT c_tuple (by rfl) z_tuple bt_tuple (ea_cons (xv 3) ea_nil))))))))
def N__law_best_number : List PySem.Str := ["view", "answer", "stakes", "sums", "best", "k", "act"]
theorem sc__law_best_number : FnScope N__law_best_number ["view", "answer", "stakes"] (defScope s__law_best_number) := ⟨rfl, rfl, rfl, by decide +kernel, rfl, by decide +kernel, by decide +kernel⟩
def m__law_best_number (f__law_act_worth : FM) (f__law_less : FM) : SM := (sSeq (sSet 3 (eEl (lComp [6] (iEx (eVar 2)) (gN 6) tYes (eCall 3 f__law_act_worth (aCons (eVar 0) (aCons (eVar 1) (aCons (eVar 6) aNil)))))))
    (sSeq (sSet 4 (eC (.int 0)))
    (sSeq (sFor (iRg1 (eCB fLen (aCons (eVar 3) aNil))) (gN 5) (sIf (tVal (eCall 2 f__law_less (aCons (eBin oIx (eVar 3) (eVar 4)) (aCons (eBin oIx (eVar 3) (eVar 5)) aNil)))) (sSet 4 (eVar 5)) sNil))
    (sRet (eVar 4)))))
theorem ok__law_best_number {P : Program} {w : World} {K : PySem.W.Frag} {mg : PySem.Str → Option Value} {base : Heap} {f : Addr} {fd : FuncData} {f__law_act_worth f__law_less : FM} (F : FnP K "_law_best_number" s__law_best_number f fd) (gx : mg "_law_best_number" = some (.ref f)) (c__law_act_worth : Cal P w K mg base "_law_act_worth" 5 ["view", "answer", "act"] f__law_act_worth) (c__law_less : Cal P w K mg base "_law_less" 1 ["x", "y"] f__law_less) (z_range : mg "range" = none) (z_len : mg "len" = none) :
    Cal P w K mg base "_law_best_number" 6 ["view", "answer", "stakes"] (runB 7 (m__law_best_number f__law_act_worth f__law_less)) :=
  cal_mk (k := 5) F sc__law_best_number gx (fun _ _ _ _ _ _ us hl => match us, hl with | [_, _, _], _ => rfl) fun cdv A outer s H E hr tk hp =>
    (sx_cons (sx_setLc (own := [(("act" : PySem.Str), 6)]) (by rfl) sc__law_best_number.nd (ei_ex (xv 2)) (blkOk_by (N := N__law_best_number) (sc := (defScope s__law_best_number)) (by decide +kernel)) (fun _ _ _ _ _ => (eg_name sc__law_best_number.nd)) (fun _ _ _ _ _ => ets_nil) (fun _ _ _ _ _ => (ex_c1 c__law_act_worth tk0 hr (by decide) (ea_cons (xv 0) (ea_cons (xv 1) (ea_cons (xv 6) ea_nil))))))
    (sx_cons (sx_set sc__law_best_number.nd ex_int)
    (sx_cons (sx_for hp (by rfl) (ei_range1 (by rfl) z_range (ex_callB c_len (by rfl) z_len bt_len (ea_cons (xv 3) ea_nil))) (eg_name sc__law_best_number.nd) (sx_one (sx_if (et_val (ex_c1 c__law_less tk hr (by decide) (ea_cons (ex_ix m_ix (xv 3) (xv 4)) (ea_cons (ex_ix m_ix (xv 3) (xv 5)) ea_nil)))) (sx_one (sx_set sc__law_best_number.nd (xv 5))) sx_nil)))
    (sx_one (sx_ret (xv 4))))))
def N__law_worth_right : List PySem.Str := ["view", "stakes", "worth", "acts", "due", "answer"]
theorem sc__law_worth_right : FnScope N__law_worth_right ["view", "stakes"] (defScope s__law_worth_right) := ⟨rfl, rfl, rfl, by decide +kernel, rfl, by decide +kernel, by decide +kernel⟩
def m__law_worth_right (f_worth_of : FM) (f__law_is_frac : FM) (f__law_worth : FM) (f_best_acts : FM) (f__law_best_number : FM) (f__law_is_ints : FM) : SM := (sSeq (sSet 2 (eCall 2 f_worth_of (aCons (eVar 0) (aCons (eVar 1) aNil))))
    (sSeq (sIf (tOr (HM.tNot (tVal (eCall 1 f__law_is_frac (aCons (eVar 2) aNil)))) (tBl (eBin oNe (eVar 2) (eCall 2 f__law_worth (aCons (eVar 0) (aCons (eVar 1) aNil)))))) (sRet (eC (.bl false))) sNil)
    (sSeq (sSet 3 (eCall 2 f_best_acts (aCons (eVar 0) (aCons (eVar 1) aNil))))
    (sSeq (sSet 4 (eCS gTuple (lComp [5] (iRg1 (eCB fLen (aCons (eBin oIx (eVar 0) (eC (.int 0))) aNil))) (gN 5) tYes (eCall 3 f__law_best_number (aCons (eVar 0) (aCons (eVar 5) (aCons (eVar 1) aNil)))))))
    (sRet (eAnd (eCall 1 f__law_is_ints (aCons (eVar 3) aNil)) (eBin oEq (eVar 3) (eVar 4))))))))
theorem ok__law_worth_right {P : Program} {w : World} {K : PySem.W.Frag} {mg : PySem.Str → Option Value} {base : Heap} {f : Addr} {fd : FuncData} {f_worth_of f__law_is_frac f__law_worth f_best_acts f__law_best_number f__law_is_ints : FM} (F : FnP K "_law_worth_right" s__law_worth_right f fd) (gx : mg "_law_worth_right" = some (.ref f)) (c_worth_of : Cal P w K mg base "worth_of" 6 ["view", "stakes"] f_worth_of) (c__law_is_frac : Cal P w K mg base "_law_is_frac" 2 ["thing"] f__law_is_frac) (c__law_worth : Cal P w K mg base "_law_worth" 6 ["view", "stakes"] f__law_worth) (c_best_acts : Cal P w K mg base "best_acts" 6 ["view", "stakes"] f_best_acts) (c__law_best_number : Cal P w K mg base "_law_best_number" 6 ["view", "answer", "stakes"] f__law_best_number) (c__law_is_ints : Cal P w K mg base "_law_is_ints" 2 ["row"] f__law_is_ints) (z_range : mg "range" = none) (z_len : mg "len" = none) (z_tuple : mg "tuple" = none) :
    Cal P w K mg base "_law_worth_right" 7 ["view", "stakes"] (runB 6 (m__law_worth_right f_worth_of f__law_is_frac f__law_worth f_best_acts f__law_best_number f__law_is_ints)) :=
  cal_mk (k := 6) F sc__law_worth_right gx (fun _ _ _ _ _ _ us hl => match us, hl with | [_, _], _ => rfl) fun cdv A outer s H E hr tk hp =>
    (sx_cons (sx_set sc__law_worth_right.nd (ex_c1 c_worth_of tk hr (by decide) (ea_cons (xv 0) (ea_cons (xv 1) ea_nil))))
    (sx_cons (sx_if (Ew.et (ew_or (et_not (et_val (ex_c1 c__law_is_frac tk hr (by decide) (ea_cons (xv 2) ea_nil)))) (ew_or1 (et_cmp (m_ne hr.units) (xv 2) (ex_c1 c__law_worth tk hr (by decide) (ea_cons (xv 0) (ea_cons (xv 1) ea_nil))) (nomark _))))) (sx_one (sx_ret ex_bl)) sx_nil)
    (sx_cons (sx_set sc__law_worth_right.nd (ex_c1 c_best_acts tk hr (by decide) (ea_cons (xv 0) (ea_cons (xv 1) ea_nil))))
    (sx_cons (sx_set sc__law_worth_right.nd (ex_callTs s_tuple (by rfl) z_tuple bt_tuple (es_el (el_comp (own := [(("answer" : PySem.Str), 5)]) (by rfl) sc__law_worth_right.nd (ei_range1 (by rfl) z_range (ex_callB c_len (by rfl) z_len bt_len (ea_cons (ex_ix m_ix (xv 0) ex_int) ea_nil))) (blkOk_by (N := N__law_worth_right) (sc := (defScope s__law_worth_right)) (by decide +kernel)) (fun _ _ _ _ _ => (eg_name sc__law_worth_right.nd)) (fun _ _ _ _ _ => ets_nil) (fun _ _ _ _ _ => (ex_c1 c__law_best_number tk0 hr (by decide) (ea_cons (xv 0) (ea_cons (xv 5) (ea_cons (xv 1) ea_nil)))))))))
    (sx_one (sx_ret (ex_and (ex_c1 c__law_is_ints tk hr (by decide) (ea_cons (xv 3) ea_nil)) (ex_one (ex_cmp (m_eq hr.units) (xv 3) (xv 4) (nomark _))))))))))
def N__law_through_right : List PySem.Str := ["view", "mill", "got"]
theorem sc__law_through_right : FnScope N__law_through_right ["view", "mill"] (defScope s__law_through_right) := ⟨rfl, rfl, rfl, by decide +kernel, rfl, by decide +kernel, by decide +kernel⟩
def m__law_through_right (f_through : FM) (f__law_is_view : FM) (f__law_through : FM) : SM := (sSeq (sSet 2 (eCall 2 f_through (aCons (eVar 0) (aCons (eVar 1) aNil))))
    (sRet (eAnd (eCall 3 f__law_is_view (aCons (eVar 2) (aCons (eCB fLen (aCons (eVar 0) aNil)) (aCons (eCB fLen (aCons (eBin oIx (eVar 1) (eC (.int 0))) aNil)) aNil)))) (eBin oEq (eVar 2) (eCall 2 f__law_through (aCons (eVar 0) (aCons (eVar 1) aNil)))))))
theorem ok__law_through_right {P : Program} {w : World} {K : PySem.W.Frag} {mg : PySem.Str → Option Value} {base : Heap} {f : Addr} {fd : FuncData} {f_through f__law_is_view f__law_through : FM} (F : FnP K "_law_through_right" s__law_through_right f fd) (gx : mg "_law_through_right" = some (.ref f)) (c_through : Cal P w K mg base "through" 5 ["view", "mill"] f_through) (c__law_is_view : Cal P w K mg base "_law_is_view" 6 ["view", "states", "answers"] f__law_is_view) (c__law_through : Cal P w K mg base "_law_through" 5 ["view", "mill"] f__law_through) (z_len : mg "len" = none) :
    Cal P w K mg base "_law_through_right" 7 ["view", "mill"] (runB 3 (m__law_through_right f_through f__law_is_view f__law_through)) :=
  cal_mk (k := 6) F sc__law_through_right gx (fun _ _ _ _ _ _ us hl => match us, hl with | [_, _], _ => rfl) fun cdv A outer s H E hr tk hp =>
    (sx_cons (sx_set sc__law_through_right.nd (ex_c1 c_through tk hr (by decide) (ea_cons (xv 0) (ea_cons (xv 1) ea_nil))))
    (sx_one (sx_ret (ex_and (ex_c1 c__law_is_view tk hr (by decide) (ea_cons (xv 2) (ea_cons (ex_callB c_len (by rfl) z_len bt_len (ea_cons (xv 0) ea_nil)) (ea_cons (ex_callB c_len (by rfl) z_len bt_len (ea_cons (ex_ix m_ix (xv 1) ex_int) ea_nil)) ea_nil)))) (ex_one (ex_cmp (m_eq hr.units) (xv 2) (ex_c1 c__law_through tk hr (by decide) (ea_cons (xv 0) (ea_cons (xv 1) ea_nil))) (nomark _)))))))
def N__law_right_view : List PySem.Str := ["rows"]
theorem sc__law_right_view : FnScope N__law_right_view ["rows"] (defScope s__law_right_view) := ⟨rfl, rfl, rfl, by decide +kernel, rfl, by decide +kernel, by decide +kernel⟩
def m__law_right_view (f__law_is_view : FM) : SM := (sSeq (sIf (tOr (HM.tNot (tBl (eChain oLe oLe (eC (.int 1)) (eCB fLen (aCons (eVar 0) aNil)) (eC (.int 4))))) (HM.tNot (tBl (eChain oLe oLe (eC (.int 1)) (eCB fLen (aCons (eBin oIx (eVar 0) (eC (.int 0))) aNil)) (eC (.int 6)))))) (sRet (eC (.bl false))) sNil)
    (sRet (eCall 3 f__law_is_view (aCons (eVar 0) (aCons (eCB fLen (aCons (eVar 0) aNil)) (aCons (eCB fLen (aCons (eBin oIx (eVar 0) (eC (.int 0))) aNil)) aNil))))))
theorem ok__law_right_view {P : Program} {w : World} {K : PySem.W.Frag} {mg : PySem.Str → Option Value} {base : Heap} {f : Addr} {fd : FuncData} {f__law_is_view : FM} (F : FnP K "_law_right_view" s__law_right_view f fd) (gx : mg "_law_right_view" = some (.ref f)) (c__law_is_view : Cal P w K mg base "_law_is_view" 6 ["view", "states", "answers"] f__law_is_view) (z_len : mg "len" = none) :
    Cal P w K mg base "_law_right_view" 7 ["rows"] (runB 1 (m__law_right_view f__law_is_view)) :=
  cal_mk (k := 6) F sc__law_right_view gx (fun _ _ _ _ _ _ us hl => match us, hl with | [_], _ => rfl) fun cdv A outer s H E hr tk hp =>
    (sx_cons (sx_if (Ew.et (ew_or (et_not (et_chain m_le m_le ex_int (ex_callB c_len (by rfl) z_len bt_len (ea_cons (xv 0) ea_nil)) ex_int)) (ew_or1 (et_not (et_chain m_le m_le ex_int (ex_callB c_len (by rfl) z_len bt_len (ea_cons (ex_ix m_ix (xv 0) ex_int) ea_nil)) ex_int))))) (sx_one (sx_ret ex_bl)) sx_nil)
    (sx_one (sx_ret (ex_c1 c__law_is_view tk hr (by decide) (ea_cons (xv 0) (ea_cons (ex_callB c_len (by rfl) z_len bt_len (ea_cons (xv 0) ea_nil)) (ea_cons (ex_callB c_len (by rfl) z_len bt_len (ea_cons (ex_ix m_ix (xv 0) ex_int) ea_nil)) ea_nil)))))))
def N__law_view_judged : List PySem.Str := ["rows", "got"]
theorem sc__law_view_judged : FnScope N__law_view_judged ["rows"] (defScope s__law_view_judged) := ⟨rfl, rfl, rfl, by decide +kernel, rfl, by decide +kernel, by decide +kernel⟩
def m__law_view_judged (f_is_view : FM) (f__law_right_view : FM) : SM := (sSeq (sSet 1 (eCall 1 f_is_view (aCons (eVar 0) aNil)))
    (sRet (eAnd (eCB fIsi (aCons (eVar 1) (aCons (eC (.ty "bool")) aNil))) (eBin oEq (eVar 1) (eCall 1 f__law_right_view (aCons (eVar 0) aNil))))))
theorem ok__law_view_judged {P : Program} {w : World} {K : PySem.W.Frag} {mg : PySem.Str → Option Value} {base : Heap} {f : Addr} {fd : FuncData} {f_is_view f__law_right_view : FM} (F : FnP K "_law_view_judged" s__law_view_judged f fd) (gx : mg "_law_view_judged" = some (.ref f)) (c_is_view : Cal P w K mg base "is_view" 6 ["view"] f_is_view) (c__law_right_view : Cal P w K mg base "_law_right_view" 7 ["rows"] f__law_right_view) (z_bool : mg "bool" = none) (z_isinstance : mg "isinstance" = none) :
    Cal P w K mg base "_law_view_judged" 8 ["rows"] (runB 2 (m__law_view_judged f_is_view f__law_right_view)) :=
  cal_mk (k := 7) F sc__law_view_judged gx (fun _ _ _ _ _ _ us hl => match us, hl with | [_], _ => rfl) fun cdv A outer s H E hr tk hp =>
    (sx_cons (sx_set sc__law_view_judged.nd (ex_c1 c_is_view tk hr (by decide) (ea_cons (xv 0) ea_nil)))
    (sx_one (sx_ret (ex_and (ex_callB c_isi (by rfl) z_isinstance bt_isinstance (ea_cons (xv 1) (ea_cons (ex_bltn (by rfl) z_bool bt_bool (by rfl) (fun _ _ => .ty _)) ea_nil))) (ex_one (ex_cmp (m_eq hr.units) (xv 1) (ex_c1 c__law_right_view tk hr (by decide) (ea_cons (xv 0) ea_nil)) (nomark _)))))))
def N__law_grown : List PySem.Str := ["view", "states", "answers", "rows", "row", "k"]
theorem sc__law_grown : FnScope N__law_grown ["view", "states", "answers"] (defScope s__law_grown) := ⟨rfl, rfl, rfl, by decide +kernel, rfl, by decide +kernel, by decide +kernel⟩
def m__law_grown : SM := (sSeq (sSet 3 (eEl (lComp [4] (iEx (eVar 0)) (gN 4) tYes (eBin oAdd (eVar 4) (eCS gTuple (lComp [5] (iRg1 (eBin oSub (eVar 2) (eCB fLen (aCons (eVar 4) aNil)))) (gN 5) tYes (eTup (aCons (eC (.int 0)) (aCons (eC (.int 1)) aNil)))))))))
    (sRet (eCB fTuple (aCons (eBin oAdd (eVar 3) (eEl (lComp [5] (iRg1 (eBin oSub (eVar 1) (eCB fLen (aCons (eVar 3) aNil)))) (gN 5) tYes (eBin oIx (eVar 3) (eUn oNeg (eC (.int 1))))))) aNil))))
theorem ok__law_grown {P : Program} {w : World} {K : PySem.W.Frag} {mg : PySem.Str → Option Value} {base : Heap} {f : Addr} {fd : FuncData} (F : FnP K "_law_grown" s__law_grown f fd) (gx : mg "_law_grown" = some (.ref f)) (z_range : mg "range" = none) (z_len : mg "len" = none) (z_tuple : mg "tuple" = none) :
    Cal P w K mg base "_law_grown" 1 ["view", "states", "answers"] (runB 6 (m__law_grown)) :=
  cal_mk (k := 0) F sc__law_grown gx (fun _ _ _ _ _ _ us hl => match us, hl with | [_, _, _], _ => rfl) fun cdv A outer s H E hr tk hp =>
    (sx_cons (sx_set sc__law_grown.nd (ex_el (el_comp (own := [(("row" : PySem.Str), 4)]) (by rfl) sc__law_grown.nd (ei_ex (xv 0)) (blkOk_by (N := N__law_grown) (sc := (defScope s__law_grown)) (by decide +kernel)) (fun _ _ _ _ _ => (eg_name sc__law_grown.nd)) (fun _ _ _ _ _ => ets_nil) (fun _ _ _ _ _ => (ex_op m_add (xv 4) (ex_callTs s_tuple (by rfl) z_tuple bt_tuple (es_el (el_comp (own := [(("k" : PySem.Str), 5)]) (by rfl) sc__law_grown.nd (ei_range1 (by rfl) z_range (ex_op m_sub (xv 2) (ex_callB c_len (by rfl) z_len bt_len (ea_cons (xv 4) ea_nil)))) (blkOk_by (by kernel_rfl)) (fun _ _ _ _ _ => (eg_name sc__law_grown.nd)) (fun _ _ _ _ _ => ets_nil) (fun _ _ _ _ _ => (ex_tup (ea_cons ex_int (ea_cons ex_int ea_nil))))))))))))
    (sx_one (sx_ret (ex_callT c_tuple (by rfl) z_tuple bt_tuple (ea_cons (ex_op m_add (xv 3) (ex_el (el_comp (own := [(("k" : PySem.Str), 5)]) (by rfl) sc__law_grown.nd (ei_range1 (by rfl) z_range (ex_op m_sub (xv 1) (ex_callB c_len (by rfl) z_len bt_len (ea_cons (xv 3) ea_nil)))) (blkOk_by (N := N__law_grown) (sc := (defScope s__law_grown)) (by decide +kernel)) (fun _ _ _ _ _ => (eg_name sc__law_grown.nd)) (fun _ _ _ _ _ => ets_nil) (fun _ _ _ _ _ => (ex_ix m_ix (xv 3) (ex_un m_neg ex_int)))))) ea_nil)))))
def N__law_spoilt_view : List PySem.Str := ["d", "view", "way", "rows", "k", "row", "at", "n", "below", "to", "line"]
theorem sc__law_spoilt_view : FnScope N__law_spoilt_view ["d", "view"] (defScope s__law_spoilt_view) := ⟨rfl, rfl, rfl, by decide +kernel, rfl, by decide +kernel, by decide +kernel⟩
def m__law_spoilt_view (f__law_draw : FM) (f__law_f : FM) (f__law_minus : FM) (f__law_plus : FM) : SM := (sSeq (sSet 2 (eCall 2 f__law_draw (aCons (eVar 0) (aCons (eC (.int 12)) aNil))))
    (sSeq (sSet 3 (eEl (lComp [5] (iEx (eVar 1)) (gN 5) tYes (eCB fList (aCons (eVar 5) aNil)))))
    (sSeq (sSet 4 (eCall 2 f__law_draw (aCons (eVar 0) (aCons (eCB fLen (aCons (eVar 3) aNil)) aNil))))
    (sSeq (sSet 5 (eBin oIx (eVar 3) (eVar 4)))
    (sSeq (sSet 6 (eCall 2 f__law_draw (aCons (eVar 0) (aCons (eCB fLen (aCons (eVar 5) aNil)) aNil))))
    (sSeq (sSet 7 (eBin oIx (eBin oIx (eVar 5) (eVar 6)) (eC (.int 0))))
    (sSeq (sSet 8 (eBin oIx (eBin oIx (eVar 5) (eVar 6)) (eC (.int 1))))
    (sSeq (sIf (tBl (eBin oEq (eVar 2) (eC (.int 0)))) (sSub (eVar 5) (eVar 6) (eTup (aCons (eBin oMul (eC (.int 2)) (eVar 7)) (aCons (eBin oMul (eC (.int 2)) (eVar 8)) aNil)))) sNil)
    (sSeq (sIf (tBl (eBin oEq (eVar 2) (eC (.int 1)))) (sSub (eVar 5) (eVar 6) (eTup (aCons (eUn oNeg (eVar 7)) (aCons (eUn oNeg (eVar 8)) aNil)))) sNil)
    (sSeq (sIf (tBl (eBin oEq (eVar 2) (eC (.int 2)))) (sSub (eVar 5) (eVar 6) (eTup (aCons (eVar 7) (aCons (eC (.int 0)) aNil)))) sNil)
    (sSeq (sIf (tBl (eBin oEq (eVar 2) (eC (.int 3)))) (sSub (eVar 5) (eVar 6) (eCall 2 f__law_f (aCons (eBin oAdd (eVar 7) (eC (.int 1))) (aCons (eVar 8) aNil)))) sNil)
    (sSeq (sIf (tBl (eBin oEq (eVar 2) (eC (.int 4)))) (sSeq (sSet 9 (eCall 2 f__law_draw (aCons (eVar 0) (aCons (eCB fLen (aCons (eVar 5) aNil)) aNil))))
    (sSeq (sSub (eVar 5) (eVar 6) (eCall 2 f__law_minus (aCons (eBin oIx (eVar 5) (eVar 6)) (aCons (eTup (aCons (eC (.int 1)) (aCons (eC (.int 1)) aNil))) aNil))))
    (sSub (eVar 5) (eVar 9) (eCall 2 f__law_plus (aCons (eBin oIx (eVar 5) (eVar 9)) (aCons (eTup (aCons (eC (.int 1)) (aCons (eC (.int 1)) aNil))) aNil)))))) sNil)
    (sSeq (sIf (tBl (eBin oEq (eVar 2) (eC (.int 5)))) (sExpr (eM "list" mInsert (eVar 5) (aCons (eVar 6) (aCons (eTup (aCons (eC (.int 0)) (aCons (eC (.int 1)) aNil))) aNil)))) sNil)
    (sSeq (sIf (tBl (eBin oEq (eVar 2) (eC (.int 6)))) (sExpr (eM "list" mPopAt (eVar 5) (aCons (eVar 6) aNil))) sNil)
    (sSeq (sIf (tBl (eBin oEq (eVar 2) (eC (.int 7)))) (sExpr (eM "list" mInsert (eVar 3) (aCons (eVar 4) (aCons (eCB fList (aCons (eVar 5) aNil)) aNil)))) sNil)
    (sSeq (sIf (tBl (eBin oEq (eVar 2) (eC (.int 8)))) (sExpr (eM "list" mPopAt (eVar 3) (aCons (eVar 4) aNil))) sNil)
    (sSeq (sIf (tBl (eBin oEq (eVar 2) (eC (.int 9)))) (sSet 3 (eEl (lComp [10] (iEx (eVar 3)) (gN 10) tYes (eLst aNil)))) sNil)
    (sSeq (sIf (tBl (eBin oEq (eVar 2) (eC (.int 10)))) (sSet 3 (eLst aNil)) sNil)
    (sRet (eCS gTuple (lComp [10] (iEx (eVar 3)) (gN 10) tYes (eCB fTuple (aCons (eVar 10) aNil)))))))))))))))))))))))
theorem ok__law_spoilt_view {P : Program} {w : World} {K : PySem.W.Frag} {mg : PySem.Str → Option Value} {base : Heap} {f : Addr} {fd : FuncData} {f__law_draw f__law_f f__law_minus f__law_plus : FM} (F : FnP K "_law_spoilt_view" s__law_spoilt_view f fd) (gx : mg "_law_spoilt_view" = some (.ref f)) (c__law_draw : Cal P w K mg base "_law_draw" 1 ["d", "many"] f__law_draw) (c__law_f : Cal P w K mg base "_law_f" 2 ["n", "d"] f__law_f) (c__law_minus : Cal P w K mg base "_law_minus" 3 ["x", "y"] f__law_minus) (c__law_plus : Cal P w K mg base "_law_plus" 3 ["x", "y"] f__law_plus) (z_list : mg "list" = none) (z_len : mg "len" = none) (z_tuple : mg "tuple" = none) :
    Cal P w K mg base "_law_spoilt_view" 4 ["d", "view"] (runB 11 (m__law_spoilt_view f__law_draw f__law_f f__law_minus f__law_plus)) :=
  cal_mk (k := 3) F sc__law_spoilt_view gx (fun _ _ _ _ _ _ us hl => match us, hl with | [_, _], _ => rfl) fun cdv A outer s H E hr tk hp =>
    (sx_cons (sx_set sc__law_spoilt_view.nd (ex_c1 c__law_draw tk hr (by decide) (ea_cons (xv 0) (ea_cons ex_int ea_nil))))
    (sx_cons (sx_setLc (own := [(("row" : PySem.Str), 5)]) (by rfl) sc__law_spoilt_view.nd (ei_ex (xv 1)) (blkOk_by (N := N__law_spoilt_view) (sc := (defScope s__law_spoilt_view)) (by decide +kernel)) (fun _ _ _ _ _ => (eg_name sc__law_spoilt_view.nd)) (fun _ _ _ _ _ => ets_nil) (fun _ _ _ _ _ => (ex_callT c_list (by rfl) z_list bt_list (ea_cons (xv 5) ea_nil))))
    (sx_cons (sx_set sc__law_spoilt_view.nd (ex_c1 c__law_draw tk hr (by decide) (ea_cons (xv 0) (ea_cons (ex_callB c_len (by rfl) z_len bt_len (ea_cons (xv 3) ea_nil)) ea_nil))))
    (sx_cons (sx_set sc__law_spoilt_view.nd (ex_ix m_ix (xv 3) (xv 4)))
    (sx_cons (sx_set sc__law_spoilt_view.nd (ex_c1 c__law_draw tk hr (by decide) (ea_cons (xv 0) (ea_cons (ex_callB c_len (by rfl) z_len bt_len (ea_cons (xv 5) ea_nil)) ea_nil))))
    (sx_cons (sx_set sc__law_spoilt_view.nd (ex_ix m_ix (ex_ix m_ix (xv 5) (xv 6)) ex_int))
    (sx_cons (sx_set sc__law_spoilt_view.nd (ex_ix m_ix (ex_ix m_ix (xv 5) (xv 6)) ex_int))
    (sx_cons (sx_if (et_cmp (m_eq hr.units) (xv 2) ex_int (nomark _)) (sx_one (sx_sub (ex_tup (ea_cons (ex_op m_mul ex_int (xv 7)) (ea_cons (ex_op m_mul ex_int (xv 8)) ea_nil))) (xv 5) (xv 6))) sx_nil)
    (sx_cons (sx_if (et_cmp (m_eq hr.units) (xv 2) ex_int (nomark _)) (sx_one (sx_sub (ex_tup (ea_cons (ex_un m_neg (xv 7)) (ea_cons (ex_un m_neg (xv 8)) ea_nil))) (xv 5) (xv 6))) sx_nil)
    (sx_cons (sx_if (et_cmp (m_eq hr.units) (xv 2) ex_int (nomark _)) (sx_one (sx_sub (ex_tup (ea_cons (xv 7) (ea_cons ex_int ea_nil))) (xv 5) (xv 6))) sx_nil)
    (sx_cons (sx_if (et_cmp (m_eq hr.units) (xv 2) ex_int (nomark _)) (sx_one (sx_sub (ex_c1 c__law_f tk hr (by decide) (ea_cons (ex_op m_add (xv 7) ex_int) (ea_cons (xv 8) ea_nil))) (xv 5) (xv 6))) sx_nil)
    (sx_cons (sx_if (et_cmp (m_eq hr.units) (xv 2) ex_int (nomark _)) (sx_cons (sx_set sc__law_spoilt_view.nd (ex_c1 c__law_draw tk hr (by decide) (ea_cons (xv 0) (ea_cons (ex_callB c_len (by rfl) z_len bt_len (ea_cons (xv 5) ea_nil)) ea_nil))))
    (sx_cons (sx_sub (ex_c1 c__law_minus tk hr (by decide) (ea_cons (ex_ix m_ix (xv 5) (xv 6)) (ea_cons (ex_tup (ea_cons ex_int (ea_cons ex_int ea_nil))) ea_nil))) (xv 5) (xv 6))
    (sx_one (sx_sub (ex_c1 c__law_plus tk hr (by decide) (ea_cons (ex_ix m_ix (xv 5) (xv 9)) (ea_cons (ex_tup (ea_cons ex_int (ea_cons ex_int ea_nil))) ea_nil))) (xv 5) (xv 9))))) sx_nil)
    (sx_cons (sx_if (et_cmp (m_eq hr.units) (xv 2) ex_int (nomark _)) (sx_one (sx_expr (ex_m PySem.F.plainAttrs_list PySem.F.slot_list_insert PySem.F.type_list_insert me_insert (xv 5) (ea_cons (xv 6) (ea_cons (ex_tup (ea_cons ex_int (ea_cons ex_int ea_nil))) ea_nil))))) sx_nil)
    (sx_cons (sx_if (et_cmp (m_eq hr.units) (xv 2) ex_int (nomark _)) (sx_one (sx_expr (ex_m PySem.F.plainAttrs_list PySem.F.slot_list_pop PySem.F.type_list_pop me_popAt (xv 5) (ea_cons (xv 6) ea_nil)))) sx_nil)
    (sx_cons (sx_if (et_cmp (m_eq hr.units) (xv 2) ex_int (nomark _)) (sx_one (sx_expr (ex_m PySem.F.plainAttrs_list PySem.F.slot_list_insert PySem.F.type_list_insert me_insert (xv 3) (ea_cons (xv 4) (ea_cons (ex_callT c_list (by rfl) z_list bt_list (ea_cons (xv 5) ea_nil)) ea_nil))))) sx_nil)
    (sx_cons (sx_if (et_cmp (m_eq hr.units) (xv 2) ex_int (nomark _)) (sx_one (sx_expr (ex_m PySem.F.plainAttrs_list PySem.F.slot_list_pop PySem.F.type_list_pop me_popAt (xv 3) (ea_cons (xv 4) ea_nil)))) sx_nil)
    (sx_cons (sx_if (et_cmp (m_eq hr.units) (xv 2) ex_int (nomark _)) (sx_one (sx_setLc (own := [(("line" : PySem.Str), 10)]) (by rfl) sc__law_spoilt_view.nd (ei_ex (xv 3)) (blkOk_by (N := N__law_spoilt_view) (sc := (defScope s__law_spoilt_view)) (by decide +kernel)) (fun _ _ _ _ _ => (eg_name sc__law_spoilt_view.nd)) (fun _ _ _ _ _ => ets_nil) (fun _ _ _ _ _ => (ex_lst ea_nil)))) sx_nil)
    (sx_cons (sx_if (et_cmp (m_eq hr.units) (xv 2) ex_int (nomark _)) (sx_one (sx_set sc__law_spoilt_view.nd (ex_lst ea_nil))) sx_nil)
    (sx_one (sx_ret (ex_callTs s_tuple (by rfl) z_tuple bt_tuple (es_el (el_comp (own := [(("line" : PySem.Str), 10)]) (by rfl) sc__law_spoilt_view.nd (ei_ex (xv 3)) (blkOk_by (N := N__law_spoilt_view) (sc := (defScope s__law_spoilt_view)) (by decide +kernel)) (fun _ _ _ _ _ => (eg_name sc__law_spoilt_view.nd)) (fun _ _ _ _ _ => ets_nil) (fun _ _ _ _ _ => (ex_callT c_tuple (by rfl) z_tuple bt_tuple (ea_cons (xv 10) ea_nil))))))))))))))))))))))))))
def N_law : List PySem.Str := ["script", "d", "states", "answers", "parts", "view", "mill", "behind", "made", "stakes", "others", "turn", "acts", "rows", "thing"]
theorem sc_law : FnScope N_law ["script"] (defScope s_law) := ⟨rfl, rfl, rfl, by decide +kernel, rfl, by decide +kernel, by decide +kernel⟩
def m_law (f__law_begin : FM) (f__law_draw : FM) (f__law_wide_view : FM) (f__law_view : FM) (f__law_through : FM) (f__law_through_right : FM) (f_through : FM) (f__law_some_acts : FM) (f__law_worth_right : FM) (f__law_less : FM) (f_worth_of : FM) (f__law_grown : FM) (f__law_spoilt_view : FM) (f__law_view_judged : FM) : SM := (sSeq (sSet 1 (eCall 1 f__law_begin (aCons (eVar 0) aNil)))
    (sSeq (sSet 2 (eBin oAdd (eC (.int 1)) (eCall 2 f__law_draw (aCons (eVar 1) (aCons (eC (.int 4)) aNil)))))
    (sSeq (sSet 3 (eBin oAdd (eC (.int 1)) (eCall 2 f__law_draw (aCons (eVar 1) (aCons (eC (.int 6)) aNil)))))
    (sSeq (sSet 4 (eBin oAdd (eC (.int 1)) (eCall 2 f__law_draw (aCons (eVar 1) (aCons (eC (.int 6)) aNil)))))
    (sSeq (sSet 5 (eCall 3 f__law_wide_view (aCons (eVar 1) (aCons (eVar 2) (aCons (eVar 3) aNil)))))
    (sSeq (sSet 6 (eCall 4 f__law_view (aCons (eVar 1) (aCons (eVar 3) (aCons (eVar 4) (aCons (eC (.bl true)) aNil))))))
    (sSeq (sSet 7 (eCall 4 f__law_view (aCons (eVar 1) (aCons (eVar 4) (aCons (eBin oAdd (eC (.int 1)) (eCall 2 f__law_draw (aCons (eVar 1) (aCons (eC (.int 4)) aNil)))) (aCons (eC (.bl true)) aNil))))))
    (sSeq (sSet 8 (eCall 2 f__law_through (aCons (eVar 5) (aCons (eVar 6) aNil))))
    (sSeq (sIf (tOr (HM.tNot (tVal (eCall 2 f__law_through_right (aCons (eVar 5) (aCons (eVar 6) aNil))))) (HM.tNot (tVal (eCall 2 f__law_through_right (aCons (eVar 8) (aCons (eVar 7) aNil)))))) (sRet (eC (.bl false))) sNil)
    (sSeq (sIf (tOr (HM.tNot (tVal (eCall 2 f__law_through_right (aCons (eVar 6) (aCons (eVar 7) aNil))))) (tBl (eBin oNe (eCall 2 f_through (aCons (eVar 5) (aCons (eCall 2 f_through (aCons (eVar 6) (aCons (eVar 7) aNil))) aNil))) (eCall 2 f__law_through (aCons (eVar 8) (aCons (eVar 7) aNil)))))) (sRet (eC (.bl false))) sNil)
    (sSeq (sSet 9 (eCall 2 f__law_some_acts (aCons (eVar 1) (aCons (eVar 2) aNil))))
    (sSeq (sSet 10 (eCall 2 f__law_some_acts (aCons (eVar 1) (aCons (eVar 2) aNil))))
    (sSeq (sFor (iEx (eLst (aCons (eTup (aCons (eVar 5) (aCons (eVar 9) aNil))) (aCons (eTup (aCons (eVar 8) (aCons (eVar 10) aNil))) (aCons (eTup (aCons (eVar 5) (aCons (eVar 10) aNil))) (aCons (eTup (aCons (eVar 8) (aCons (eVar 9) aNil))) (aCons (eTup (aCons (eVar 5) (aCons (eVar 9) aNil))) aNil))))))) (gN 11) (sIf (HM.tNot (tVal (eCall 2 f__law_worth_right (aCons (eBin oIx (eVar 11) (eC (.int 0))) (aCons (eBin oIx (eVar 11) (eC (.int 1))) aNil))))) (sRet (eC (.bl false))) sNil))
    (sSeq (sFor (iEx (eLst (aCons (eVar 9) (aCons (eVar 10) aNil)))) (gN 12) (sIf (tVal (eCall 2 f__law_less (aCons (eCall 2 f_worth_of (aCons (eVar 5) (aCons (eVar 12) aNil))) (aCons (eCall 2 f_worth_of (aCons (eVar 8) (aCons (eVar 12) aNil))) aNil)))) (sRet (eC (.bl false))) sNil))
    (sSeq (sSet 13 (eLst (aCons (eVar 5) (aCons (eVar 8) (aCons (eCall 3 f__law_grown (aCons (eVar 5) (aCons (eC (.int 4)) (aCons (eC (.int 6)) aNil)))) (aCons (eCall 3 f__law_grown (aCons (eVar 5) (aCons (eC (.int 5)) (aCons (eC (.int 6)) aNil)))) (aCons (eCall 3 f__law_grown (aCons (eVar 5) (aCons (eC (.int 4)) (aCons (eC (.int 7)) aNil)))) aNil)))))))
    (sSeq (sFor (iRg1 (eC (.int 4))) (gN 11) (sExpr (eM "list" mAppend (eVar 13) (aCons (eCall 2 f__law_spoilt_view (aCons (eVar 1) (aCons (eVar 5) aNil))) aNil))))
    (sRet (eCS gAllB (lComp [14] (iEx (eVar 13)) (gN 14) tYes (eCall 1 f__law_view_judged (aCons (eVar 14) aNil)))))))))))))))))))))
theorem ok_law {P : Program} {w : World} {K : PySem.W.Frag} {mg : PySem.Str → Option Value} {base : Heap} {f : Addr} {fd : FuncData} {f__law_begin f__law_draw f__law_wide_view f__law_view f__law_through f__law_through_right f_through f__law_some_acts f__law_worth_right f__law_less f_worth_of f__law_grown f__law_spoilt_view f__law_view_judged : FM} (F : FnP K "law" s_law f fd) (c__law_begin : Cal P w K mg base "_law_begin" 1 ["script"] f__law_begin) (c__law_draw : Cal P w K mg base "_law_draw" 1 ["d", "many"] f__law_draw) (c__law_wide_view : Cal P w K mg base "_law_wide_view" 4 ["d", "states", "answers"] f__law_wide_view) (c__law_view : Cal P w K mg base "_law_view" 5 ["d", "states", "answers", "zeros"] f__law_view) (c__law_through : Cal P w K mg base "_law_through" 5 ["view", "mill"] f__law_through) (c__law_through_right : Cal P w K mg base "_law_through_right" 7 ["view", "mill"] f__law_through_right) (c_through : Cal P w K mg base "through" 5 ["view", "mill"] f_through) (c__law_some_acts : Cal P w K mg base "_law_some_acts" 3 ["d", "states"] f__law_some_acts) (c__law_worth_right : Cal P w K mg base "_law_worth_right" 7 ["view", "stakes"] f__law_worth_right) (c__law_less : Cal P w K mg base "_law_less" 1 ["x", "y"] f__law_less) (c_worth_of : Cal P w K mg base "worth_of" 6 ["view", "stakes"] f_worth_of) (c__law_grown : Cal P w K mg base "_law_grown" 1 ["view", "states", "answers"] f__law_grown) (c__law_spoilt_view : Cal P w K mg base "_law_spoilt_view" 4 ["d", "view"] f__law_spoilt_view) (c__law_view_judged : Cal P w K mg base "_law_view_judged" 8 ["rows"] f__law_view_judged) (z_range : mg "range" = none) (z_all : mg "all" = none) :
    FnM P w K mg base 9 f fd ["script"] (runB 15 (m_law f__law_begin f__law_draw f__law_wide_view f__law_view f__law_through f__law_through_right f_through f__law_some_acts f__law_worth_right f__law_less f_worth_of f__law_grown f__law_spoilt_view f__law_view_judged)) :=
  fn_def (k := 8) F sc_law fun cdv A outer s H E hr tk hp =>
    (sx_cons (sx_set sc_law.nd (ex_c1 c__law_begin tk hr (by decide) (ea_cons (xv 0) ea_nil)))
    (sx_cons (sx_set sc_law.nd (ex_op m_add ex_int (ex_c1 c__law_draw tk hr (by decide) (ea_cons (xv 1) (ea_cons ex_int ea_nil)))))
    (sx_cons (sx_set sc_law.nd (ex_op m_add ex_int (ex_c1 c__law_draw tk hr (by decide) (ea_cons (xv 1) (ea_cons ex_int ea_nil)))))
    (sx_cons (sx_set sc_law.nd (ex_op m_add ex_int (ex_c1 c__law_draw tk hr (by decide) (ea_cons (xv 1) (ea_cons ex_int ea_nil)))))
    (sx_cons (sx_set sc_law.nd (ex_c1 c__law_wide_view tk hr (by decide) (ea_cons (xv 1) (ea_cons (xv 2) (ea_cons (xv 3) ea_nil)))))
    (sx_cons (sx_set sc_law.nd (ex_c1 c__law_view tk hr (by decide) (ea_cons (xv 1) (ea_cons (xv 3) (ea_cons (xv 4) (ea_cons ex_bl ea_nil))))))
    (sx_cons (sx_set sc_law.nd (ex_c1 c__law_view tk hr (by decide) (ea_cons (xv 1) (ea_cons (xv 4) (ea_cons (ex_op m_add ex_int (ex_c1 c__law_draw tk hr (by decide) (ea_cons (xv 1) (ea_cons ex_int ea_nil)))) (ea_cons ex_bl ea_nil))))))
    (sx_cons (sx_set sc_law.nd (ex_c1 c__law_through tk hr (by decide) (ea_cons (xv 5) (ea_cons (xv 6) ea_nil))))
    (sx_cons (sx_if (Ew.et (ew_or (et_not (et_val (ex_c1 c__law_through_right tk hr (by decide) (ea_cons (xv 5) (ea_cons (xv 6) ea_nil))))) (ew_or1 (et_not (et_val (ex_c1 c__law_through_right tk hr (by decide) (ea_cons (xv 8) (ea_cons (xv 7) ea_nil)))))))) (sx_one (sx_ret ex_bl)) sx_nil)
    (sx_cons (sx_if (Ew.et (ew_or (et_not (et_val (ex_c1 c__law_through_right tk hr (by decide) (ea_cons (xv 6) (ea_cons (xv 7) ea_nil))))) (ew_or1 (et_cmp (m_ne hr.units) (ex_c1 c_through tk hr (by decide) (ea_cons (xv 5) (ea_cons (ex_c1 c_through tk hr (by decide) (ea_cons (xv 6) (ea_cons (xv 7) ea_nil))) ea_nil))) (ex_c1 c__law_through tk hr (by decide) (ea_cons (xv 8) (ea_cons (xv 7) ea_nil))) (nomark _))))) (sx_one (sx_ret ex_bl)) sx_nil)
    (sx_cons (sx_set sc_law.nd (ex_c1 c__law_some_acts tk hr (by decide) (ea_cons (xv 1) (ea_cons (xv 2) ea_nil))))
    (sx_cons (sx_set sc_law.nd (ex_c1 c__law_some_acts tk hr (by decide) (ea_cons (xv 1) (ea_cons (xv 2) ea_nil))))
    (sx_cons (sx_for hp (by rfl) (ei_ex (ex_lst (ea_cons (ex_tup (ea_cons (xv 5) (ea_cons (xv 9) ea_nil))) (ea_cons (ex_tup (ea_cons (xv 8) (ea_cons (xv 10) ea_nil))) (ea_cons (ex_tup (ea_cons (xv 5) (ea_cons (xv 10) ea_nil))) (ea_cons (ex_tup (ea_cons (xv 8) (ea_cons (xv 9) ea_nil))) (ea_cons (ex_tup (ea_cons (xv 5) (ea_cons (xv 9) ea_nil))) ea_nil))))))) (eg_name sc_law.nd) (sx_one (sx_if (et_not (et_val (ex_c1 c__law_worth_right tk hr (by decide) (ea_cons (ex_ix m_ix (xv 11) ex_int) (ea_cons (ex_ix m_ix (xv 11) ex_int) ea_nil))))) (sx_one (sx_ret ex_bl)) sx_nil)))
    (sx_cons (sx_for hp (by rfl) (ei_ex (ex_lst (ea_cons (xv 9) (ea_cons (xv 10) ea_nil)))) (eg_name sc_law.nd) (sx_one (sx_if (et_val (ex_c1 c__law_less tk hr (by decide) (ea_cons (ex_c1 c_worth_of tk hr (by decide) (ea_cons (xv 5) (ea_cons (xv 12) ea_nil))) (ea_cons (ex_c1 c_worth_of tk hr (by decide) (ea_cons (xv 8) (ea_cons (xv 12) ea_nil))) ea_nil)))) (sx_one (sx_ret ex_bl)) sx_nil)))
    (sx_cons (sx_set sc_law.nd (ex_lst (ea_cons (xv 5) (ea_cons (xv 8) (ea_cons (ex_c1 c__law_grown tk hr (by decide) (ea_cons (xv 5) (ea_cons ex_int (ea_cons ex_int ea_nil)))) (ea_cons (ex_c1 c__law_grown tk hr (by decide) (ea_cons (xv 5) (ea_cons ex_int (ea_cons ex_int ea_nil)))) (ea_cons (ex_c1 c__law_grown tk hr (by decide) (ea_cons (xv 5) (ea_cons ex_int (ea_cons ex_int ea_nil)))) ea_nil)))))))
    (sx_cons (sx_for hp (by rfl) (ei_range1 (by rfl) z_range ex_int) (eg_name sc_law.nd) (sx_one (sx_expr (ex_m PySem.F.plainAttrs_list PySem.F.slot_list_append PySem.F.type_list_append me_append (xv 13) (ea_cons (ex_c1 c__law_spoilt_view tk hr (by decide) (ea_cons (xv 1) (ea_cons (xv 5) ea_nil))) ea_nil)))))
    (sx_one (sx_ret (ex_callBl (s_all (by rfl)) (by rfl) z_all bt_all (esl_el (el_comp (own := [(("thing" : PySem.Str), 14)]) (by rfl) sc_law.nd (ei_ex (xv 13)) (blkOk_by (N := N_law) (sc := (defScope s_law)) (by decide +kernel)) (fun _ _ _ _ _ => (eg_name sc_law.nd)) (fun _ _ _ _ _ => ets_nil) (fun _ _ _ _ _ => (ex_c1 c__law_view_judged tk0 hr (by decide) (ea_cons (xv 14) ea_nil))))))))))))))))))))))))
end K54

/-! fractions in lowest terms -/
namespace HM
open PySem PySem.Spec L2
/-- the sign that makes a denominator positive, times the greatest common divisor -/
def com (n d : Int) : Int := if d < 0 then -((Nat.gcd n.natAbs d.natAbs : Nat) : Int) else (Nat.gcd n.natAbs d.natAbs : Nat)
def rn (n d : Int) : Int := n.fdiv (com n d)
def rd (n d : Int) : Int := d.fdiv (com n d)
abbrev fr (a b : Int) : D := .tup [.int a, .int b]
abbrev rat (n d : Int) : D := fr (rn n d) (rd n d)
theorem com_abs {n d : Int} : (com n d).natAbs = Nat.gcd n.natAbs d.natAbs := by
  unfold com
  split <;> omega
theorem com_ne {n d : Int} (h : d ≠ 0) : com n d ≠ 0 := by
  have := Nat.gcd_pos_of_pos_right n.natAbs (Int.natAbs_pos.mpr h)
  have := com_abs (n := n) (d := d)
  omega
theorem com_le {n d : Int} (h : d ≠ 0) : (com n d).natAbs ≤ d.natAbs := by
  rw [com_abs]
  exact Nat.le_of_dvd (Int.natAbs_pos.mpr h) (Nat.gcd_dvd_right _ _)
theorem rat_n {n d : Int} (h : d ≠ 0) : n = com n d * rn n d := by
  have z : com n d ∣ n := by
    rw [← Int.natAbs_dvd_natAbs, com_abs]
    exact Nat.gcd_dvd_left _ _
  obtain ⟨k, hk⟩ := z
  have e : rn n d = k := by
    unfold rn
    rw [hk]
    have hc : com n d ≠ 0 := com_ne h
    rw [← hk]
    rw (occs := .pos [1]) [hk]
    exact Int.mul_fdiv_cancel_left k hc
  rw [e]
  exact hk
theorem rat_d {n d : Int} (h : d ≠ 0) : d = com n d * rd n d := by
  have z : com n d ∣ d := by
    rw [← Int.natAbs_dvd_natAbs, com_abs]
    exact Nat.gcd_dvd_right _ _
  obtain ⟨k, hk⟩ := z
  have e : rd n d = k := by
    unfold rd
    have hc : com n d ≠ 0 := com_ne h
    rw (occs := .pos [1]) [hk]
    exact Int.mul_fdiv_cancel_left k hc
  rw [e]
  exact hk
theorem rat_pos {n d : Int} (h : d ≠ 0) : 0 < rd n d := by
  have e := rat_d (n := n) h
  have hg := com_ne (n := n) h
  by_cases hd : d < 0
  · have hc : com n d < 0 := by
      have : com n d = -((Nat.gcd n.natAbs d.natAbs : Nat) : Int) := by unfold com; rw [if_pos hd]
      omega
    rcases Int.lt_trichotomy 0 (rd n d) with z | z | z
    · exact z
    · rw [← z] at e
      simp at e
      exact absurd e h
    · have := Int.mul_pos_of_neg_of_neg hc z
      omega
  · have hc : 0 < com n d := by
      have : com n d = ((Nat.gcd n.natAbs d.natAbs : Nat) : Int) := by unfold com; rw [if_neg hd]
      omega
    rcases Int.lt_trichotomy 0 (rd n d) with z | z | z
    · exact z
    · rw [← z] at e
      simp at e
      exact absurd e h
    · have := Int.mul_neg_of_pos_of_neg hc z
      omega
theorem rat_cop {n d : Int} (h : d ≠ 0) : Nat.gcd (rn n d).natAbs (rd n d).natAbs = 1 := by
  have e1 := congrArg Int.natAbs (rat_n (n := n) h)
  have e2 := congrArg Int.natAbs (rat_d (n := n) h)
  rw [Int.natAbs_mul] at e1 e2
  have z : Nat.gcd n.natAbs d.natAbs = (com n d).natAbs * Nat.gcd (rn n d).natAbs (rd n d).natAbs := by
    rw [← Nat.gcd_mul_left, ← e1, ← e2]
  rw [← com_abs] at z
  have hc : 0 < (com n d).natAbs := Int.natAbs_pos.mpr (com_ne h)
  have : (com n d).natAbs * 1 = (com n d).natAbs * Nat.gcd (rn n d).natAbs (rd n d).natAbs := by omega
  exact (Nat.eq_of_mul_eq_mul_left hc this).symm
theorem rat_cross {n d : Int} (h : d ≠ 0) : rn n d * d = n * rd n d := by
  have e1 := rat_n (n := n) h
  have e2 := rat_d (n := n) h
  calc rn n d * d = rn n d * (com n d * rd n d) := by rw [← e2]
    _ = com n d * rn n d * rd n d := by rw [← Int.mul_assoc, Int.mul_comm (rn n d)]
    _ = n * rd n d := by rw [← e1]
theorem rn_le {n d : Int} (h : d ≠ 0) : (rn n d).natAbs ≤ n.natAbs := by
  have e1 := congrArg Int.natAbs (rat_n (n := n) h)
  rw [Int.natAbs_mul] at e1
  have hc : 0 < (com n d).natAbs := Int.natAbs_pos.mpr (com_ne h)
  rw [e1]
  exact Nat.le_mul_of_pos_left _ hc
theorem rd_le {n d : Int} (h : d ≠ 0) : (rd n d).natAbs ≤ d.natAbs := by
  have e1 := congrArg Int.natAbs (rat_d (n := n) h)
  rw [Int.natAbs_mul] at e1
  have hc : 0 < (com n d).natAbs := Int.natAbs_pos.mpr (com_ne h)
  rw [e1]
  exact Nat.le_mul_of_pos_left _ hc
/-- two pairs in lowest terms that are equal crosswise are equal -/
theorem low_eq {a b c d : Int} (hb : 0 < b) (hd : 0 < d) (h1 : Nat.gcd a.natAbs b.natAbs = 1) (h2 : Nat.gcd c.natAbs d.natAbs = 1) (e : a * d = c * b) : a = c ∧ b = d := by
  have e' := congrArg Int.natAbs e
  rw [Int.natAbs_mul, Int.natAbs_mul] at e'
  have bd : b.natAbs ∣ d.natAbs := by
    have z : b.natAbs ∣ a.natAbs * d.natAbs := ⟨c.natAbs, by rw [e', Nat.mul_comm]⟩
    exact Nat.Coprime.dvd_of_dvd_mul_left ((Nat.gcd_comm _ _).trans h1 : Nat.Coprime _ _) z
  have db : d.natAbs ∣ b.natAbs := by
    have z : d.natAbs ∣ c.natAbs * b.natAbs := ⟨a.natAbs, by rw [← e', Nat.mul_comm]⟩
    exact Nat.Coprime.dvd_of_dvd_mul_left ((Nat.gcd_comm _ _).trans h2 : Nat.Coprime _ _) z
  have ebd : b = d := by
    have := Nat.dvd_antisymm bd db
    omega
  subst ebd
  exact ⟨Int.eq_of_mul_eq_mul_right (by omega) e, rfl⟩
theorem rat_eq {n d m e : Int} (hd : d ≠ 0) (he : e ≠ 0) (h : n * e = m * d) : rn n d = rn m e ∧ rd n d = rd m e := by
  refine low_eq (rat_pos hd) (rat_pos he) (rat_cop hd) (rat_cop he) ?_
  have c1 := rat_cross (n := n) hd
  have c2 := rat_cross (n := m) he
  -- (rn n d * rd m e) * (d * e) = (rn m e * rd n d) * (d * e)
  refine Int.eq_of_mul_eq_mul_right (show d * e ≠ 0 from Int.mul_ne_zero hd he) ?_
  calc rn n d * rd m e * (d * e) = (rn n d * d) * (rd m e * e) := by simp only [Int.mul_assoc, Int.mul_comm, Int.mul_left_comm]
    _ = (n * rd n d) * (rd m e * e) := by rw [c1]
    _ = (n * e) * (rd n d * rd m e) := by simp only [Int.mul_assoc, Int.mul_comm, Int.mul_left_comm]
    _ = (m * d) * (rd n d * rd m e) := by rw [h]
    _ = (m * rd m e) * (rd n d * d) := by simp only [Int.mul_assoc, Int.mul_comm, Int.mul_left_comm]
    _ = (rn m e * e) * (rd n d * d) := by rw [c2]
    _ = rn m e * rd n d * (d * e) := by simp only [Int.mul_assoc, Int.mul_comm, Int.mul_left_comm]
/-- a fraction in lowest terms is its own -/
theorem rat_self {a b : Int} (hb : 0 < b) (h : Nat.gcd a.natAbs b.natAbs = 1) : rn a b = a ∧ rd a b = b :=
  low_eq (rat_pos (by omega)) hb (rat_cop (by omega)) h (rat_cross (by omega))
/-! sizes -/
theorem okMul_of {i j : Int} {k l : Nat} (hi : i.natAbs < 2 ^ k) (hj : j.natAbs < 2 ^ l) (h : k + l < 1000000) : okMul i j = true := by
  refine decide_eq_true (.inr ?_)
  have a : ∀ {x k : Nat}, x < 2 ^ k → x.log2 ≤ k := fun {x k} h => by
    by_cases z : x = 0
    · subst z
      exact Nat.zero_le _
    · exact Nat.le_of_lt ((Nat.log2_lt z).mpr h)
  have := a hi
  have := a hj
  omega
theorem mul_lt {i j : Int} {k l : Nat} (hi : i.natAbs < 2 ^ k) (hj : j.natAbs < 2 ^ l) : (i * j).natAbs < 2 ^ (k + l) := by
  rw [Int.natAbs_mul, Nat.pow_add]
  exact Nat.mul_lt_mul'' hi hj
theorem add_lt {i j : Int} {k : Nat} (hi : i.natAbs < 2 ^ k) (hj : j.natAbs < 2 ^ k) : (i + j).natAbs < 2 ^ (k + 1) := by
  rw [Nat.pow_succ]
  omega
theorem sub_lt {i j : Int} {k : Nat} (hi : i.natAbs < 2 ^ k) (hj : j.natAbs < 2 ^ k) : (i - j).natAbs < 2 ^ (k + 1) := by
  rw [Nat.pow_succ]
  omega
theorem lt_up {x k l : Nat} (h : x < 2 ^ k) (hl : k ≤ l) : x < 2 ^ l := Nat.lt_of_lt_of_le h (Nat.pow_le_pow_right (by decide) hl)
theorem okDiv_com {n d i : Int} {k : Nat} (h : d ≠ 0) (hd : d.natAbs < 2 ^ k) (hk : k ≤ 9000) : okDiv i (com n d) = true := by
  have hc := com_ne (n := n) h
  refine decide_eq_true ⟨hc, ?_⟩
  have hl := com_le (n := n) h
  have : (com n d).natAbs ≠ 0 := by omega
  rw [Nat.log2_lt this]
  exact Nat.lt_of_le_of_lt hl (lt_up hd hk)
end HM

namespace K54
open PySem PySem.Spec PyProof.Rows L2 HM

def f_ratio : FM := runB 3 (m_ratio)
theorem le_ratio : ∀ ds st, Le st (runB 3 (m_ratio) ds st) (f_ratio ds st) := fun _ _ => .refl _
def f_plus : FM := runB 2 (m_plus f_ratio)
theorem le_plus : ∀ ds st, Le st (runB 2 (m_plus f_ratio) ds st) (f_plus ds st) := fun _ _ => .refl _
def f_times : FM := runB 2 (m_times f_ratio)
theorem le_times : ∀ ds st, Le st (runB 2 (m_times f_ratio) ds st) (f_times ds st) := fun _ _ => .refl _
def f_is_below : FM := runB 2 (m_is_below)
theorem le_is_below : ∀ ds st, Le st (runB 2 (m_is_below) ds st) (f_is_below ds st) := fun _ _ => .refl _
def f_total : FM := runB 3 (m_total f_plus)
theorem le_total : ∀ ds st, Le st (runB 3 (m_total f_plus) ds st) (f_total ds st) := fun _ _ => .refl _
def f_mean : FM := runB 5 (m_mean f_plus f_times)
theorem le_mean : ∀ ds st, Le st (runB 5 (m_mean f_plus f_times) ds st) (f_mean ds st) := fun _ _ => .refl _
def f_is_fraction : FM := runB 3 (m_is_fraction)
theorem le_is_fraction : ∀ ds st, Le st (runB 3 (m_is_fraction) ds st) (f_is_fraction ds st) := fun _ _ => .refl _
def f_is_ratio : FM := runB 1 (m_is_ratio f_is_fraction)
theorem le_is_ratio : ∀ ds st, Le st (runB 1 (m_is_ratio f_is_fraction) ds st) (f_is_ratio ds st) := fun _ _ => .refl _
def f_is_chances : FM := runB 2 (m_is_chances f_is_ratio f_total)
theorem le_is_chances : ∀ ds st, Le st (runB 2 (m_is_chances f_is_ratio f_total) ds st) (f_is_chances ds st) := fun _ _ => .refl _
def f_act_sum : FM := runB 4 (m_act_sum f_mean)
theorem le_act_sum : ∀ ds st, Le st (runB 4 (m_act_sum f_mean) ds st) (f_act_sum ds st) := fun _ _ => .refl _
def f_act_sums : FM := runB 4 (m_act_sums f_act_sum)
theorem le_act_sums : ∀ ds st, Le st (runB 4 (m_act_sums f_act_sum) ds st) (f_act_sums ds st) := fun _ _ => .refl _
def f_best_place : FM := runB 3 (m_best_place f_is_below)
theorem le_best_place : ∀ ds st, Le st (runB 3 (m_best_place f_is_below) ds st) (f_best_place ds st) := fun _ _ => .refl _
def f_are_rows : FM := runB 3 (m_are_rows f_is_chances)
theorem le_are_rows : ∀ ds st, Le st (runB 3 (m_are_rows f_is_chances) ds st) (f_are_rows ds st) := fun _ _ => .refl _
def f_is_view : FM := runB 2 (m_is_view f_are_rows)
theorem le_is_view : ∀ ds st, Le st (runB 2 (m_is_view f_are_rows) ds st) (f_is_view ds st) := fun _ _ => .refl _
def f_milled : FM := runB 6 (m_milled f_plus f_times)
theorem le_milled : ∀ ds st, Le st (runB 6 (m_milled f_plus f_times) ds st) (f_milled ds st) := fun _ _ => .refl _
def f_milled_row : FM := runB 3 (m_milled_row f_milled)
theorem le_milled_row : ∀ ds st, Le st (runB 3 (m_milled_row f_milled) ds st) (f_milled_row ds st) := fun _ _ => .refl _
def f_through : FM := runB 3 (m_through f_milled_row)
theorem le_through : ∀ ds st, Le st (runB 3 (m_through f_milled_row) ds st) (f_through ds st) := fun _ _ => .refl _
def f_best_acts : FM := runB 3 (m_best_acts f_best_place f_act_sums)
theorem le_best_acts : ∀ ds st, Le st (runB 3 (m_best_acts f_best_place f_act_sums) ds st) (f_best_acts ds st) := fun _ _ => .refl _
def f_worth_of : FM := runB 5 (m_worth_of f_act_sums f_plus f_best_place)
theorem le_worth_of : ∀ ds st, Le st (runB 5 (m_worth_of f_act_sums f_plus f_best_place) ds st) (f_worth_of ds st) := fun _ _ => .refl _
def f__law_begin : FM := runB 2 (m__law_begin)
theorem le__law_begin : ∀ ds st, Le st (runB 2 (m__law_begin) ds st) (f__law_begin ds st) := fun _ _ => .refl _
def f__law_draw : FM := runB 5 (m__law_draw)
theorem le__law_draw : ∀ ds st, Le st (runB 5 (m__law_draw) ds st) (f__law_draw ds st) := fun _ _ => .refl _
def f__law_pick : FM := runB 2 (m__law_pick f__law_draw)
theorem le__law_pick : ∀ ds st, Le st (runB 2 (m__law_pick f__law_draw) ds st) (f__law_pick ds st) := fun _ _ => .refl _
def f__law_rare : FM := runB 2 (m__law_rare f__law_draw)
theorem le__law_rare : ∀ ds st, Le st (runB 2 (m__law_rare f__law_draw) ds st) (f__law_rare ds st) := fun _ _ => .refl _
def f__law_is_int : FM := runB 1 (m__law_is_int)
theorem le__law_is_int : ∀ ds st, Le st (runB 1 (m__law_is_int) ds st) (f__law_is_int ds st) := fun _ _ => .refl _
def f__law_is_ints : FM := runB 2 (m__law_is_ints f__law_is_int)
theorem le__law_is_ints : ∀ ds st, Le st (runB 2 (m__law_is_ints f__law_is_int) ds st) (f__law_is_ints ds st) := fun _ _ => .refl _
def f__law_is_rows : FM := runB 3 (m__law_is_rows)
theorem le__law_is_rows : ∀ ds st, Le st (runB 3 (m__law_is_rows) ds st) (f__law_is_rows ds st) := fun _ _ => .refl _
def f__law_gcd : FM := runB 5 (m__law_gcd)
theorem le__law_gcd : ∀ ds st, Le st (runB 5 (m__law_gcd) ds st) (f__law_gcd ds st) := fun _ _ => .refl _
def f__law_f : FM := runB 3 (m__law_f f__law_gcd)
theorem le__law_f : ∀ ds st, Le st (runB 3 (m__law_f f__law_gcd) ds st) (f__law_f ds st) := fun _ _ => .refl _
def f__law_plus : FM := runB 2 (m__law_plus f__law_f)
theorem le__law_plus : ∀ ds st, Le st (runB 2 (m__law_plus f__law_f) ds st) (f__law_plus ds st) := fun _ _ => .refl _
def f__law_minus : FM := runB 2 (m__law_minus f__law_f)
theorem le__law_minus : ∀ ds st, Le st (runB 2 (m__law_minus f__law_f) ds st) (f__law_minus ds st) := fun _ _ => .refl _
def f__law_times : FM := runB 2 (m__law_times f__law_f)
theorem le__law_times : ∀ ds st, Le st (runB 2 (m__law_times f__law_f) ds st) (f__law_times ds st) := fun _ _ => .refl _
def f__law_less : FM := runB 2 (m__law_less)
theorem le__law_less : ∀ ds st, Le st (runB 2 (m__law_less) ds st) (f__law_less ds st) := fun _ _ => .refl _
def f__law_total : FM := runB 3 (m__law_total f__law_plus)
theorem le__law_total : ∀ ds st, Le st (runB 3 (m__law_total f__law_plus) ds st) (f__law_total ds st) := fun _ _ => .refl _
def f__law_great : FM := runB 3 (m__law_great f__law_less)
theorem le__law_great : ∀ ds st, Le st (runB 3 (m__law_great f__law_less) ds st) (f__law_great ds st) := fun _ _ => .refl _
def f__law_is_frac : FM := runB 1 (m__law_is_frac f__law_is_int f__law_gcd)
theorem le__law_is_frac : ∀ ds st, Le st (runB 1 (m__law_is_frac f__law_is_int f__law_gcd) ds st) (f__law_is_frac ds st) := fun _ _ => .refl _
def f__law_is_ratio : FM := runB 1 (m__law_is_ratio f__law_is_frac)
theorem le__law_is_ratio : ∀ ds st, Le st (runB 1 (m__law_is_ratio f__law_is_frac) ds st) (f__law_is_ratio ds st) := fun _ _ => .refl _
def f__law_is_ratios : FM := runB 2 (m__law_is_ratios f__law_is_ratio)
theorem le__law_is_ratios : ∀ ds st, Le st (runB 2 (m__law_is_ratios f__law_is_ratio) ds st) (f__law_is_ratios ds st) := fun _ _ => .refl _
def f__law_is_shares : FM := runB 1 (m__law_is_shares f__law_is_ratios f__law_total)
theorem le__law_is_shares : ∀ ds st, Le st (runB 1 (m__law_is_shares f__law_is_ratios f__law_total) ds st) (f__law_is_shares ds st) := fun _ _ => .refl _
def f__law_row : FM := runB 6 (m__law_row f__law_draw)
theorem le__law_row : ∀ ds st, Le st (runB 6 (m__law_row f__law_draw) ds st) (f__law_row ds st) := fun _ _ => .refl _
def f__law_chances : FM := runB 2 (m__law_chances f__law_f)
theorem le__law_chances : ∀ ds st, Le st (runB 2 (m__law_chances f__law_f) ds st) (f__law_chances ds st) := fun _ _ => .refl _
def f__law_shares : FM := runB 4 (m__law_shares f__law_chances f__law_row)
theorem le__law_shares : ∀ ds st, Le st (runB 4 (m__law_shares f__law_chances f__law_row) ds st) (f__law_shares ds st) := fun _ _ => .refl _
def f__law_view : FM := runB 5 (m__law_view f__law_shares)
theorem le__law_view : ∀ ds st, Le st (runB 5 (m__law_view f__law_shares) ds st) (f__law_view ds st) := fun _ _ => .refl _
def f__law_is_view : FM := runB 4 (m__law_is_view f__law_is_rows f__law_is_shares)
theorem le__law_is_view : ∀ ds st, Le st (runB 4 (m__law_is_view f__law_is_rows f__law_is_shares) ds st) (f__law_is_view ds st) := fun _ _ => .refl _
def f__law_through : FM := runB 7 (m__law_through f__law_total f__law_times)
theorem le__law_through : ∀ ds st, Le st (runB 7 (m__law_through f__law_total f__law_times) ds st) (f__law_through ds st) := fun _ _ => .refl _
def f__law_act_worth : FM := runB 4 (m__law_act_worth f__law_total f__law_times)
theorem le__law_act_worth : ∀ ds st, Le st (runB 4 (m__law_act_worth f__law_total f__law_times) ds st) (f__law_act_worth ds st) := fun _ _ => .refl _
def f__law_worth : FM := runB 5 (m__law_worth f__law_plus f__law_great f__law_act_worth)
theorem le__law_worth : ∀ ds st, Le st (runB 5 (m__law_worth f__law_plus f__law_great f__law_act_worth) ds st) (f__law_worth ds st) := fun _ _ => .refl _
def f__law_wide_view : FM := runB 10 (m__law_wide_view f__law_draw f__law_row f__law_rare f__law_chances)
theorem le__law_wide_view : ∀ ds st, Le st (runB 10 (m__law_wide_view f__law_draw f__law_row f__law_rare f__law_chances) ds st) (f__law_wide_view ds st) := fun _ _ => .refl _
def f__law_some_acts : FM := runB 8 (m__law_some_acts f__law_draw f__law_f f__law_pick)
theorem le__law_some_acts : ∀ ds st, Le st (runB 8 (m__law_some_acts f__law_draw f__law_f f__law_pick) ds st) (f__law_some_acts ds st) := fun _ _ => .refl _
def f__law_best_number : FM := runB 7 (m__law_best_number f__law_act_worth f__law_less)
theorem le__law_best_number : ∀ ds st, Le st (runB 7 (m__law_best_number f__law_act_worth f__law_less) ds st) (f__law_best_number ds st) := fun _ _ => .refl _
def f__law_worth_right : FM := runB 6 (m__law_worth_right f_worth_of f__law_is_frac f__law_worth f_best_acts f__law_best_number f__law_is_ints)
theorem le__law_worth_right : ∀ ds st, Le st (runB 6 (m__law_worth_right f_worth_of f__law_is_frac f__law_worth f_best_acts f__law_best_number f__law_is_ints) ds st) (f__law_worth_right ds st) := fun _ _ => .refl _
def f__law_through_right : FM := runB 3 (m__law_through_right f_through f__law_is_view f__law_through)
theorem le__law_through_right : ∀ ds st, Le st (runB 3 (m__law_through_right f_through f__law_is_view f__law_through) ds st) (f__law_through_right ds st) := fun _ _ => .refl _
def f__law_right_view : FM := runB 1 (m__law_right_view f__law_is_view)
theorem le__law_right_view : ∀ ds st, Le st (runB 1 (m__law_right_view f__law_is_view) ds st) (f__law_right_view ds st) := fun _ _ => .refl _
def f__law_view_judged : FM := runB 2 (m__law_view_judged f_is_view f__law_right_view)
theorem le__law_view_judged : ∀ ds st, Le st (runB 2 (m__law_view_judged f_is_view f__law_right_view) ds st) (f__law_view_judged ds st) := fun _ _ => .refl _
def f__law_grown : FM := runB 6 (m__law_grown)
theorem le__law_grown : ∀ ds st, Le st (runB 6 (m__law_grown) ds st) (f__law_grown ds st) := fun _ _ => .refl _
def f__law_spoilt_view : FM := runB 11 (m__law_spoilt_view f__law_draw f__law_f f__law_minus f__law_plus)
theorem le__law_spoilt_view : ∀ ds st, Le st (runB 11 (m__law_spoilt_view f__law_draw f__law_f f__law_minus f__law_plus) ds st) (f__law_spoilt_view ds st) := fun _ _ => .refl _
def f_law : FM := runB 15 (m_law f__law_begin f__law_draw f__law_wide_view f__law_view f__law_through f__law_through_right f_through f__law_some_acts f__law_worth_right f__law_less f_worth_of f__law_grown f__law_spoilt_view f__law_view_judged)
theorem le_law : ∀ ds st, Le st (runB 15 (m_law f__law_begin f__law_draw f__law_wide_view f__law_view f__law_through f__law_through_right f_through f__law_some_acts f__law_worth_right f__law_less f_worth_of f__law_grown f__law_spoilt_view f__law_view_judged) ds st) (f_law ds st) := fun _ _ => .refl _

theorem gcd_loop {st : Store} {g : EM Bool} {u : SM} {x y : Option D}
    (hg : ∀ (a b : Nat) c, g [x, y, some (.int a), some (.int b), c] st = .ok (decide (0 < b)) st)
    (hu : ∀ (a b : Nat) c, 0 < b → u [x, y, some (.int a), some (.int b), c] st = .nx [x, y, some (.int b), some (.int (a % b : Nat)), some (.int (a % b : Nat))] st) :
    ∀ (n a b : Nat) (c : Option D), b < n → ∃ c', whileN g u n [x, y, some (.int a), some (.int b), c] st = .nx [x, y, some (.int (Nat.gcd a b : Nat)), some (.int 0), c'] st
  | 0, a, b, c, h => absurd h (Nat.not_lt_zero _)
  | n + 1, a, b, c, h => by
    unfold whileN
    rw [hg, bindE_ok]
    by_cases hb : 0 < b
    · rw [decide_eq_true hb, if_pos rfl, hu a b c hb]
      obtain ⟨c', e⟩ := gcd_loop hg hu n b (a % b) (some (.int (a % b : Nat))) (Nat.lt_of_lt_of_le (Nat.mod_lt a hb) (by omega))
      refine ⟨c', ?_⟩
      rw [Nat.gcd_comm a b, Nat.gcd_rec b a, Nat.gcd_comm]
      exact e
    · have : b = 0 := by omega
      subst this
      rw [if_neg (by simp)]
      exact ⟨c, by rw [Nat.gcd_zero_right]; rfl⟩
theorem r_gcd {st : Store} {i j : Int} (h : j.natAbs < 2 ^ 9000) : f__law_gcd [.int i, .int j] st = .ok (.int (Nat.gcd i.natAbs j.natAbs : Nat)) st := by
  unfold f__law_gcd
  rw [runB_e]
  unfold m__law_gcd
  have hw : ∃ c', whileN (tBl (eBin oGt (eVar 3) (eC (.int 0)))) (sSeq (sSet 4 (eBin oMod (eCB fInt (aCons (eVar 2) aNil)) (eVar 3))) (sSeq (sSet 2 (eVar 3)) (sSet 3 (eVar 4)))) big [some (.int i), some (.int j), some (.int (i.natAbs : Nat)), some (.int (j.natAbs : Nat)), none] st = .nx [some (.int i), some (.int j), some (.int (Nat.gcd i.natAbs j.natAbs : Nat)), some (.int 0), c'] st := by
    refine gcd_loop (fun a b c => ?_) (fun a b c hb => ?_) big _ _ none (Nat.lt_of_lt_of_le h (le_big (k := 9000) (by decide) (Nat.le_refl _)))
    · simp
    · have om : okMod (a : Int) (b : Int) = true := okMod_of (by omega)
      have e : (a : Int).fmod (b : Int) = (a % b : Nat) := by
        rw [Int.fmod_eq_emod_of_nonneg _ (by omega)]
        rfl
      simp [om, e]
  obtain ⟨c', hw⟩ := hw
  simp [hw]

theorem r_is_int {st : Store} {i : Int} : f__law_is_int [.int i] st = .ok (.bl true) st := by
  simp [f__law_is_int, runB_e, m__law_is_int]

/-! draws -/
theorem r_begin {ns : List Int} (hl : ns.length ≤ 63) : ∃ st', f__law_begin [.rol (ns.map D.int)] [] = .ok (.ref 1) st' ∧ DS ns st' ∧ st'.length = 2 := by
  obtain ⟨ys, st1, e, ⟨h1, h2⟩, hl2⟩ := comp_inv (q := .fix (ns.map D.int)) (set := gN 1) (fe := eCB fInt (aCons (eVar 1) aNil)) (τ := [some (.rol (ns.map D.int)), none]) (fun acc s => acc = (ns.map D.int).take acc.length ∧ s = ([] : Store)) (fun _ _ _ => rfl) (ns.map D.int) [] [] ⟨rfl, rfl⟩ fun i d acc s hi ha hp => by
    obtain ⟨h1, rfl⟩ := hp
    refine ⟨_, rfl, d, [], ?_, ?_, rfl⟩
    · have : ∃ k, d = .int k := by
        rw [List.getElem?_map] at hi
        cases hz : ns[i]? with
        | none => simp [hz] at hi
        | some k => exact ⟨k, by simpa [hz] using hi.symm⟩
      obtain ⟨k, rfl⟩ := this
      simp [gN]
    · simp only [List.length_nil, Nat.zero_add] at ha
      rw [List.length_append, List.length_singleton, ha, List.take_succ, hi, ← ha, ← h1]
      rfl
  have hy : ys = ns.map D.int := by
    rw [h1, List.take_of_length_le]
    simp at hl2
    simp [hl2]
  subst hy h2
  refine ⟨[.lst (ns.map D.int), .lst [.ref 0, .int 0, .int 0, .int 7]], ?_, ⟨rfl, 0, 0, 7, by decide, rfl⟩, rfl⟩
  have e : compL (.fix (ns.map D.int)) (gN 1) tYes (eCB fInt (aCons (eVar 1) aNil)) (wipeD [some (.rol (ns.map D.int)), none] [1]) (ns.map D.int) [] [] = .ok (ns.map D.int) [] := e
  have hs : ns.length ≤ 16777216 := by omega
  simp [f__law_begin, runB_e, m__law_begin, lComp_e, lc1, hs, e]
theorem r_draw {ns : List Int} {st : Store} {many : Int} (H : DS ns st) (h0 : 0 < many) (h1 : many.natAbs.log2 < 9000) :
    ∃ v st', f__law_draw [.ref 1, .int many] st = .ok (.int v) st' ∧ 0 ≤ v ∧ v < many ∧ DS ns st' ∧ Fr st st' := by
  obtain ⟨c0, p, h, q, hp, c1⟩ := H
  have set1 : ∀ p' h' q' : Int, 0 ≤ p' → ∀ s, s = st ∨ (∃ ys, s = st.set 1 (.lst ys)) ∨ (∃ ys zs, s = (st.set 1 (.lst ys)).set 1 (.lst zs)) → DS ns (s.set 1 (.lst [.ref 0, .int p', .int h', .int q'])) ∧ Fr st (s.set 1 (.lst [.ref 0, .int p', .int h', .int q'])) := by
    intro p' h' q' hp' s hs
    have e : s.set 1 (.lst [.ref 0, .int p', .int h', .int q']) = st.set 1 (.lst [.ref 0, .int p', .int h', .int q']) := by
      rcases hs with rfl | ⟨ys, rfl⟩ | ⟨ys, zs, rfl⟩ <;> simp [List.set_set]
    rw [e]
    refine ⟨⟨by rw [lstAt_ne (by decide)]; exact c0, p', h', q', hp', lstAt_set c1⟩, by simp, fun n hn _ => ?_⟩
    rw [List.getElem?_set_ne (Ne.symm hn)]
  have od : ∀ i, okDiv i many = true := fun i => okDiv_of (by omega) h1
  have om : ∀ i, okMod i many = true := fun i => okMod_of (by omega)
  have b0 : ∀ i : Int, 0 ≤ i.fmod many := fun i => Int.fmod_nonneg_of_pos i h0
  have b1 : ∀ i : Int, i.fmod many < many := fun i => Int.fmod_lt_of_pos i h0
  unfold f__law_draw
  rw [runB_e]
  unfold m__law_draw
  by_cases hh : 0 < h
  · obtain ⟨d1, d2⟩ := set1 p (h.fdiv many) q hp st (.inl rfl)
    refine ⟨h.fmod many, _, ?_, b0 _, b1 _, d1, d2⟩
    have x2 : ixN 4 2 = some 2 := rfl
    simp [oIx_ref c1, hh, od, om, oSet_ref c1, x2]
  · -- the size of the script's number here
    have main : ∀ (size : Int) (c : Option D), (0 ≤ size) → ∃ v st', ((sSeq (sAugS oIAdd (eVar 0) (eC (.int 1)) (eC (.int 1)))
        (sSeq (sIf (tBl (eBin oGe (eVar 3) (eBin oMul (eC (.int 2)) (eBin oPow (eC (.int 10)) (eC (.int 18)))))) (sSeq (sSet 2 (eBin oMod (eCB fInt (aCons (eBin oDiv (eVar 3) (eC (.int 2))) aNil)) (eBin oShl (eC (.int 1)) (eC (.int 6000)))))
        (sSeq (sSub (eVar 0) (eC (.int 2)) (eBin oDiv (eVar 2) (eVar 1)))
        (sRet (eBin oMod (eCB fInt (aCons (eVar 2) aNil)) (eVar 1))))) sNil)
        (sSeq (sSub (eVar 0) (eC (.int 3)) (eBin oMod (eCB fInt (aCons (eBin oAdd (eBin oAdd (eBin oAdd (eBin oMul (eBin oIx (eVar 0) (eC (.int 3))) (eC (.int 48271))) (eBin oMul (eBin oMod (eCB fInt (aCons (eVar 3) aNil)) (eC (.int 2147483629))) (eC (.int 16807)))) (eBin oMul (eBin oIx (eVar 0) (eC (.int 1))) (eC (.int 69621)))) (eC (.int 11))) aNil)) (eC (.int 2147483647))))
        (sRet (eBin oMod (eCB fInt (aCons (eBin oDiv (eBin oIx (eVar 0) (eC (.int 3))) (eC (.int 16))) aNil)) (eVar 1)))))) [some (.ref 1), some (.int many), none, some (.int size), c] st).fin = .ok (.int v) st' ∧ 0 ≤ v ∧ v < many ∧ DS ns st' ∧ Fr st st' := by
      intro size c hs
      have x1 : ixN 4 1 = some 1 := rfl
      have x2 : ixN 4 2 = some 2 := rfl
      have x3 : ixN 4 3 = some 3 := rfl
      obtain ⟨st1, e1⟩ : ∃ st1, st1 = st.set 1 (.lst [.ref 0, .int (p + 1), .int h, .int q]) := ⟨_, rfl⟩
      have l1 : lstAt st1 1 = some [.ref 0, .int (p + 1), .int h, .int q] := by
        rw [e1]
        exact lstAt_set c1
      have d48 : okMul q 48271 = true := okMul_r (by decide)
      have d16 : ∀ i, okMul i 16807 = true := fun i => okMul_r (by decide)
      have d69 : ∀ i, okMul i 69621 = true := fun i => okMul_r (by decide)
      have m1 : ∀ i, okMod i 2147483629 = true := fun i => okMod_of (by decide)
      have m2 : ∀ i, okMod i 2147483647 = true := fun i => okMod_of (by decide)
      have v16 : ∀ i, okDiv i 16 = true := fun i => okDiv_of (by decide) (by decide)
      have v2 : ∀ i, okDiv i 2 = true := fun i => okDiv_of (by decide) (by decide)
      by_cases hz : 2000000000000000000 ≤ size
      · have p1 : okPow 10 18 = true := by decide
        have p2 : okMul 2 1000000000000000000 = true := okMul_r (by decide)
        have p3 : okPow 1 6000 = true := by decide
        obtain ⟨M, eM⟩ : ∃ M : Int, M = 2 ^ 6000 := ⟨_, rfl⟩
        have hM : M ≠ 0 := by
          have : (0 : Int) < 2 ^ 6000 := Int.pow_pos (by decide)
          omega
        have om2 : ∀ i, okMod i M = true := fun i => okMod_of hM
        obtain ⟨d1, d2⟩ := set1 (p + 1) (((size.fdiv 2).fmod M).fdiv many) q (by omega) st1 (.inr (.inl ⟨_, e1⟩))
        refine ⟨((size.fdiv 2).fmod M).fmod many, _, ?_, b0 _, b1 _, d1, d2⟩
        simp [oGetL_ref c1, oSet_ref c1, x1, x2, ← e1, hz, p1, p2, p3, v2, od, om, ← eM, om2, oSet_ref l1]
      · have p1 : okPow 10 18 = true := by decide
        have p2 : okMul 2 1000000000000000000 = true := okMul_r (by decide)
        obtain ⟨q', eq'⟩ : ∃ q', q' = (q * 48271 + size.fmod 2147483629 * 16807 + (p + 1) * 69621 + 11).fmod 2147483647 := ⟨_, rfl⟩
        obtain ⟨d1, d2⟩ := set1 (p + 1) h q' (by omega) st1 (.inr (.inl ⟨_, e1⟩))
        have l2 : lstAt (st1.set 1 (.lst [.ref 0, .int (p + 1), .int h, .int q'])) 1 = some [.ref 0, .int (p + 1), .int h, .int q'] := lstAt_set l1
        refine ⟨(q'.fdiv 16).fmod many, _, ?_, b0 _, b1 _, d1, d2⟩
        simp [oGetL_ref c1, oSet_ref c1, x1, x2, x3, ← e1, hz, p1, p2, v2, v16, od, om, m1, m2, d48, d16, d69, oIx_ref l1, oSet_ref l1, oIx_ref l2, ← eq']
    by_cases hp2 : p < ns.length
    · have hc : ∃ c : Int, atI (ns.map D.int) p = some (.int c) := by
        have hp3 : p.toNat < ns.length := by omega
        refine ⟨ns[p.toNat], ?_⟩
        have := atI_nat (xs := ns.map D.int) (j := p.toNat) (v := D.int ns[p.toNat]) (by simp [hp3])
        rwa [Int.toNat_of_nonneg hp] at this
      obtain ⟨c, hc⟩ := hc
      obtain ⟨v, st', e, r⟩ := main (2 * (c.natAbs : Nat) + (if c < 0 then 1 else 0)) (some (.int c)) (by split <;> omega)
      refine ⟨v, st', ?_, r⟩
      rw [← e]
      have k2 : okMul 2 (c.natAbs : Nat) = true := okMul_l (by decide)
      simp [oIx_ref c1, hh, oIx_ref c0, fLen_ref c0, hp2, hc, k2]
    · obtain ⟨v, st', e, r⟩ := main 0 none (by omega)
      refine ⟨v, st', ?_, r⟩
      rw [← e]
      simp [oIx_ref c1, hh, oIx_ref c0, fLen_ref c0, hp2]

theorem r_pick {ns : List Int} {st : Store} {m : Nat} {xs : List D} (H : DS ns st) (hx : lstAt st m = some xs) (hm : m ≠ 1) (h0 : 0 < xs.length) (h1 : xs.length < 2 ^ 60) :
    ∃ v st', f__law_pick [.ref 1, .ref m] st = .ok v st' ∧ v ∈ xs ∧ DS ns st' ∧ Fr st st' := by
  obtain ⟨v, s1, e, v0, v1, D1, F1⟩ := r_draw (many := (xs.length : Nat)) H (by omega) (by
    rw [Int.natAbs_natCast]
    have := log2_le h1
    omega)
  have hv : v.toNat < xs.length := by omega
  refine ⟨xs[v.toNat], s1, ?_, List.getElem_mem _, D1, F1⟩
  have ha : atI xs v = some xs[v.toNat] := by
    have := atI_nat (xs := xs) (j := v.toNat) (v := xs[v.toNat]) (by simp [hv])
    rwa [Int.toNat_of_nonneg v0] at this
  simp [f__law_pick, runB_e, m__law_pick, fLen_ref hx, e, oIx_ref (F1.lst hx hm), ha]

theorem r_rare {ns : List Int} {st : Store} {many : Int} (H : DS ns st) (h0 : 0 < many) (h1 : many.natAbs.log2 < 9000) :
    ∃ b st', f__law_rare [.ref 1, .int many] st = .ok (.bl b) st' ∧ DS ns st' ∧ Fr st st' := by
  obtain ⟨v, s1, e, v0, v1, D1, F1⟩ := r_draw H h0 h1
  have v2 : okDiv many 2 = true := okDiv_of (by decide) (by decide)
  exact ⟨decide (v = many.fdiv 2), s1, by simp [f__law_rare, runB_e, m__law_rare, e, v2], D1, F1⟩

/-- a draw, as a natural number -/
theorem r_drawN {ns : List Int} {st : Store} {many : Nat} (H : DS ns st) (h0 : 0 < many) (h1 : many < 2 ^ 60) :
    ∃ (v : Nat) (st' : Store), f__law_draw [.ref 1, .int (many : Nat)] st = .ok (.int (v : Nat)) st' ∧ v < many ∧ DS ns st' ∧ Fr st st' := by
  obtain ⟨v, s1, e, v0, v1, D1, F1⟩ := r_draw (many := (many : Nat)) H (by omega) (by
    rw [Int.natAbs_natCast]
    have := log2_le h1
    omega)
  refine ⟨v.toNat, s1, ?_, by omega, D1, F1⟩
  rw [Int.toNat_of_nonneg v0]
  exact e
theorem ixN_of {n j : Nat} (h : j < n) : ixN n (j : Nat) = some j := by
  unfold ixN
  rw [if_pos (by omega), if_pos (by simpa using h)]
  simp
theorem atI_of {xs : List D} {j : Nat} (h : j < xs.length) : atI xs (j : Nat) = some xs[j] := atI_nat (by simp [h])
theorem r_drawZ {ns : List Int} {st : Store} {many : Int} (H : DS ns st) (h0 : 0 < many) (h1 : many ≤ 1000) :
    ∃ v st', f__law_draw [.ref 1, .int many] st = .ok (.int v) st' ∧ 0 ≤ v ∧ v < many ∧ DS ns st' ∧ Fr st st' :=
  r_draw H h0 (Nat.lt_of_le_of_lt (log2_le (k := 10) (by omega)) (by decide))

/-- a fraction in lowest terms, of at most so many bits -/
structure FQ (k : Nat) (a b : Int) : Prop where
  pos : 0 < b
  cop : Nat.gcd a.natAbs b.natAbs = 1
  an : a.natAbs < 2 ^ k
  bn : b.natAbs < 2 ^ k
theorem FQ.up {k l : Nat} {a b : Int} (h : FQ k a b) (hl : k ≤ l) : FQ l a b := ⟨h.pos, h.cop, lt_up h.an hl, lt_up h.bn hl⟩
theorem FQ.rat {k : Nat} {n d : Int} (h : d ≠ 0) (hn : n.natAbs < 2 ^ k) (hd : d.natAbs < 2 ^ k) : FQ k (rn n d) (rd n d) :=
  ⟨rat_pos h, rat_cop h, Nat.lt_of_le_of_lt (rn_le h) hn, Nat.lt_of_le_of_lt (rd_le h) hd⟩
theorem r_ratio {n d : Int} {st : Store} {k : Nat} (h : d ≠ 0) (hb : d.natAbs < 2 ^ k) (hk : k ≤ 9000) : f_ratio [.int n, .int d] st = .ok (rat n d) st := by
  have o : ∀ i, okDiv i (com n d) = true := fun i => okDiv_com h hb hk
  unfold rat fr rn rd
  by_cases hd : d < 0
  · have e : com n d = -((Nat.gcd n.natAbs d.natAbs : Nat) : Int) := by unfold com; rw [if_pos hd]
    rw [e] at o
    simp [f_ratio, runB_e, m_ratio, h, hd, e, o]
  · have e : com n d = ((Nat.gcd n.natAbs d.natAbs : Nat) : Int) := by unfold com; rw [if_neg hd]
    rw [e] at o
    simp [f_ratio, runB_e, m_ratio, h, hd, e, o]
theorem r_f {n d : Int} {st : Store} {k : Nat} (h : d ≠ 0) (hb : d.natAbs < 2 ^ k) (hk : k ≤ 9000) : f__law_f [.int n, .int d] st = .ok (rat n d) st := by
  have o : ∀ i, okDiv i (com n d) = true := fun i => okDiv_com h hb hk
  have g : f__law_gcd [.int n, .int d] st = _ := r_gcd (lt_up hb hk)
  unfold rat fr rn rd
  by_cases hd : d < 0
  · have e : com n d = -((Nat.gcd n.natAbs d.natAbs : Nat) : Int) := by unfold com; rw [if_pos hd]
    rw [e] at o
    simp [f__law_f, runB_e, m__law_f, h, hd, e, o, g]
  · have e : com n d = ((Nat.gcd n.natAbs d.natAbs : Nat) : Int) := by unfold com; rw [if_neg hd]
    rw [e] at o
    simp [f__law_f, runB_e, m__law_f, h, hd, e, o, g]
section
variable {k l : Nat} {a b c e : Int} {st : Store}
theorem om {i j : Int} (h1 : i.natAbs < 2 ^ k) (h2 : j.natAbs < 2 ^ l) (h : k + l ≤ 9000) : okMul i j = true := okMul_of h1 h2 (by omega)
theorem ne2 {b e : Int} (hb : 0 < b) (he : 0 < e) : b * e ≠ 0 := Int.ne_of_gt (Int.mul_pos hb he)
end

/-! fractions as rational numbers -/
def qd (q : Rat) : D := fr q.num (q.den : Nat)
theorem den_ne {q : Rat} : ((q.den : Nat) : Int) ≠ 0 := by have := q.den_pos; omega
theorem qd_inj {x y : Rat} (h : qd x = qd y) : x = y := by
  unfold qd fr at h
  have h1 := D.tup.inj h
  have h2 := D.int.inj (List.cons.inj h1).1
  have h3 := D.int.inj (List.cons.inj (List.cons.inj h1).2).1
  exact Rat.ext h2 (by omega)
theorem rat_qd {n d : Int} (h : d ≠ 0) : rat n d = qd (Rat.divInt n d) := by
  obtain ⟨q, eq⟩ : ∃ q, q = Rat.divInt n d := ⟨_, rfl⟩
  have e := Rat.num_divInt_den q
  rw [eq, ← eq] at e
  have e2 : q.num * d = n * (q.den : Nat) := (Rat.divInt_eq_divInt_iff den_ne h).mp (by rw [Rat.num_divInt_den]; exact eq)
  have e3 := rat_cross (n := n) (d := d) h
  have e4 : rn n d * (q.den : Nat) = q.num * rd n d := by
    refine Int.eq_of_mul_eq_mul_right h ?_
    calc rn n d * (q.den : Nat) * d = (rn n d * d) * (q.den : Nat) := by ac_rfl
      _ = (n * rd n d) * (q.den : Nat) := by rw [e3]
      _ = (n * (q.den : Nat)) * rd n d := by ac_rfl
      _ = (q.num * d) * rd n d := by rw [e2]
      _ = _ := by ac_rfl
  have := low_eq (rat_pos h) (by have := q.den_pos; omega : (0 : Int) < (q.den : Nat)) (rat_cop h) (by rw [Int.natAbs_natCast]; exact q.reduced) e4
  unfold rat qd
  rw [← eq, this.1, this.2]
/-- of so many bits -/
structure QB (k : Nat) (q : Rat) : Prop where
  an : q.num.natAbs < 2 ^ k
  bn : q.den < 2 ^ k
theorem QB.up {k l : Nat} {q : Rat} (h : QB k q) (hl : k ≤ l) : QB l q := ⟨lt_up h.an hl, lt_up h.bn hl⟩
theorem QB.fq {k : Nat} {q : Rat} (h : QB k q) : FQ k q.num (q.den : Nat) := ⟨by have := q.den_pos; omega, by rw [Int.natAbs_natCast]; exact q.reduced, h.an, by rw [Int.natAbs_natCast]; exact h.bn⟩
theorem QB.bi {k : Nat} {q : Rat} (h : QB k q) : ((q.den : Nat) : Int).natAbs < 2 ^ k := by rw [Int.natAbs_natCast]; exact h.bn
theorem QB.of {k : Nat} {n d : Int} (h : d ≠ 0) (hn : n.natAbs < 2 ^ k) (hd : d.natAbs < 2 ^ k) : QB k (Rat.divInt n d) := by
  have e := rat_qd (n := n) h
  unfold rat qd fr at e
  have h1 := D.tup.inj e
  have h2 := D.int.inj (List.cons.inj h1).1
  have h3 := D.int.inj (List.cons.inj (List.cons.inj h1).2).1
  refine ⟨by rw [← h2]; exact Nat.lt_of_le_of_lt (rn_le h) hn, ?_⟩
  have := Nat.lt_of_le_of_lt (rd_le (n := n) h) hd
  rw [h3, Int.natAbs_natCast] at this
  exact this
theorem QB.sub {k l : Nat} {x y : Rat} (hx : QB k x) (hy : QB l y) : QB (k + l + 1) (x - y) := by
  rw [Rat.sub_def', ← Rat.divInt_ofNat]
  refine .of (by have := x.den_pos; have := y.den_pos; have := Nat.mul_pos x.den_pos y.den_pos; omega) (sub_lt (mul_lt hx.an hy.bi) (by rw [Nat.add_comm k l]; exact mul_lt hy.an hx.bi)) (lt_up (k := k + l) ?_ (by omega))
  rw [Int.natAbs_natCast, Nat.pow_add]
  exact Nat.mul_lt_mul'' hx.bn hy.bn
theorem QB.add {k l : Nat} {x y : Rat} (hx : QB k x) (hy : QB l y) : QB (k + l + 1) (x + y) := by
  rw [Rat.add_def', ← Rat.divInt_ofNat]
  refine .of (by have := x.den_pos; have := y.den_pos; have := Nat.mul_pos x.den_pos y.den_pos; omega) (add_lt (mul_lt hx.an hy.bi) (by rw [Nat.add_comm k l]; exact mul_lt hy.an hx.bi)) (lt_up (k := k + l) ?_ (by omega))
  rw [Int.natAbs_natCast, Nat.pow_add]
  exact Nat.mul_lt_mul'' hx.bn hy.bn
theorem QB.mul {k l : Nat} {x y : Rat} (hx : QB k x) (hy : QB l y) : QB (k + l) (x * y) := by
  rw [Rat.mul_def', ← Rat.divInt_ofNat]
  refine .of (by have := x.den_pos; have := y.den_pos; have := Nat.mul_pos x.den_pos y.den_pos; omega) (mul_lt hx.an hy.an) ?_
  rw [Int.natAbs_natCast, Nat.pow_add]
  exact Nat.mul_lt_mul'' hx.bn hy.bn
theorem num_ne {y : Rat} (h : y ≠ 0) : y.num ≠ 0 := fun e => h (Rat.num_eq_zero.mp e)
theorem div_eq {x y : Rat} : x / y = Rat.divInt (x.num * (y.den : Nat)) ((x.den : Nat) * y.num) := by
  rw [Rat.div_def, Rat.inv_def]
  have := Rat.num_divInt_den x
  conv => lhs; lhs; rw [← this]
  rw [Rat.divInt_mul_divInt]
theorem QB.div {k l : Nat} {x y : Rat} (hx : QB k x) (hy : QB l y) (h : y ≠ 0) : QB (k + l) (x / y) := by
  rw [div_eq]
  exact .of (Int.mul_ne_zero den_ne (num_ne h)) (mul_lt hx.an hy.bi) (mul_lt hx.bi hy.an)
theorem r_ratioQ {n d : Int} {st : Store} {k : Nat} (h : d ≠ 0) (hb : d.natAbs < 2 ^ k) (hk : k ≤ 9000) : f_ratio [.int n, .int d] st = .ok (qd (Rat.divInt n d)) st := by
  rw [← rat_qd h]
  exact r_ratio h hb hk
theorem r_fQ {n d : Int} {st : Store} {k : Nat} (h : d ≠ 0) (hb : d.natAbs < 2 ^ k) (hk : k ≤ 9000) : f__law_f [.int n, .int d] st = .ok (qd (Rat.divInt n d)) st := by
  rw [← rat_qd h]
  exact r_f h hb hk
theorem lt_dec {x y : Rat} : decide (x.num * (y.den : Nat) < y.num * (x.den : Nat)) = decide (x < y) := by
  have := Rat.lt_iff x y
  exact decide_eq_decide.mpr this.symm
theorem qd_tup {x : Rat} : qd x = .tup [.int x.num, .int (x.den : Nat)] := rfl
theorem eq_qd {x y : Rat} {st : Store} : oEq (qd x) (qd y) st = .ok (.bl (decide (x = y))) st := by
  have e : ([D.int x.num, D.int (x.den : Nat)] = [D.int y.num, D.int (y.den : Nat)]) = (x = y) := propext ⟨fun h => qd_inj (congrArg D.tup h), fun h => by rw [h]⟩
  rw [qd_tup, qd_tup, oEq_tup (by simp) (by simp)]
  simp only [e]
theorem ne_qd {x y : Rat} {st : Store} : oNe (qd x) (qd y) st = .ok (.bl (!(decide (x = y)))) st := by
  have e : ([D.int x.num, D.int (x.den : Nat)] = [D.int y.num, D.int (y.den : Nat)]) = (x = y) := propext ⟨fun h => qd_inj (congrArg D.tup h), fun h => by rw [h]⟩
  rw [qd_tup, qd_tup, oNe_tup (by simp) (by simp)]
  simp only [e]
theorem one_qd : D.tup [.int 1, .int 1] = qd 1 := rfl
theorem zero_qd : D.tup [.int 0, .int 1] = qd 0 := rfl

theorem r_plusQ {k l : Nat} {x y : Rat} {st : Store} (hx : QB k x) (hy : QB l y) (hk : k + l ≤ 9000) : f_plus [qd x, qd y] st = .ok (qd (x + y)) st := by
  have o1 := om hx.an hy.bi (by omega)
  have o2 := om hy.an hx.bi (by omega)
  have o3 := om hx.bi hy.bi (by omega)
  by_cases he : x.den = y.den
  · have z := r_ratioQ (st := st) (n := x.num + y.num) (d := (x.den : Nat)) den_ne hx.bi (by omega)
    have e : Rat.divInt (x.num + y.num) (x.den : Nat) = x + y := by
      have h1 := Rat.num_divInt_den x
      have h2 := Rat.num_divInt_den y
      rw [← he] at h2
      rw [Rat.divInt_eq_div] at h1 h2 ⊢
      rw [Rat.intCast_add]
      have hd : (((x.den : Nat) : Int) : Rat) ≠ 0 := fun e => den_ne (Rat.intCast_eq_zero_iff.mp e)
      obtain ⟨a, ha⟩ : ∃ a : Rat, a = (((x.den : Nat) : Int) : Rat) := ⟨_, rfl⟩
      rw [← ha] at h1 h2 hd ⊢
      rw [← h1, ← h2]
      grind
    rw [e] at z
    rw [qd_tup] at z
    simp [f_plus, runB_e, m_plus, qd_tup, ← he, z]
  · have z := r_ratioQ (st := st) (n := x.num * (y.den : Nat) + y.num * (x.den : Nat)) (d := (x.den : Nat) * (y.den : Nat)) (Int.mul_ne_zero den_ne den_ne) (mul_lt hx.bi hy.bi) hk
    rw [← Int.natCast_mul, Rat.divInt_ofNat, ← Rat.add_def', Int.natCast_mul] at z
    have he' : ¬ ((x.den : Int) = (y.den : Int)) := by omega
    rw [qd_tup] at z
    simp [f_plus, runB_e, m_plus, qd_tup, o1, o2, o3, he, he', z]

theorem r_timesQ {k l : Nat} {x y : Rat} {st : Store} (hx : QB k x) (hy : QB l y) (hk : k + l ≤ 9000) : f_times [qd x, qd y] st = .ok (qd (x * y)) st := by
  have o1 := om hx.an hy.an (by omega)
  have o2 := om hx.bi hy.bi (by omega)
  have z := r_ratioQ (st := st) (n := x.num * y.num) (d := (x.den : Nat) * (y.den : Nat)) (Int.mul_ne_zero den_ne den_ne) (mul_lt hx.bi hy.bi) hk
  rw [← Int.natCast_mul, Rat.divInt_ofNat, ← Rat.mul_def', Int.natCast_mul] at z
  rw [qd_tup] at z
  simp [f_times, runB_e, m_times, qd_tup, o1, o2, z]

theorem r_belowQ {k l : Nat} {x y : Rat} {st : Store} (hx : QB k x) (hy : QB l y) (hk : k + l ≤ 9000) : f_is_below [qd x, qd y] st = .ok (.bl (decide (x < y))) st := by
  have o1 := om hx.an hy.bi (by omega)
  have o2 := om hy.an hx.bi (by omega)
  rw [← lt_dec]
  simp [f_is_below, runB_e, m_is_below, qd_tup, o1, o2]

theorem r_llessQ {k l : Nat} {x y : Rat} {st : Store} (hx : QB k x) (hy : QB l y) (hk : k + l ≤ 9000) : f__law_less [qd x, qd y] st = .ok (.bl (decide (x < y))) st := by
  have o1 := om hx.an hy.bi (by omega)
  have o2 := om hy.an hx.bi (by omega)
  rw [← lt_dec]
  simp [f__law_less, runB_e, m__law_less, qd_tup, o1, o2]
theorem r_is_fracQ {k : Nat} {x : Rat} {st : Store} (hx : QB k x) (hk : k ≤ 8000) : f__law_is_frac [qd x] st = .ok (.bl true) st := by
  have g : f__law_gcd [.int x.num, .int (x.den : Nat)] st = _ := r_gcd (lt_up hx.bi (by omega))
  rw [Int.natAbs_natCast, show x.num.natAbs.gcd x.den = 1 from x.reduced] at g
  have h1 : (1 : Int) ≤ (x.den : Nat) := by have := x.den_pos; omega
  simp [f__law_is_frac, runB_e, m__law_is_frac, qd_tup, r_is_int, g, h1]
/-- the greatest -/
def gmax (x : Rat) (l : List Rat) : Rat := l.foldl (fun m p => if m < p then p else m) x
theorem r_lgreatQ {k m : Nat} {x : Rat} {l : List Rat} {st : Store} (hm : lstAt st m = some ((x :: l).map qd)) (hx : ∀ p ∈ x :: l, QB k p) (hk : k ≤ 4000) : f__law_great [.ref m] st = .ok (qd (gmax x (x :: l))) st := by
  have main := for_fold (q := .cell m ((x :: l).map qd)) (set := gN 2) (u := sIf (tVal (eCall 2 f__law_less (aCons (eVar 1) (aCons (eVar 2) aNil)))) (sSet 1 (eVar 2)) sNil) (st := st) (by simp [Sq.chk, hm]) qd (fun m p => if m < p then p else m) (fun b t => [some (.ref m), some (qd b), t]) (fun b => QB k b) (x :: l) x none (hx x (List.mem_cons_self ..)) (fun b t a ha hb => by
    have h1 := hx a ha
    refine ⟨by split <;> assumption, [some (.ref m), some (qd b), some (qd a)], rfl, ?_⟩
    have h2 := r_llessQ (st := st) hb h1 (by omega)
    by_cases h : b < a
    · rw [decide_eq_true h] at h2; simp [h2, if_pos h]
    · rw [decide_eq_false h] at h2; simp [h2, if_neg h])
  obtain ⟨⟨t', e⟩, _⟩ := main
  obtain ⟨L, eL⟩ : ∃ L, L = (x :: l).map qd := ⟨_, rfl⟩
  have h0 : atI L 0 = some (qd x) := by rw [eL, List.map_cons, atI_0]
  rw [← eL] at e hm
  unfold f__law_great
  rw [runB_e]
  unfold m__law_great
  simp [sFor_e, oIx_ref hm, h0, dSq_ref hm, List.replicate, e]
  simp [gmax]

/-! the law's own operations -/
theorem r_lplusQ {k l : Nat} {x y : Rat} {st : Store} (hx : QB k x) (hy : QB l y) (hk : k + l ≤ 9000) : f__law_plus [qd x, qd y] st = .ok (qd (x + y)) st := by
  have o1 := om hx.an hy.bi (by omega)
  have o2 := om hy.an hx.bi (by omega)
  have o3 := om hx.bi hy.bi (by omega)
  have z := r_fQ (st := st) (n := x.num * (y.den : Nat) + y.num * (x.den : Nat)) (d := (x.den : Nat) * (y.den : Nat)) (Int.mul_ne_zero den_ne den_ne) (mul_lt hx.bi hy.bi) hk
  rw [← Int.natCast_mul, Rat.divInt_ofNat, ← Rat.add_def', Int.natCast_mul] at z
  rw [qd_tup] at z
  simp [f__law_plus, runB_e, m__law_plus, qd_tup, o1, o2, o3, z]
theorem r_lminusQ {k l : Nat} {x y : Rat} {st : Store} (hx : QB k x) (hy : QB l y) (hk : k + l ≤ 9000) : f__law_minus [qd x, qd y] st = .ok (qd (x - y)) st := by
  have o1 := om hx.an hy.bi (by omega)
  have o2 := om hy.an hx.bi (by omega)
  have o3 := om hx.bi hy.bi (by omega)
  have z := r_fQ (st := st) (n := x.num * (y.den : Nat) - y.num * (x.den : Nat)) (d := (x.den : Nat) * (y.den : Nat)) (Int.mul_ne_zero den_ne den_ne) (mul_lt hx.bi hy.bi) hk
  rw [← Int.natCast_mul, Rat.divInt_ofNat, ← Rat.sub_def', Int.natCast_mul] at z
  rw [qd_tup] at z
  simp [f__law_minus, runB_e, m__law_minus, qd_tup, o1, o2, o3, z]
theorem r_ltimesQ {k l : Nat} {x y : Rat} {st : Store} (hx : QB k x) (hy : QB l y) (hk : k + l ≤ 9000) : f__law_times [qd x, qd y] st = .ok (qd (x * y)) st := by
  have o1 := om hx.an hy.an (by omega)
  have o2 := om hx.bi hy.bi (by omega)
  have z := r_fQ (st := st) (n := x.num * y.num) (d := (x.den : Nat) * (y.den : Nat)) (Int.mul_ne_zero den_ne den_ne) (mul_lt hx.bi hy.bi) hk
  rw [← Int.natCast_mul, Rat.divInt_ofNat, ← Rat.mul_def', Int.natCast_mul] at z
  rw [qd_tup] at z
  simp [f__law_times, runB_e, m__law_times, qd_tup, o1, o2, z]

/-! sums by number -/
def sumR : Nat → (Nat → Rat) → Rat
  | 0, _ => 0
  | n + 1, f => sumR n f + f n
theorem sumR_congr {n : Nat} {f g : Nat → Rat} (h : ∀ i, i < n → f i = g i) : sumR n f = sumR n g := by
  induction n with
  | zero => rfl
  | succ n ih => rw [sumR, sumR, ih fun i hi => h i (by omega), h n (by omega)]
theorem sumR_add {n : Nat} {f g : Nat → Rat} : sumR n (fun i => f i + g i) = sumR n f + sumR n g := by
  induction n with
  | zero => exact (Rat.add_zero 0).symm
  | succ n ih => rw [sumR, sumR, sumR, ih]; grind
theorem sumR_mul {n : Nat} {f : Nat → Rat} {c : Rat} : sumR n (fun i => c * f i) = c * sumR n f := by
  induction n with
  | zero => exact (Rat.mul_zero c).symm
  | succ n ih => rw [sumR, sumR, ih]; grind
theorem sumR_mulr {n : Nat} {f : Nat → Rat} {c : Rat} : sumR n (fun i => f i * c) = sumR n f * c := by
  induction n with
  | zero => exact (Rat.zero_mul c).symm
  | succ n ih => rw [sumR, sumR, ih]; grind
theorem sumR_zero {n : Nat} : sumR n (fun _ => 0) = 0 := by
  induction n with
  | zero => rfl
  | succ n ih => rw [sumR, ih]; exact Rat.add_zero 0
theorem sumR_swap {n m : Nat} {f : Nat → Nat → Rat} : sumR n (fun i => sumR m fun j => f i j) = sumR m (fun j => sumR n fun i => f i j) := by
  induction n with
  | zero => exact sumR_zero.symm
  | succ n ih =>
    have : (fun j => sumR (n + 1) fun i => f i j) = fun j => sumR n (fun i => f i j) + f n j := rfl
    rw [sumR, ih, this, sumR_add]
theorem sumR_le {n : Nat} {f g : Nat → Rat} (h : ∀ i, i < n → f i ≤ g i) : sumR n f ≤ sumR n g := by
  induction n with
  | zero => exact Rat.le_refl
  | succ n ih =>
    have h1 := ih fun i hi => h i (by omega)
    have h2 := h n (by omega)
    rw [sumR, sumR]
    grind
theorem sumR_nn {n : Nat} {f : Nat → Rat} (h : ∀ i, i < n → 0 ≤ f i) : 0 ≤ sumR n f := by
  have := sumR_le (f := fun _ => 0) h
  rwa [sumR_zero] at this
theorem sumR_one {n : Nat} {f : Nat → Rat} (h : ∀ i, i < n → 0 ≤ f i) {i : Nat} (hi : i < n) : f i ≤ sumR n f := by
  induction n with
  | zero => omega
  | succ n ih =>
    rw [sumR]
    have h1 := sumR_nn (n := n) fun i hi => h i (by omega)
    have h2 := h n (by omega)
    by_cases e : i = n
    · rw [e]; grind
    · have := ih (fun i hi => h i (by omega)) (by omega)
      grind
theorem sumR_qb {K n : Nat} {f : Nat → Rat} (h : ∀ i, i < n → QB K (f i)) : QB ((K + 1) * n + 1) (sumR n f) := by
  induction n with
  | zero => exact (⟨by decide, by decide⟩ : QB 1 (0 : Rat)).up (by omega)
  | succ n ih =>
    rw [sumR]
    have := (ih fun i hi => h i (by omega)).add (h n (by omega))
    exact this.up (by rw [Nat.mul_succ]; omega)
def rws (l : List Rat) : D := .tup (l.map qd)
/-- a loop that adds up -/
theorem for_sum {q : Sq} {set : D → Sl → Option Sl} {u : SM} {st : Store} (hq : q.chk st = true) (f : Nat → Rat) (E : Rat → Option D → Sl) (xs : List D) (t : Option D)
    (hs : ∀ i t d, xs[i]? = some d → ∃ τ1, set d (E (sumR i f) t) = some τ1 ∧ ∃ t', u τ1 st = .nx (E (sumR (i + 1) f) t') st) : ∃ t', forL q set u xs (E 0 t) st = .nx (E (sumR xs.length f) t') st := by
  obtain ⟨τ', st', e, ⟨t', rfl⟩, rfl⟩ := for_inv (q := q) (set := set) (u := u) (fun k τ s => (∃ t, τ = E (sumR k f) t) ∧ s = st) (fun _ _ _ h => by rw [h.2]; exact hq) xs 0 (E 0 t) st ⟨⟨t, rfl⟩, rfl⟩ (by
    intro i d τ s hi hp
    obtain ⟨⟨t, rfl⟩, rfl⟩ := hp
    rw [Nat.zero_add]
    obtain ⟨τ1, e1, t', e2⟩ := hs i t d hi
    exact ⟨τ1, e1, _, _, .inl e2, ⟨t', rfl⟩, rfl⟩)
  rw [Nat.zero_add] at e
  exact ⟨t', e⟩
/-- the numbers of a list -/
theorem rangeR {α : Type} {g : α → D} {f : Nat → α} {n i : Nat} {d : D} (h : ((List.range n).map fun k => g (f k))[i]? = some d) : i < n ∧ d = g (f i) := by
  rw [List.getElem?_map] at h
  by_cases hi : i < n
  · rw [List.getElem?_range hi] at h
    exact ⟨hi, (Option.some.inj h).symm⟩
  · rw [List.getElem?_eq_none (by simp; omega)] at h
    cases h

def itup (cs : List Int) : D := .tup (cs.map D.int)

/-- a loop that returns False at the first that fails -/
theorem for_all {α : Type} {q : Sq} {set : D → Sl → Option Sl} {u : SM} {st : Store} (hq : q.chk st = true) (g : α → D) (p : α → Bool) (I : Sl → Prop) : ∀ (xs : List α) (τ : Sl), I τ →
    (∀ a ∈ xs, ∀ τ, I τ → ∃ τ1, set (g a) τ = some τ1 ∧ (p a = true → ∃ τ2, u τ1 st = .nx τ2 st ∧ I τ2) ∧ (p a = false → u τ1 st = .rt (.bl false) st)) →
    (xs.all p = true ∧ ∃ τ', forL q set u (xs.map g) τ st = .nx τ' st ∧ I τ') ∨ (xs.all p = false ∧ forL q set u (xs.map g) τ st = .rt (.bl false) st)
  | [], τ, h0, _ => .inl ⟨rfl, τ, forL_nil hq, h0⟩
  | a :: xs, τ, h0, hs => by
    obtain ⟨τ1, e1, h1, h2⟩ := hs a (List.mem_cons_self ..) τ h0
    cases hp : p a with
    | true =>
      obtain ⟨τ2, e2, h3⟩ := h1 hp
      rcases for_all hq g p I xs τ2 h3 fun b hb => hs b (List.mem_cons_of_mem _ hb) with ⟨ha, τ', e3, h4⟩ | ⟨ha, e3⟩
      · exact .inl ⟨by rw [List.all_cons, hp, ha]; rfl, τ', by rw [List.map_cons, forL_nx hq e1 e2, e3], h4⟩
      · exact .inr ⟨by rw [List.all_cons, hp, ha]; rfl, by rw [List.map_cons, forL_nx hq e1 e2, e3]⟩
    | false => exact .inr ⟨by rw [List.all_cons, hp]; rfl, by rw [List.map_cons, forL_rt hq e1 (h2 hp)]⟩
theorem ch_le {fa fb fc : EM D} {τ : Sl} {st : Store} {a b c : Int} (ha : fa τ st = .ok (.int a) st) (hb : fb τ st = .ok (.int b) st) (hc : fc τ st = .ok (.int c) st) : eChain oLe oLe fa fb fc τ st = .ok (.bl (decide (a ≤ b) && decide (b ≤ c))) st := by
  by_cases h : a ≤ b <;> simp [ha, hb, hc, oLe, h]
theorem ch_lt {fa fb fc : EM D} {τ : Sl} {st : Store} {a b c : Int} (ha : fa τ st = .ok (.int a) st) (hb : fb τ st = .ok (.int b) st) (hc : fc τ st = .ok (.int c) st) : eChain oLe oLt fa fb fc τ st = .ok (.bl (decide (a ≤ b) && decide (b < c))) st := by
  by_cases h : a ≤ b <;> simp [ha, hb, hc, oLe, oLt, h]
theorem gAllB_map {α : Type} {f : α → Bool} {xs : List α} {st : Store} : gAllB (xs.map fun a => D.bl (f a)) st = .ok (.bl (xs.all f)) st := by
  have := gAllB_bls (bs := xs.map f) (st := st)
  rw [List.map_map, List.all_map] at this
  exact this

section
variable {st : Store}
theorem r_ltotal {K n m : Nat} {f : Nat → Rat} (hm : lstAt st m = some ((List.range n).map fun k => qd (f k))) (hf : ∀ i, i < n → QB K (f i)) (hb : (K + 1) * n + 1 + K ≤ 9000) : f__law_total [.ref m] st = .ok (qd (sumR n f)) st := by
  obtain ⟨X, eX⟩ : ∃ X, X = (List.range n).map fun k => qd (f k) := ⟨_, rfl⟩
  have lX : X.length = n := by rw [eX]; simp
  rw [← eX] at hm
  obtain ⟨t', e⟩ := for_sum (q := .cell m X) (set := gN 2) (u := (sSet 1 (eCall 2 f__law_plus (aCons (eVar 1) (aCons (eVar 2) aNil))))) (st := st) (by simp [Sq.chk, hm]) f (fun b t => [some (.ref m), some (qd b), t]) X none (fun i t d hi => by
    obtain ⟨hi2, rfl⟩ := rangeR (eX ▸ hi)
    refine ⟨[some (.ref m), some (qd (sumR i f)), some (qd (f i))], rfl, some (qd (f i)), ?_⟩
    have q1 := sumR_qb (n := i) fun j hj => hf j (by omega)
    have : (K + 1) * i ≤ (K + 1) * n := Nat.mul_le_mul_left _ (by omega)
    have z := r_lplusQ (st := st) q1 (hf i hi2) (by omega)
    simp [z, sumR])
  rw [lX] at e
  unfold f__law_total
  rw [runB_e]
  unfold m__law_total
  simp [sFor_e, dSq_ref hm, List.replicate, zero_qd, e]
theorem r_ltotalT {K n : Nat} {f : Nat → Rat} (hf : ∀ i, i < n → QB K (f i)) (hb : (K + 1) * n + 1 + K ≤ 9000) : f__law_total [.tup ((List.range n).map fun k => qd (f k))] st = .ok (qd (sumR n f)) st := by
  obtain ⟨X, eX⟩ : ∃ X, X = (List.range n).map fun k => qd (f k) := ⟨_, rfl⟩
  have lX : X.length = n := by rw [eX]; simp
  rw [← eX]
  obtain ⟨t', e⟩ := for_sum (q := .fix X) (set := gN 2) (u := (sSet 1 (eCall 2 f__law_plus (aCons (eVar 1) (aCons (eVar 2) aNil))))) (st := st) rfl f (fun b t => [some (.tup X), some (qd b), t]) X none (fun i t d hi => by
    obtain ⟨hi2, rfl⟩ := rangeR (eX ▸ hi)
    refine ⟨[some (.tup X), some (qd (sumR i f)), some (qd (f i))], rfl, some (qd (f i)), ?_⟩
    have q1 := sumR_qb (n := i) fun j hj => hf j (by omega)
    have : (K + 1) * i ≤ (K + 1) * n := Nat.mul_le_mul_left _ (by omega)
    have z := r_lplusQ (st := st) q1 (hf i hi2) (by omega)
    simp [z, sumR])
  rw [lX] at e
  unfold f__law_total
  rw [runB_e]
  unfold m__law_total
  simp [sFor_e, List.replicate, zero_qd, e]
theorem r_totalT {K n : Nat} {f : Nat → Rat} (hf : ∀ i, i < n → QB K (f i)) (hb : (K + 1) * n + 1 + K ≤ 9000) : f_total [.tup ((List.range n).map fun k => qd (f k))] st = .ok (qd (sumR n f)) st := by
  obtain ⟨X, eX⟩ : ∃ X, X = (List.range n).map fun k => qd (f k) := ⟨_, rfl⟩
  have lX : X.length = n := by rw [eX]; simp
  rw [← eX]
  obtain ⟨t', e⟩ := for_sum (q := .fix X) (set := gN 2) (u := (sSet 1 (eCall 2 f_plus (aCons (eVar 1) (aCons (eVar 2) aNil))))) (st := st) rfl f (fun b t => [some (.tup X), some (qd b), t]) X none (fun i t d hi => by
    obtain ⟨hi2, rfl⟩ := rangeR (eX ▸ hi)
    refine ⟨[some (.tup X), some (qd (sumR i f)), some (qd (f i))], rfl, some (qd (f i)), ?_⟩
    have q1 := sumR_qb (n := i) fun j hj => hf j (by omega)
    have : (K + 1) * i ≤ (K + 1) * n := Nat.mul_le_mul_left _ (by omega)
    have z := r_plusQ (st := st) q1 (hf i hi2) (by omega)
    simp [z, sumR])
  rw [lX] at e
  have hz : q_ZERO = qd 0 := rfl
  unfold f_total
  rw [runB_e]
  unfold m_total
  rw [hz]
  simp [sFor_e, List.replicate, e]
end

/-! rows of pairs, looked at -/
def isR (p : Int × Int) : Bool := decide (1 ≤ p.2) && decide (Nat.gcd p.1.natAbs p.2.natAbs = 1) && decide (0 ≤ p.1)
def frp (p : Int × Int) : D := fr p.1 p.2
def rp (p : Int × Int) : Rat := Rat.divInt p.1 p.2
def rpn (ps : List (Int × Int)) (i : Nat) : Rat := rp (ps.getD i (0, 1))
def chOk (ps : List (Int × Int)) : Bool := ps.all isR && (decide (0 < ps.length) && decide (sumR ps.length (rpn ps) = 1))
/-- small pairs -/
structure Sm (ps : List (Int × Int)) : Prop where
  b : ∀ p ∈ ps, p.1.natAbs < 2 ^ 600 ∧ p.2.natAbs < 2 ^ 600
  l : ps.length ≤ 8
theorem frq {p : Int × Int} (h : isR p = true) : frp p = qd (rp p) := by
  unfold isR at h
  simp only [Bool.and_eq_true, decide_eq_true_eq] at h
  have h0 : p.2 ≠ 0 := by omega
  have := low_eq (rat_pos h0) (by omega : 0 < p.2) (rat_cop h0) h.1.2 (rat_cross (n := p.1) h0)
  unfold rp
  rw [← rat_qd h0]
  unfold rat frp
  rw [this.1, this.2]
theorem rp_qb {p : Int × Int} (h : isR p = true) (h1 : p.1.natAbs < 2 ^ 600) (h2 : p.2.natAbs < 2 ^ 600) : QB 600 (rp p) := by
  unfold isR at h
  simp only [Bool.and_eq_true, decide_eq_true_eq] at h
  exact .of (by omega) h1 h2
theorem map_range {α β : Type} (g : α → β) (z : α) (xs : List α) : xs.map g = (List.range xs.length).map fun k => g (xs.getD k z) := by
  refine List.ext_getElem (by simp) fun i h1 h2 => ?_
  simp at h1
  simp [h1]
theorem getD_mem {α : Type} {xs : List α} {i : Nat} {z : α} (h : i < xs.length) : xs.getD i z ∈ xs := by
  rw [List.getD_eq_getElem?_getD, List.getElem?_eq_getElem h]
  exact List.getElem_mem h
section
variable {st : Store} {a b : Int}
theorem v_is_frac (h : b.natAbs < 2 ^ 600) : f__law_is_frac [fr a b] st = .ok (.bl (decide (1 ≤ b) && decide (Nat.gcd a.natAbs b.natAbs = 1))) st := by
  have g : f__law_gcd [.int a, .int b] st = _ := r_gcd (lt_up h (by decide))
  unfold f__law_is_frac
  rw [runB_e]
  unfold m__law_is_frac
  by_cases p : 1 ≤ b
  · have p := eq_true p
    simp [r_is_int, p, g]
    omega
  · have p := eq_false p
    simp [r_is_int, p]
theorem v_lis_ratio (h : b.natAbs < 2 ^ 600) : f__law_is_ratio [fr a b] st = .ok (.bl (isR (a, b))) st := by
  have g := v_is_frac (st := st) (a := a) h
  unfold f__law_is_ratio
  rw [runB_e]
  unfold m__law_is_ratio isR
  cases hx : (decide (1 ≤ b) && decide (Nat.gcd a.natAbs b.natAbs = 1)) with
  | false =>
    rw [hx] at g
    simp [g, hx]
  | true =>
    rw [hx] at g
    simp [g, hx]
theorem v_is_fraction : f_is_fraction [fr a b] st = .ok (.bl (decide (1 ≤ b) && decide (Nat.gcd a.natAbs b.natAbs = 1))) st := by
  unfold f_is_fraction
  rw [runB_e]
  unfold m_is_fraction
  have as : ∀ s, ofA (gT 2 (gCs 1 (gCs 2 gNil0))) [some (fr a b), none, none] (fr a b) s = .nx [some (fr a b), some (.int a), some (.int b)] s := fun _ => rfl
  by_cases p : b < 1
  · have p' : ¬ 1 ≤ b := by omega
    have p := eq_true p
    have p' := eq_false p'
    simp [as, p, p']
  · have p' : 1 ≤ b := by omega
    have p := eq_false p
    have p' := eq_true p'
    simp [as, p, p']
    omega
theorem v_is_ratio : f_is_ratio [fr a b] st = .ok (.bl (isR (a, b))) st := by
  have g := v_is_fraction (st := st) (a := a) (b := b)
  unfold f_is_ratio
  rw [runB_e]
  unfold m_is_ratio isR
  cases hx : (decide (1 ≤ b) && decide (Nat.gcd a.natAbs b.natAbs = 1)) with
  | false =>
    rw [hx] at g
    simp [g, hx]
  | true =>
    rw [hx] at g
    simp [g, hx]
end
section
variable {st : Store} {ps : List (Int × Int)}
def ptup (ps : List (Int × Int)) : D := .tup (ps.map frp)
theorem ptup_qd (h : ps.all isR = true) : ptup ps = .tup ((List.range ps.length).map fun k => qd (rpn ps k)) := by
  unfold ptup
  rw [map_range frp (0, 1)]
  congr 1
  refine List.map_congr_left fun k hk => ?_
  exact frq (List.all_eq_true.mp h _ (getD_mem (List.mem_range.mp hk)))
theorem rpn_qb (S : Sm ps) (h : ps.all isR = true) : ∀ i, i < ps.length → QB 600 (rpn ps i) := fun i hi => by
  have hm := getD_mem (xs := ps) (z := ((0, 1) : Int × Int)) hi
  exact rp_qb (List.all_eq_true.mp h _ hm) (S.b _ hm).1 (S.b _ hm).2
theorem v_is_chances (S : Sm ps) : f_is_chances [ptup ps] st = .ok (.bl (chOk ps)) st := by
  obtain ⟨X, eX⟩ : ∃ X, X = ptup ps := ⟨_, rfl⟩
  have dX : dSq st X = some (.fix (ps.map frp)) := by rw [eX]; rfl
  have lX : fLen [X] st = .ok (.int ps.length) st := by rw [eX]; simp [ptup]
  have hz : q_ONE = qd 1 := rfl
  unfold f_is_chances chOk
  rw [runB_e]
  unfold m_is_chances
  rw [hz, ← eX]
  rcases for_all (q := .fix (ps.map frp)) (set := gN 1) (u := (sIf (HM.tNot (tVal (eCall 1 f_is_ratio (aCons (eVar 1) aNil)))) (sRet (eC (.bl false))) sNil)) (st := st) rfl frp isR (fun τ => ∃ a, τ = [some X, a]) ps [some X, none] ⟨none, rfl⟩ (fun p _ τ hI => by
    obtain ⟨b, rfl⟩ := hI
    have z := v_is_ratio (st := st) (a := p.1) (b := p.2)
    have z : f_is_ratio [frp p] st = .ok (.bl (isR p)) st := z
    refine ⟨[some X, some (frp p)], rfl, fun hp => ⟨[some X, some (frp p)], ?_, _, rfl⟩, fun hp => ?_⟩
    · simp [z, hp]
    · simp [z, hp]) with ⟨ha, τ', e2, t, rfl⟩ | ⟨ha, e2⟩
  · rw [ha]
    by_cases h0 : 0 < ps.length
    · have z := r_totalT (st := st) (rpn_qb S ha) (by have := S.l; omega)
      rw [← ptup_qd ha, ← eX] at z
      simp [List.replicate, sFor_e, dX, e2, lX, oGt, h0, z, eq_qd]
    · simp [List.replicate, sFor_e, dX, e2, lX, oGt, h0]
  · rw [ha]
    simp [List.replicate, sFor_e, dX, e2]
theorem v_ratios (S : Sm ps) : f__law_is_ratios [ptup ps] st = .ok (.bl (ps.all isR)) st := by
  have c := comp_map (q := .fix (ps.map frp)) (set := gN 1) (fe := (eCall 1 f__law_is_ratio (aCons (eVar 1) aNil))) (τ := [some (ptup ps), none]) (st := st) rfl frp (fun p => .bl (isR p)) ps [] (fun p hp => ⟨[some (ptup ps), some (frp p)], rfl, by
    have z := v_lis_ratio (st := st) (a := p.1) (b := p.2) (S.b p hp).2
    have z : f__law_is_ratio [frp p] st = .ok (.bl (isR p)) st := z
    simp [z]⟩)
  rw [List.nil_append] at c
  have g : gAllB (ps.map fun p => D.bl (isR p)) st = _ := gAllB_map
  obtain ⟨X, eX⟩ : ∃ X, X = ptup ps := ⟨_, rfl⟩
  have dX : dSq st X = some (.fix (ps.map frp)) := by rw [eX]; rfl
  have tX : fIsi [X, .ty "tuple"] st = .ok (.bl true) st := by rw [eX]; exact fIsi_tt
  have lp : ps.length ≤ 16777216 := by have := S.l; omega
  rw [← eX] at c ⊢
  simp [f__law_is_ratios, runB_e, m__law_is_ratios, List.replicate, tX, lComp_e, lc1, wipeD, dX, lp, c, g]
theorem v_shares (S : Sm ps) : f__law_is_shares [ptup ps] st = .ok (.bl (chOk ps)) st := by
  have z1 := v_ratios (st := st) S
  obtain ⟨X, eX⟩ : ∃ X, X = ptup ps := ⟨_, rfl⟩
  have lX : fLen [X] st = .ok (.int ps.length) st := by rw [eX]; simp [ptup]
  rw [← eX] at z1
  unfold f__law_is_shares chOk
  rw [runB_e]
  unfold m__law_is_shares
  rw [← eX]
  cases ha : ps.all isR with
  | false =>
    rw [ha] at z1
    simp [List.replicate, z1]
  | true =>
    rw [ha] at z1
    by_cases h0 : 0 < ps.length
    · have z := r_ltotalT (st := st) (rpn_qb S ha) (by have := S.l; omega)
      rw [← ptup_qd ha, ← eX] at z
      simp [List.replicate, z1, lX, oGt, h0, z, one_qd, eq_qd]
    · simp [List.replicate, z1, lX, oGt, h0]
end

section
variable {st : Store} {P : List (List (Int × Int))}
def pvw (P : List (List (Int × Int))) : D := .tup (P.map ptup)
structure Sv (P : List (List (Int × Int))) : Prop where
  r : ∀ ps ∈ P, Sm ps
  l : P.length ≤ 1000
def rowsOk (P : List (List (Int × Int))) (n : Nat) : Bool := P.all fun ps => decide (ps.length = n) && chOk ps
def vOk (P : List (List (Int × Int))) : Bool := (decide (1 ≤ P.length) && decide (P.length ≤ 4)) && ((decide (1 ≤ (P.headD []).length) && decide ((P.headD []).length ≤ 6)) && rowsOk P (P.headD []).length)
theorem v_are_rows (S : Sv P) {n : Nat} : f_are_rows [pvw P, .int (n : Nat)] st = .ok (.bl (rowsOk P n)) st := by
  obtain ⟨X, eX⟩ : ∃ X, X = pvw P := ⟨_, rfl⟩
  have dX : dSq st X = some (.fix (P.map ptup)) := by rw [eX]; rfl
  unfold f_are_rows rowsOk
  rw [runB_e]
  unfold m_are_rows
  rw [← eX]
  rcases for_all (q := .fix (P.map ptup)) (set := gN 2) (u := (sIf (tOr (tBl (eBin oNe (eCB fLen (aCons (eVar 2) aNil)) (eVar 1))) (HM.tNot (tVal (eCall 1 f_is_chances (aCons (eVar 2) aNil))))) (sRet (eC (.bl false))) sNil)) (st := st) rfl ptup (fun ps => decide (ps.length = n) && chOk ps) (fun τ => ∃ a, τ = [some X, some (.int (n : Nat)), a]) P [some X, some (.int (n : Nat)), none] ⟨none, rfl⟩ (fun ps hps τ hI => by
    obtain ⟨b, rfl⟩ := hI
    have z := v_is_chances (st := st) (S.r ps hps)
    have l : fLen [ptup ps] st = .ok (.int ps.length) st := by simp [ptup]
    obtain ⟨Y, eY⟩ : ∃ Y, Y = ptup ps := ⟨_, rfl⟩
    rw [← eY] at z l ⊢
    by_cases hl : ps.length = n
    · refine ⟨[some X, some (.int (n : Nat)), some Y], rfl, fun hp => ⟨[some X, some (.int (n : Nat)), some Y], ?_, _, rfl⟩, fun hp => ?_⟩
      · simp [hl] at hp
        simp [l, hl, z, hp]
      · simp [hl] at hp
        simp [l, hl, z, hp]
    · have hl' : ¬ (ps.length : Int) = n := by omega
      refine ⟨[some X, some (.int (n : Nat)), some Y], rfl, fun hp => by simp [hl] at hp, fun hp => ?_⟩
      simp [l, hl, hl']) with ⟨ha, τ', e2, t, rfl⟩ | ⟨ha, e2⟩
  · rw [ha]
    simp [List.replicate, sFor_e, dX, e2]
  · rw [ha]
    simp [List.replicate, sFor_e, dX, e2]
theorem ix0 {ps : List (Int × Int)} {Q : List (List (Int × Int))} : oIx (pvw (ps :: Q)) (.int 0) st = .ok (ptup ps) st := by
  unfold pvw
  rw [oIx_tup, List.map_cons, atI_0]
  rfl
theorem v_is_view (S : Sv P) : f_is_view [pvw P] st = .ok (.bl (vOk P)) st := by
  have z := fun n => v_are_rows (st := st) S (n := n)
  have hq : q_MOST_STATES = .int 4 := rfl
  have hq2 : q_MOST_ANSWERS = .int 6 := rfl
  obtain ⟨X, eX⟩ : ∃ X, X = pvw P := ⟨_, rfl⟩
  have lX : fLen [X] st = .ok (.int P.length) st := by rw [eX]; simp [pvw]
  have c := ch_le (fa := eC (.int 1)) (fb := eCB fLen (aCons (eVar 0) aNil)) (fc := eC (.int 4)) (τ := [some X, none]) (st := st) (b := P.length) rfl (by simp [lX]) rfl
  have c' : (decide ((1 : Int) ≤ P.length) && decide ((P.length : Int) ≤ 4)) = (decide (1 ≤ P.length) && decide (P.length ≤ 4)) := by
    congr 1 <;> (apply decide_eq_decide.mpr; omega)
  rw [c'] at c
  unfold f_is_view vOk
  rw [runB_e]
  unfold m_is_view
  rw [hq, hq2, ← eX]
  cases h1 : (decide (1 ≤ P.length) && decide (P.length ≤ 4)) with
  | false =>
    rw [h1] at c
    simp [-eChain_e, List.replicate, c]
  | true =>
  rw [h1] at c
  cases P with
  | nil => simp at h1
  | cons ps Q =>
  have i0 : oIx X (.int 0) st = .ok (ptup ps) st := by rw [eX]; exact ix0
  have l0 : fLen [ptup ps] st = .ok (.int ps.length) st := by simp [ptup]
  have c2 := ch_le (fa := eC (.int 1)) (fb := eVar 1) (fc := eC (.int 6)) (τ := [some X, some (.int (ps.length : Nat))]) (st := st) rfl rfl rfl
  have c2' : (decide ((1 : Int) ≤ ps.length) && decide ((ps.length : Int) ≤ 6)) = (decide (1 ≤ ps.length) && decide (ps.length ≤ 6)) := by
    congr 1 <;> (apply decide_eq_decide.mpr; omega)
  rw [c2'] at c2
  have z := z ps.length
  rw [← eX] at z
  rw [List.headD_cons]
  cases h2 : (decide (1 ≤ ps.length) && decide (ps.length ≤ 6)) with
  | false =>
    rw [h2] at c2
    simp [-eChain_e, List.replicate, c, i0, l0, c2]
  | true =>
    rw [h2] at c2
    simp [-eChain_e, List.replicate, c, i0, l0, c2, z]
theorem v_lis_rows (S : Sv P) {n : Nat} : f__law_is_rows [pvw P, .int (n : Nat)] st = .ok (.bl (P.all fun ps => decide (ps.length = n))) st := by
  obtain ⟨X, eX⟩ : ∃ X, X = pvw P := ⟨_, rfl⟩
  have dX : dSq st X = some (.fix (P.map ptup)) := by rw [eX]; rfl
  have tX : fIsi [X, .ty "tuple"] st = .ok (.bl true) st := by rw [eX]; exact fIsi_tt
  have c := comp_map (q := .fix (P.map ptup)) (set := gN 2) (fe := (eAnd (eCB fIsi (aCons (eVar 2) (aCons (eC (.ty "tuple")) aNil))) (eBin oEq (eCB fLen (aCons (eVar 2) aNil)) (eVar 1)))) (τ := [some X, some (.int (n : Nat)), none]) (st := st) rfl ptup (fun ps => .bl (decide (ps.length = n))) P [] (fun ps _ => ⟨[some X, some (.int (n : Nat)), some (ptup ps)], rfl, by
    have l : fLen [ptup ps] st = .ok (.int ps.length) st := by simp [ptup]
    have t : fIsi [ptup ps, .ty "tuple"] st = .ok (.bl true) st := fIsi_tt
    have : (decide ((ps.length : Int) = n)) = decide (ps.length = n) := decide_eq_decide.mpr (by omega)
    simp [t, l, this]⟩)
  rw [List.nil_append] at c
  have g : gAllB (P.map fun ps => D.bl (decide (ps.length = n))) st = _ := gAllB_map
  have lp : P.length ≤ 16777216 := by have := S.l; omega
  rw [← eX]
  simp [f__law_is_rows, runB_e, m__law_is_rows, List.replicate, tX, lComp_e, lc1, wipeD, dX, lp, c, g]
theorem all_and {α : Type} {f g : α → Bool} : ∀ {xs : List α}, (xs.all fun x => f x && g x) = (xs.all f && xs.all g)
  | [] => rfl
  | x :: xs => by
    rw [List.all_cons, List.all_cons, List.all_cons, all_and]
    cases f x <;> cases g x <;> simp
theorem v_lis_view (S : Sv P) {k n : Nat} : f__law_is_view [pvw P, .int (k : Nat), .int (n : Nat)] st = .ok (.bl (decide (P.length = k) && rowsOk P n)) st := by
  have z := v_lis_rows (st := st) S (n := n)
  obtain ⟨X, eX⟩ : ∃ X, X = pvw P := ⟨_, rfl⟩
  have lX : fLen [X] st = .ok (.int P.length) st := by rw [eX]; simp [pvw]
  have dX : dSq st X = some (.fix (P.map ptup)) := by rw [eX]; rfl
  rw [← eX] at z
  have c := comp_map (q := .fix (P.map ptup)) (set := gN 3) (fe := (eCall 1 f__law_is_shares (aCons (eVar 3) aNil))) (τ := [some X, some (.int (k : Nat)), some (.int (n : Nat)), none]) (st := st) rfl ptup (fun ps => .bl (chOk ps)) P [] (fun ps hps => ⟨[some X, some (.int (k : Nat)), some (.int (n : Nat)), some (ptup ps)], rfl, by simp [v_shares (S.r ps hps)]⟩)
  rw [List.nil_append] at c
  have g : gAllB (P.map fun ps => D.bl (chOk ps)) st = _ := gAllB_map
  have lp : P.length ≤ 16777216 := by have := S.l; omega
  unfold f__law_is_view rowsOk
  rw [runB_e, all_and]
  unfold m__law_is_view
  rw [← eX]
  cases h1 : (P.all fun ps => decide (ps.length = n)) with
  | false =>
    rw [h1] at z
    simp [List.replicate, z]
  | true =>
    rw [h1] at z
    by_cases hk : P.length = k
    · have hk2 : k ≤ 16777216 := by omega
      simp [List.replicate, z, lX, hk, lComp_e, lc1, wipeD, dX, hk2, c, g]
    · have hk' : ¬ (P.length : Int) = k := by omega
      simp [List.replicate, z, lX, hk, hk']
theorem v_lright (S : Sv P) : f__law_right_view [pvw P] st = .ok (.bl (vOk P)) st := by
  have z := fun k n => v_lis_view (st := st) S (k := k) (n := n)
  obtain ⟨X, eX⟩ : ∃ X, X = pvw P := ⟨_, rfl⟩
  have lX : fLen [X] st = .ok (.int P.length) st := by rw [eX]; simp [pvw]
  have c := ch_le (fa := eC (.int 1)) (fb := eCB fLen (aCons (eVar 0) aNil)) (fc := eC (.int 4)) (τ := [some X]) (st := st) (b := P.length) rfl (by simp [lX]) rfl
  have c' : (decide ((1 : Int) ≤ P.length) && decide ((P.length : Int) ≤ 4)) = (decide (1 ≤ P.length) && decide (P.length ≤ 4)) := by
    congr 1 <;> (apply decide_eq_decide.mpr; omega)
  rw [c'] at c
  unfold f__law_right_view vOk
  rw [runB_e]
  unfold m__law_right_view
  rw [← eX]
  cases h1 : (decide (1 ≤ P.length) && decide (P.length ≤ 4)) with
  | false =>
    rw [h1] at c
    simp [-eChain_e, List.replicate, c]
  | true =>
  rw [h1] at c
  cases P with
  | nil => simp at h1
  | cons ps Q =>
  have i0 : oIx X (.int 0) st = .ok (ptup ps) st := by rw [eX]; exact ix0
  have l0 : fLen [ptup ps] st = .ok (.int ps.length) st := by simp [ptup]
  have c2 := ch_le (fa := eC (.int 1)) (fb := (eCB fLen (aCons (eBin oIx (eVar 0) (eC (.int 0))) aNil))) (fc := eC (.int 6)) (τ := [some X]) (st := st) (b := ps.length) rfl (by simp [i0, l0]) rfl
  have c2' : (decide ((1 : Int) ≤ ps.length) && decide ((ps.length : Int) ≤ 6)) = (decide (1 ≤ ps.length) && decide (ps.length ≤ 6)) := by
    congr 1 <;> (apply decide_eq_decide.mpr; omega)
  rw [c2'] at c2
  have z := z (ps :: Q).length ps.length
  rw [← eX] at z
  rw [List.headD_cons]
  cases h2 : (decide (1 ≤ ps.length) && decide (ps.length ≤ 6)) with
  | false =>
    rw [h2] at c2
    simp [-eChain_e, List.replicate, c, c2]
  | true =>
    rw [h2] at c2
    rw [decide_eq_true rfl] at z
    have z : f__law_is_view [X, .int ((ps :: Q).length : Nat), .int (ps.length : Nat)] st = .ok (.bl (rowsOk (ps :: Q) ps.length)) st := by simpa using z
    obtain ⟨N, eN⟩ : ∃ N, N = (ps :: Q).length := ⟨_, rfl⟩
    rw [← eN] at lX z
    simp [-eChain_e, List.replicate, c, c2, lX, i0, l0, z]
theorem v_judged (S : Sv P) : f__law_view_judged [pvw P] st = .ok (.bl true) st := by
  have z1 := v_is_view (st := st) S
  have z2 := v_lright (st := st) S
  simp [f__law_view_judged, runB_e, m__law_view_judged, List.replicate, z1, z2]
end

theorem zipD_map {α β : Type} {f : α → D} {g : β → D} : ∀ {xs : List α} {ys : List β}, zipD (xs.map f) (ys.map g) = (List.zip xs ys).map fun p => .tup [f p.1, g p.2]
  | [], _ => rfl
  | _ :: _, [] => rfl
  | x :: xs, y :: ys => by
    rw [List.map_cons, List.map_cons, List.zip_cons_cons, List.map_cons, ← zipD_map]
    rfl
theorem map_at {α : Type} {f : α → D} {xs : List α} {i : Nat} {d : D} (h : (xs.map f)[i]? = some d) : ∃ a, xs[i]? = some a ∧ d = f a := by
  rw [List.getElem?_map] at h
  cases hx : xs[i]? with
  | none => simp [hx] at h
  | some a => exact ⟨a, rfl, by simpa [hx] using h.symm⟩
theorem zip_at {α β : Type} {xs : List α} {ys : List β} {i : Nat} {a : α} {b : β} (h : (List.zip xs ys)[i]? = some (a, b)) : xs[i]? = some a ∧ ys[i]? = some b :=
  List.getElem?_zip_eq_some.mp h
theorem zip2_rt {n : Nat} {xs ys : List D} {st : Store} (h : lstAt st n = some xs) : zip2 (.ref n) (.tup ys) st = .ok (.mix true n xs ys) st := by simp [zip2, h]
theorem zip2_rr {n k : Nat} {xs ys : List D} {st : Store} (h : lstAt st n = some xs) (h2 : lstAt st k = some ys) : zip2 (.ref n) (.ref k) st = .ok (.two n k xs ys) st := by simp [zip2, h, h2]

section
variable {st : Store}
def vw (V : List (List Rat)) : D := .tup (V.map rws)
/-- a table of so many bits and parts -/
structure Vb (K n : Nat) (V : List (List Rat)) : Prop where
  r : ∀ r ∈ V, r.length = n ∧ ∀ x ∈ r, QB K x
def dot (r : List Rat) (M : List (List Rat)) (p : Nat) : Rat := sumR r.length fun a => r.getD a 0 * (M.getD a []).getD p 0
def thr (V M : List (List Rat)) : List (List Rat) := V.map fun r => (List.range (M.headD []).length).map fun p => dot r M p
theorem ix_rws {r : List Rat} {i : Nat} {s : Store} (h : i < r.length) : oIx (rws r) (.int (i : Nat)) s = .ok (qd (r.getD i 0)) s := by
  unfold rws
  rw [oIx_tup, atI_of (by simpa using h)]
  simp [h]
theorem ix_vw {V : List (List Rat)} {i : Nat} {s : Store} (h : i < V.length) : oIx (vw V) (.int (i : Nat)) s = .ok (rws (V.getD i [])) s := by
  unfold vw
  rw [oIx_tup, atI_of (by simpa using h)]
  simp [h]
theorem ix_vw0 {V : List (List Rat)} {s : Store} (h : 0 < V.length) : oIx (vw V) (.int 0) s = .ok (rws (V.headD [])) s := by
  have := ix_vw (s := s) h
  cases V with
  | nil => simp at h
  | cons r V => exact this
theorem ln_rws {r : List Rat} {s : Store} : fLen [rws r] s = .ok (.int r.length) s := by simp [rws]
theorem ln_vw {V : List (List Rat)} {s : Store} : fLen [vw V] s = .ok (.int V.length) s := by simp [vw]
theorem dq_vw {V : List (List Rat)} {s : Store} : dSq s (vw V) = some (.fix (V.map rws)) := rfl
theorem dq_rws {r : List Rat} {s : Store} : dSq s (rws r) = some (.fix (r.map qd)) := rfl
theorem Vb.at {K n : Nat} {V : List (List Rat)} (h : Vb K n V) {i p : Nat} (hi : i < V.length) (hp : p < n) : (V.getD i []).length = n ∧ QB K ((V.getD i []).getD p 0) := by
  obtain ⟨h1, h2⟩ := h.r _ (getD_mem (z := []) hi)
  exact ⟨h1, h2 _ (getD_mem (by omega))⟩
theorem Vb.head {K n : Nat} {V : List (List Rat)} (h : Vb K n V) (h0 : 0 < V.length) : (V.headD []).length = n := by
  cases V with
  | nil => simp at h0
  | cons r V => exact (h.r r (List.mem_cons_self ..)).1
theorem dot_qb {K L n : Nat} {r : List Rat} {M : List (List Rat)} (hr : ∀ x ∈ r, QB K x) (hM : Vb L n M) (hl : r.length = M.length) {p : Nat} (hp : p < n) : ∀ i, i < r.length → QB (K + L) (r.getD i 0 * (M.getD i []).getD p 0) := fun i hi =>
  (hr _ (getD_mem hi)).mul (hM.at (by omega) hp).2
theorem r_milled {K L n : Nat} {r : List Rat} {M : List (List Rat)} (hr : ∀ x ∈ r, QB K x) (hM : Vb L n M) (hl : r.length = M.length) (h8 : M.length ≤ 8) (hb : K + L ≤ 900) {p : Nat} (hp : p < n) :
    f_milled [rws r, vw M, .int (p : Nat)] st = .ok (qd (dot r M p)) st := by
  have q1 := dot_qb hr hM hl hp
  obtain ⟨τ', s', e, ⟨a, b, rfl⟩, rfl⟩ := for_inv (q := .fix (zipD (r.map qd) (M.map rws))) (set := gT 2 (gCs 4 (gCs 5 gNil0))) (u := (sSet 3 (eCall 2 f_plus (aCons (eVar 3) (aCons (eCall 2 f_times (aCons (eVar 4) (aCons (eBin oIx (eVar 5) (eVar 2)) aNil))) aNil))))) (fun k τ s => (∃ a b, τ = [some (rws r), some (vw M), some (.int (p : Nat)), some (qd (sumR k fun a => r.getD a 0 * (M.getD a []).getD p 0)), a, b]) ∧ s = st) (fun _ _ _ _ => rfl) (zipD (r.map qd) (M.map rws)) 0 [some (rws r), some (vw M), some (.int (p : Nat)), some (qd 0), none, none] st ⟨⟨_, _, rfl⟩, rfl⟩ (by
    intro i d τ s hi hp'
    obtain ⟨⟨a, b, rfl⟩, rfl⟩ := hp'
    rw [zipD_map] at hi
    obtain ⟨⟨x, l⟩, hm, rfl⟩ := map_at hi
    obtain ⟨hx, hl'⟩ := zip_at hm
    have hi2 : i < r.length := (List.getElem?_eq_some_iff.mp hx).1
    have ex : x = r.getD i 0 := by rw [List.getD_eq_getElem?_getD, hx]; rfl
    have el : l = M.getD i [] := by rw [List.getD_eq_getElem?_getD, hl']; rfl
    rw [Nat.zero_add]
    have hll : l.length = n := by rw [el]; exact (hM.at (by omega) hp).1
    have i1 := ix_rws (r := l) (i := p) (s := s) (by omega)
    have q2 := hr _ (getD_mem (z := (0 : Rat)) hi2)
    have q3 := (hM.at (i := i) (by omega) hp).2
    rw [← ex] at q2
    rw [← el] at q3
    have z1 := r_timesQ (st := s) q2 q3 (by omega)
    have q4 := sumR_qb (n := i) fun j hj => q1 j (by omega)
    have : (K + L + 1) * i ≤ (K + L + 1) * 8 := Nat.mul_le_mul_left _ (by omega)
    have z2 := r_plusQ (st := s) q4 (q2.mul q3) (by omega)
    refine ⟨[some (rws r), some (vw M), some (.int (p : Nat)), some (qd (sumR i fun a => r.getD a 0 * (M.getD a []).getD p 0)), some (qd x), some (rws l)], rfl, [some (rws r), some (vw M), some (.int (p : Nat)), some (qd (sumR (i + 1) fun a => r.getD a 0 * (M.getD a []).getD p 0)), some (qd x), some (rws l)], s, .inl ?_, ⟨_, _, rfl⟩, rfl⟩
    have z2' : f_plus [qd (sumR i fun a => r.getD a 0 * (M.getD a []).getD p 0), qd (x * l.getD p 0)] s = .ok (qd (sumR (i + 1) fun a => r.getD a 0 * (M.getD a []).getD p 0)) s := by
      rw [z2]
      simp only [sumR]
      rw [ex, el]
    obtain ⟨A, eA⟩ : ∃ A, A = qd (sumR i fun a => r.getD a 0 * (M.getD a []).getD p 0) := ⟨_, rfl⟩
    obtain ⟨B, eB⟩ : ∃ B, B = qd (sumR (i + 1) fun a => r.getD a 0 * (M.getD a []).getD p 0) := ⟨_, rfl⟩
    obtain ⟨C, eC⟩ : ∃ C, C = qd (l.getD p 0) := ⟨_, rfl⟩
    rw [← eA, ← eB] at z2'
    obtain ⟨T, eT⟩ : ∃ T, T = qd (x * l.getD p 0) := ⟨_, rfl⟩
    rw [← eC] at z1 i1
    rw [← eT] at z1 z2'
    rw [← eA, ← eB]
    simp [i1, z1, z2'])
  have lz : (zipD (r.map qd) (M.map rws)).length = r.length := by
    rw [zipD_map, List.length_map, List.length_zip]
    omega
  rw [lz, Nat.zero_add] at e
  have hz : q_ZERO = qd 0 := rfl
  have zz : ∀ s, zip2 (rws r) (vw M) s = .ok (.fix (zipD (r.map qd) (M.map rws))) s := fun s => zip2_tup
  unfold f_milled
  rw [runB_e]
  unfold m_milled dot
  rw [hz]
  simp [List.replicate, sFor_e, zz, e]
theorem r_milled_row {K L n : Nat} {r : List Rat} {M : List (List Rat)} (hr : ∀ x ∈ r, QB K x) (hM : Vb L n M) (hl : r.length = M.length) (h0 : 0 < M.length) (h8 : M.length ≤ 8) (hn : n ≤ 8) (hb : K + L ≤ 900) :
    f_milled_row [rws r, vw M] st = .ok (rws ((List.range n).map fun p => dot r M p)) st := by
  have c := comp_map (q := .fix (rng 0 n)) (set := gN 2) (fe := (eCall 3 f_milled (aCons (eVar 0) (aCons (eVar 1) (aCons (eVar 2) aNil))))) (τ := [some (rws r), some (vw M), none]) (st := st) rfl (fun k : Nat => D.int k) (fun k : Nat => qd (dot r M k)) (List.range n) [] (fun k hk => ⟨[some (rws r), some (vw M), some (.int (k : Nat))], rfl, by
    have z := r_milled (st := st) hr hM hl h8 hb (List.mem_range.mp hk)
    simp [z]⟩)
  rw [← rng_eq, List.nil_append] at c
  have i0 := ix_vw0 (s := st) h0
  have l0 := ln_rws (r := M.headD []) (s := st)
  rw [hM.head h0] at l0
  have rg : rg1 (.int (n : Nat)) st = .ok (.fix (rng 0 n)) st := rg1_int (by omega)
  have lr : (rng 0 (n : Nat)).length ≤ 16777216 := by rw [rng_len]; omega
  have e : rws ((List.range n).map fun p => dot r M p) = .tup ((List.range n).map fun p => qd (dot r M p)) := by
    unfold rws
    rw [List.map_map]
    rfl
  rw [e]
  obtain ⟨X, eX⟩ : ∃ X, X = (List.range n).map fun p => qd (dot r M p) := ⟨_, rfl⟩
  rw [← eX] at c ⊢
  obtain ⟨H, eH⟩ : ∃ H, H = rws (M.headD []) := ⟨_, rfl⟩
  rw [← eH] at i0 l0
  simp [f_milled_row, runB_e, m_milled_row, List.replicate, i0, l0, lComp_e, lc1, wipeD, rg, lr, c]
theorem r_through {K L n : Nat} {V M : List (List Rat)} (hV : Vb K M.length V) (hM : Vb L n M) (h0 : 0 < M.length) (h8 : M.length ≤ 8) (hn : n ≤ 8) (hv : V.length ≤ 8) (hb : K + L ≤ 900) :
    f_through [vw V, vw M] st = .ok (vw (thr V M)) st := by
  have hh := hM.head h0
  have c := comp_map (q := .fix (V.map rws)) (set := gN 2) (fe := (eCall 2 f_milled_row (aCons (eVar 2) (aCons (eVar 1) aNil)))) (τ := [some (vw V), some (vw M), none]) (st := st) rfl rws (fun r => rws ((List.range n).map fun p => dot r M p)) V [] (fun r hr => ⟨[some (vw V), some (vw M), some (rws r)], rfl, by
    have z := r_milled_row (st := st) (hV.r r hr).2 hM (hV.r r hr).1 h0 h8 hn hb
    simp [z]⟩)
  rw [List.nil_append] at c
  have e : vw (thr V M) = .tup (V.map fun r => rws ((List.range n).map fun p => dot r M p)) := by
    unfold vw thr
    rw [List.map_map, hh]
    rfl
  have lV : V.length ≤ 16777216 := by omega
  rw [e]
  obtain ⟨X, eX⟩ : ∃ X, X = V.map fun r => rws ((List.range n).map fun p => dot r M p) := ⟨_, rfl⟩
  rw [← eX] at c ⊢
  simp [f_through, runB_e, m_through, List.replicate, lComp_e, lc1, wipeD, dq_vw, lV, c]
theorem r_lthrough {K L n : Nat} {V M : List (List Rat)} (hV : Vb K M.length V) (hM : Vb L n M) (h0 : 0 < M.length) (h8 : M.length ≤ 8) (hn : n ≤ 8) (hv : V.length ≤ 8) (hb : K + L ≤ 900) :
    ∃ st', f__law_through [vw V, vw M] st = .ok (vw (thr V M)) st' ∧ Gr st st' := by
  have hh := hM.head h0
  obtain ⟨XV, eXV⟩ : ∃ X, X = vw V := ⟨_, rfl⟩
  obtain ⟨XM, eXM⟩ : ∃ X, X = vw M := ⟨_, rfl⟩
  have i0 : ∀ s, oIx XM (.int 0) s = .ok (rws (M.headD [])) s := fun s => by rw [eXM]; exact ix_vw0 h0
  have l0 : ∀ s, fLen [rws (M.headD [])] s = .ok (.int (n : Nat)) s := fun s => by rw [ln_rws, hh]
  obtain ⟨HD, eHD⟩ : ∃ X, X = rws (M.headD []) := ⟨_, rfl⟩
  rw [← eHD] at i0 l0
  have rg : ∀ (k : Nat) s, k ≤ 8 → rg1 (.int (k : Nat)) s = .ok (.fix (rng 0 k)) s := fun k s h => rg1_int (by omega)
  have lr : ∀ k : Nat, k ≤ 8 → (rng 0 (k : Nat)).length ≤ 16777216 := fun k h => by rw [rng_len]; omega
  obtain ⟨m, em⟩ : ∃ m, m = st.length := ⟨_, rfl⟩
  obtain ⟨row, erow⟩ : ∃ row : List Rat → List Rat, row = fun r => (List.range n).map fun p => dot r M p := ⟨_, rfl⟩
  obtain ⟨τ', s1, e1, ⟨t3, t4, t5, rfl⟩, g1, G1⟩ := for_inv (q := .fix (V.map rws)) (set := gN 3) (u := (sSeq (sSet 4 (eLst aNil))
    (sSeq (sFor (iRg1 (eCB fLen (aCons (eBin oIx (eVar 1) (eC (.int 0))) aNil))) (gN 5) (sExpr (eM "list" mAppend (eVar 4) (aCons (eCall 1 f__law_total (aCons (eEl (lComp [6] (iRg1 (eCB fLen (aCons (eVar 3) aNil))) (gN 6) HM.tYes (eCall 2 f__law_times (aCons (eBin oIx (eVar 3) (eVar 6)) (aCons (eBin oIx (eBin oIx (eVar 1) (eVar 6)) (eVar 5)) aNil))))) aNil)) aNil))))
    (sExpr (eM "list" mAppend (eVar 2) (aCons (eCB fTuple (aCons (eVar 4) aNil)) aNil)))))) 
    (fun k τ s => (∃ t3 t4 t5, τ = [some XV, some XM, some (.ref m), t3, t4, t5, none]) ∧ lstAt s m = some ((V.take k).map fun r => rws (row r)) ∧ Gr st s) (fun _ _ _ _ => rfl) (V.map rws) 0 [some XV, some XM, some (.ref m), none, none, none, none] (st ++ [.lst []])
    ⟨⟨_, _, _, rfl⟩, by rw [em]; exact lstAt_new, .app⟩ (by
      intro i d τ s hi hp
      obtain ⟨⟨t3, t4, t5, rfl⟩, g, G⟩ := hp
      obtain ⟨r, hr, rfl⟩ := map_at hi
      rw [Nat.zero_add] at g ⊢
      have hiV : i < V.length := (List.getElem?_eq_some_iff.mp hr).1
      have hrm := List.mem_of_getElem? hr
      obtain ⟨hrl, hrq⟩ := hV.r r hrm
      have hml := lstAt_lt g
      have lrr : ∀ s, fLen [rws r] s = .ok (.int r.length) s := fun s => ln_rws
      have irr : ∀ {a : Nat} s, a < r.length → oIx (rws r) (.int (a : Nat)) s = .ok (qd (r.getD a 0)) s := fun s h => ix_rws h
      obtain ⟨XR, eXR⟩ : ∃ X, X = rws r := ⟨_, rfl⟩
      rw [← eXR] at lrr
      obtain ⟨w, ew⟩ : ∃ w, w = s.length := ⟨_, rfl⟩
      refine ⟨[some XV, some XM, some (.ref m), some XR, t4, t5, none], by rw [eXR]; rfl, ?_⟩
      obtain ⟨τ2, s2, e2, ⟨t5', rfl⟩, g2, G2⟩ := for_inv (q := .fix (rng 0 n)) (set := gN 5) (u := (sExpr (eM "list" mAppend (eVar 4) (aCons (eCall 1 f__law_total (aCons (eEl (lComp [6] (iRg1 (eCB fLen (aCons (eVar 3) aNil))) (gN 6) HM.tYes (eCall 2 f__law_times (aCons (eBin oIx (eVar 3) (eVar 6)) (aCons (eBin oIx (eBin oIx (eVar 1) (eVar 6)) (eVar 5)) aNil))))) aNil)) aNil))))
        (fun k τ s' => (∃ t5, τ = [some XV, some XM, some (.ref m), some XR, some (.ref w), t5, none]) ∧ lstAt s' w = some ((List.range k).map fun p => qd (dot r M p)) ∧ Gr s s') (fun _ _ _ _ => rfl) (rng 0 n) 0 [some XV, some XM, some (.ref m), some XR, some (.ref w), t5, none] (s ++ [.lst []])
        ⟨⟨_, rfl⟩, by rw [ew]; exact lstAt_new, .app⟩ (by
          intro j d τ s' hj hp
          obtain ⟨⟨t5, rfl⟩, g', G'⟩ := hp
          have hj2 : j < n := by have := (List.getElem?_eq_some_iff.mp hj).1; rwa [rng_len] at this
          have hd : d = .int (j : Nat) := by
            rw [rng_eq, List.getElem?_map, List.getElem?_range hj2] at hj
            exact (Option.some.inj hj).symm
          subst hd
          rw [Nat.zero_add] at g' ⊢
          have q1 := dot_qb hrq hM hrl hj2
          have c := comp_map (q := .fix (rng 0 r.length)) (set := gN 6) (fe := (eCall 2 f__law_times (aCons (eBin oIx (eVar 3) (eVar 6)) (aCons (eBin oIx (eBin oIx (eVar 1) (eVar 6)) (eVar 5)) aNil)))) (τ := [some XV, some XM, some (.ref m), some XR, some (.ref w), some (.int (j : Nat)), none]) (st := s') rfl (fun a : Nat => D.int a) (fun a : Nat => qd (r.getD a 0 * (M.getD a []).getD j 0)) (List.range r.length) [] (fun a ha => ⟨[some XV, some XM, some (.ref m), some XR, some (.ref w), some (.int (j : Nat)), some (.int (a : Nat))], rfl, by
            have ha := List.mem_range.mp ha
            have hq := hM.at (i := a) (p := j) (by omega) hj2
            have i1 : oIx XR (.int (a : Nat)) s' = .ok (qd (r.getD a 0)) s' := by rw [eXR]; exact ix_rws ha
            have i2 : oIx XM (.int (a : Nat)) s' = .ok (rws (M.getD a [])) s' := by rw [eXM]; exact ix_vw (by omega)
            have i3 : oIx (rws (M.getD a [])) (.int (j : Nat)) s' = .ok (qd ((M.getD a []).getD j 0)) s' := ix_rws (by omega)
            have z := r_ltimesQ (st := s') (hrq _ (getD_mem (z := (0 : Rat)) ha)) hq.2 (by omega)
            obtain ⟨A, eA⟩ : ∃ A, A = qd (r.getD a 0) := ⟨_, rfl⟩
            obtain ⟨B, eB⟩ : ∃ A, A = rws (M.getD a []) := ⟨_, rfl⟩
            obtain ⟨C, eC⟩ : ∃ A, A = qd ((M.getD a []).getD j 0) := ⟨_, rfl⟩
            obtain ⟨T, eT⟩ : ∃ A, A = qd (r.getD a 0 * (M.getD a []).getD j 0) := ⟨_, rfl⟩
            rw [← eA, ← eC, ← eT] at z
            rw [← eA] at i1
            rw [← eB] at i2 i3
            rw [← eC] at i3
            rw [← eT]
            simp [i1, i2, i3, z]⟩)
          rw [← rng_eq, List.nil_append] at c
          obtain ⟨X, eX⟩ : ∃ X, X = (List.range r.length).map fun a : Nat => qd (r.getD a 0 * (M.getD a []).getD j 0) := ⟨_, rfl⟩
          have gt := lstAt_new (a := s') (xs := X)
          have zt := r_ltotal (st := s' ++ [.lst X]) (m := s'.length) (n := r.length) (f := fun a => r.getD a 0 * (M.getD a []).getD j 0) (by rw [← eX]; exact gt) q1 (by
            have : (K + L + 1) * r.length ≤ (K + L + 1) * 8 := Nat.mul_le_mul_left _ (by omega)
            omega)
          rw [← eX] at c
          have gw := (Gr.app (c := Cell.lst X)).lst g'
          have ap := mAppend_ref (x := qd (dot r M j)) gw (by simp; omega)
          have rr := rg r.length s' (by omega)
          have lrr2 := lr r.length (by omega)
          have zt : f__law_total [.ref s'.length] (s' ++ [.lst X]) = .ok (qd (dot r M j)) (s' ++ [.lst X]) := zt
          obtain ⟨T, eT⟩ : ∃ A, A = qd (dot r M j) := ⟨_, rfl⟩
          refine ⟨[some XV, some XM, some (.ref m), some XR, some (.ref w), some (.int (j : Nat)), none], rfl, [some XV, some XM, some (.ref m), some XR, some (.ref w), some (.int (j : Nat)), none], (s' ++ [Cell.lst X]).set w (Cell.lst ((List.range j).map (fun p => qd (dot r M p)) ++ [qd (dot r M j)])), .inl ?_, ⟨_, rfl⟩, ?_, (G'.trans .app).put (by omega)⟩
          · rw [← eT] at zt ap ⊢
            simp [okT_ref g', lComp_e, lc1, wipeD, lrr, rr, lrr2, c, zt, ap]
          · rw [lstAt_set gw, List.range_succ, List.map_append]
            rfl)
      rw [rng_len, Nat.zero_add] at g2
      have er : rws (row r) = .tup ((List.range n).map fun p => qd (dot r M p)) := by
        unfold rws
        rw [erow, List.map_map]
        rfl
      have gm := G2.lst g
      have ap := mAppend_ref (x := rws (row r)) gm (by simp; omega)
      have ft := fTuple_ref g2
      rw [← er] at ft
      obtain ⟨T, eT⟩ : ∃ A, A = rws (row r) := ⟨_, rfl⟩
      refine ⟨[some XV, some XM, some (.ref m), some XR, some (.ref w), t5', none], s2.set m (Cell.lst ((V.take i).map (fun r => rws (row r)) ++ [rws (row r)])), .inl ?_, ⟨_, _, _, rfl⟩, ?_, (G.trans G2).put (by omega)⟩
      · rw [← eT] at ap ft ⊢
        simp [← ew, sFor_e, i0, l0, rg n _ hn, e2, okT_ref gm, ft, ap]
      · rw [lstAt_set gm, List.take_succ, hr, List.map_append]
        rfl)
  rw [List.length_map, Nat.zero_add, List.take_length] at g1
  refine ⟨s1, ?_, G1⟩
  have e : vw (thr V M) = .tup (V.map fun r => rws (row r)) := by
    unfold vw thr
    rw [List.map_map, hh, erow]
    rfl
  rw [e]
  have dV : ∀ s, dSq s XV = some (.fix (V.map rws)) := fun s => by rw [eXV]; rfl
  unfold f__law_through
  rw [runB_e, ← eXV, ← eXM]
  unfold m__law_through
  simp [List.replicate, ← em, sFor_e, dV, e1, fTuple_ref g1]
end

/-- what an act is worth at an answer -/
def aw (V : List (List Rat)) (a : Nat) (act : List Rat) : Rat := sumR V.length fun s => (V.getD s []).getD a 0 * act.getD s 0
/-- the greatest -/
def gml (l : List Rat) : Rat := gmax (l.headD 0) l
/-- the first place of the greatest among so many -/
def am (l : List Rat) : Nat → Nat
  | 0 => 0
  | j + 1 => if l.getD (am l j) 0 < l.getD j 0 then j else am l j
structure Wk (n : Nat) (V A : List (List Rat)) : Prop where
  v : Vb 600 n V
  v0 : 0 < V.length
  v8 : V.length ≤ 8
  n0 : 0 < n
  n8 : n ≤ 8
  a0 : 0 < A.length
  a8 : A.length ≤ 8
  a : ∀ act ∈ A, act.length = V.length ∧ ∀ x ∈ act, QB 100 x
  w : ∀ a, a < n → ∀ act ∈ A, QB 600 (aw V a act)
theorem am_lt {l : List Rat} {j : Nat} (h : j ≤ l.length) (h0 : 0 < l.length) : am l j < l.length := by
  induction j with
  | zero => exact h0
  | succ j ih =>
    rw [am]
    split
    · omega
    · exact ih (by omega)
theorem am_max {l : List Rat} : ∀ j, 0 < j → j ≤ l.length → l.getD (am l j) 0 = (l.take j).foldl (fun m p => if m < p then p else m) (l.headD 0)
  | 0, h, _ => by omega
  | 1, _, h1 => by
    cases l with
    | nil => simp at h1
    | cons x l =>
      have : ¬ x < x := Rat.lt_irrefl
      simp [am, this]
  | j + 2, _, h1 => by
    have ih := am_max (l := l) (j + 1) (by omega) (by omega)
    have ht : l.take (j + 2) = l.take (j + 1) ++ [l.getD (j + 1) 0] := by
      rw [List.take_succ, List.getD_eq_getElem?_getD, List.getElem?_eq_getElem (show j + 1 < l.length by omega)]
      rfl
    rw [ht, List.foldl_append, ← ih, am]
    show _ = if l.getD (am l (j + 1)) 0 < l.getD (j + 1) 0 then l.getD (j + 1) 0 else l.getD (am l (j + 1)) 0
    split <;> rfl
theorem am_gml {l : List Rat} (h : 0 < l.length) : l.getD (am l l.length) 0 = gml l := by
  rw [am_max _ h (Nat.le_refl _), List.take_length]
  rfl
section
variable {st : Store}
theorem aw_q {n : Nat} {V A : List (List Rat)} (W : Wk n V A) {a : Nat} (ha : a < n) {act : List Rat} (hm : act ∈ A) : ∀ s, s < V.length → QB 700 ((V.getD s []).getD a 0 * act.getD s 0) := fun s hs => by
  obtain ⟨h1, h2⟩ := W.a act hm
  exact (W.v.at hs ha).2.mul (h2 _ (getD_mem (by omega)))
theorem r_mean {n : Nat} {V A : List (List Rat)} (W : Wk n V A) {a m : Nat} (ha : a < n) {act : List Rat} (hm : act ∈ A) (g : lstAt st m = some ((List.range V.length).map fun s => qd ((V.getD s []).getD a 0))) : f_mean [.ref m, rws act] st = .ok (qd (aw V a act)) st := by
  obtain ⟨hl, hq⟩ := W.a act hm
  have q1 := aw_q W ha hm
  obtain ⟨X, eX⟩ : ∃ X, X = (List.range V.length).map fun s => qd ((V.getD s []).getD a 0) := ⟨_, rfl⟩
  have lX : X.length = V.length := by rw [eX]; simp
  rw [← eX] at g
  obtain ⟨Y, eY⟩ : ∃ Y, Y = act.map qd := ⟨_, rfl⟩
  have lY : Y.length = V.length := by rw [eY]; simp [hl]
  obtain ⟨R, eR⟩ : ∃ R, R = rws act := ⟨_, rfl⟩
  obtain ⟨f, ef⟩ : ∃ f : Nat → Rat, f = fun s => (V.getD s []).getD a 0 * act.getD s 0 := ⟨_, rfl⟩
  have W8 := W.v8
  obtain ⟨τ', s', e, ⟨c, b, rfl⟩, rfl⟩ := for_inv (q := .mix true m X Y) (set := gT 2 (gCs 3 (gCs 4 gNil0))) (u := (sSet 2 (eCall 2 f_plus (aCons (eVar 2) (aCons (eCall 2 f_times (aCons (eVar 3) (aCons (eVar 4) aNil))) aNil))))) (fun k τ s => (∃ c b, τ = [some (.ref m), some R, some (qd (sumR k f)), c, b]) ∧ s = st) (fun _ _ _ h => by rw [h.2]; simp [Sq.chk, g]) (zipD X Y) 0 [some (.ref m), some R, some (qd 0), none, none] st ⟨⟨_, _, rfl⟩, rfl⟩ (by
    intro i d τ s hi hp'
    obtain ⟨⟨c, b, rfl⟩, rfl⟩ := hp'
    obtain ⟨x, y, hx, hy, rfl⟩ := zipD_at hi
    have hi2 : i < V.length := by have := (List.getElem?_eq_some_iff.mp hx).1; omega
    obtain ⟨_, rfl⟩ := rangeR (f := fun s => (V.getD s []).getD a 0) (g := qd) (eX ▸ hx)
    obtain ⟨y, hy2, rfl⟩ := map_at (eY ▸ hy)
    have ey : y = act.getD i 0 := by rw [List.getD_eq_getElem?_getD, hy2]; rfl
    rw [Nat.zero_add]
    have z1 := r_timesQ (st := s) (W.v.at hi2 ha).2 (hq _ (getD_mem (z := (0 : Rat)) (show i < act.length by omega))) (by omega)
    rw [← ey] at z1
    have q4 := sumR_qb (f := f) (n := i) fun j hj => by rw [ef]; exact q1 j (by omega)
    have q5 : QB 700 (f i) := by rw [ef]; exact q1 i hi2
    have : (700 + 1) * i ≤ (700 + 1) * 8 := Nat.mul_le_mul_left _ (by omega)
    have z2 := r_plusQ (st := s) q4 q5 (by omega)
    have ef2 : qd ((V.getD i []).getD a 0 * y) = qd (f i) := by rw [ef, ey]
    rw [ef2] at z1
    obtain ⟨P, eP⟩ : ∃ P, P = qd ((V.getD i []).getD a 0) := ⟨_, rfl⟩
    rw [← eP] at z1 ⊢
    refine ⟨[some (.ref m), some R, some (qd (sumR i f)), some P, some (qd y)], rfl, [some (.ref m), some R, some (qd (sumR (i + 1) f)), some P, some (qd y)], s, .inl ?_, ⟨_, _, rfl⟩, rfl⟩
    simp [z1, z2, sumR])
  have lz : (zipD X Y).length = V.length := by
    rw [zipD_len]
    omega
  rw [lz, Nat.zero_add] at e
  have hz : q_ZERO = qd 0 := rfl
  have zz : zip2 (.ref m) R s' = .ok (.mix true m X Y) s' := by rw [eR, eY]; exact zip2_rt g
  have it : (Sq.mix true m X Y).items = zipD X Y := rfl
  have ea : qd (aw V a act) = qd (sumR V.length f) := by rw [ef]; rfl
  rw [ea]
  unfold f_mean
  rw [runB_e]
  unfold m_mean
  rw [hz, ← eR]
  simp [List.replicate, sFor_e, zz, it, e]
theorem r_act_sum {n : Nat} {V A : List (List Rat)} (W : Wk n V A) {a : Nat} (ha : a < n) {act : List Rat} (hm : act ∈ A) : ∃ st', f_act_sum [vw V, .int (a : Nat), rws act] st = .ok (qd (aw V a act)) st' ∧ Gr st st' := by
  have c := comp_map (q := .fix (V.map rws)) (set := gN 3) (fe := (eBin oIx (eVar 3) (eVar 1))) (τ := [some (vw V), some (.int (a : Nat)), some (rws act), none]) (st := st) rfl rws (fun r => qd (r.getD a 0)) V [] (fun r hr => ⟨[some (vw V), some (.int (a : Nat)), some (rws act), some (rws r)], rfl, by
    have i1 := ix_rws (r := r) (i := a) (s := st) (by have := (W.v.r r hr).1; omega)
    simp [-List.getD_eq_getElem?_getD, i1]⟩)
  rw [List.nil_append, map_range (fun r : List Rat => qd (r.getD a 0)) [] V] at c
  obtain ⟨X, eX⟩ : ∃ X, X = (List.range V.length).map fun s => qd ((V.getD s []).getD a 0) := ⟨_, rfl⟩
  have g := lstAt_new (a := st) (xs := X)
  have z := r_mean (st := st ++ [.lst X]) W ha hm (m := st.length) (by rw [g, eX])
  rw [← eX] at c
  have lV : V.length ≤ 16777216 := by have := W.v8; omega
  obtain ⟨XV, eXV⟩ : ∃ X, X = vw V := ⟨_, rfl⟩
  have dV : dSq st XV = some (.fix (V.map rws)) := by rw [eXV]; rfl
  rw [← eXV] at c ⊢
  refine ⟨st ++ [.lst X], ?_, .app⟩
  simp [f_act_sum, runB_e, m_act_sum, List.replicate, lComp_e, lc1, wipeD, dV, lV, c, z]
theorem r_act_sums {n : Nat} {V A : List (List Rat)} (W : Wk n V A) {a : Nat} (ha : a < n) : ∃ m st', f_act_sums [vw V, .int (a : Nat), vw A] st = .ok (.ref m) st' ∧ lstAt st' m = some ((A.map (aw V a)).map qd) ∧ Gr st st' := by
  obtain ⟨XV, eXV⟩ : ∃ X, X = vw V := ⟨_, rfl⟩
  obtain ⟨XA, eXA⟩ : ∃ X, X = vw A := ⟨_, rfl⟩
  obtain ⟨ys, s1, e1, rfl, G1⟩ := comp_gen (q := .fix (A.map rws)) (set := gN 3) (ft := HM.tYes) (fe := (eCall 3 f_act_sum (aCons (eVar 0) (aCons (eVar 1) (aCons (eVar 3) aNil))))) (τ := [some XV, some (.int (a : Nat)), some XA, none])
    (fun k acc s => acc = ((A.take k).map (aw V a)).map qd ∧ Gr st s) (fun _ _ _ _ => rfl) (A.map rws) 0 [] st ⟨rfl, .refl⟩ (by
      intro i d acc s hi hp
      obtain ⟨rfl, G⟩ := hp
      obtain ⟨act, hact, rfl⟩ := map_at hi
      rw [Nat.zero_add]
      obtain ⟨s3, e3, G3⟩ := r_act_sum (st := s) W ha (List.mem_of_getElem? hact)
      rw [← eXV] at e3
      refine ⟨[some XV, some (.int (a : Nat)), some XA, some (rws act)], rfl, true, s, rfl, (fun h => nomatch h), fun _ => ⟨qd (aw V a act), s3, by simp [e3], ?_, G.trans G3⟩⟩
      rw [List.take_succ, hact]
      simp)
  rw [List.length_map, Nat.zero_add, List.take_length] at e1
  have lA : A.length ≤ 16777216 := by have := W.a8; omega
  have dA : dSq st XA = some (.fix (A.map rws)) := by rw [eXA]; rfl
  obtain ⟨X, eX⟩ : ∃ X, X = (A.map (aw V a)).map qd := ⟨_, rfl⟩
  rw [← eX] at e1 ⊢
  rw [← eXV, ← eXA]
  refine ⟨s1.length, s1 ++ [.lst X], ?_, lstAt_new, G1.trans .app⟩
  simp [f_act_sums, runB_e, m_act_sums, List.replicate, lComp_e, lc1, wipeD, dA, lA, e1]
theorem r_best_place {K m : Nat} {l : List Rat} (g : lstAt st m = some (l.map qd)) (h0 : 0 < l.length) (h8 : l.length ≤ 8) (hq : ∀ x ∈ l, QB K x) (hK : K ≤ 4000) : f_best_place [.ref m] st = .ok (.int (am l l.length : Nat)) st := by
  have ix : ∀ i : Nat, i < l.length → oIx (.ref m) (.int (i : Nat)) st = .ok (qd (l.getD i 0)) st := fun i hi => by
    rw [oIx_ref g, atI_of (by simpa using hi)]
    simp [hi]
  have rg := rg2_int (i := 1) (j := (l.length : Nat)) (st := st) (by decide) (by omega)
  have lr : (rng 1 (l.length : Nat)).length = l.length - 1 := by
    unfold rng
    simp
  obtain ⟨τ', s', e, ⟨b, rfl⟩, rfl⟩ := for_inv (q := .fix (rng 1 (l.length : Nat))) (set := gN 2) (u := (sIf (tVal (eCall 2 f_is_below (aCons (eBin oIx (eVar 0) (eVar 1)) (aCons (eBin oIx (eVar 0) (eVar 2)) aNil)))) (sSet 1 (eVar 2)) sNil)) (fun k τ s => (∃ b, τ = [some (.ref m), some (.int (am l (k + 1) : Nat)), b]) ∧ s = st) (fun _ _ _ _ => rfl) (rng 1 (l.length : Nat)) 0 [some (.ref m), some (.int 0), none] st ⟨⟨none, by
      have : ¬ l.getD 0 0 < l.getD 0 0 := Rat.lt_irrefl
      simp [am]⟩, rfl⟩ (by
    intro i d τ s hi hp'
    obtain ⟨⟨b, rfl⟩, rfl⟩ := hp'
    have hi2 : i < l.length - 1 := by have := (List.getElem?_eq_some_iff.mp hi).1; omega
    have hd : d = .int ((i + 1 : Nat) : Int) := by
      unfold rng at hi
      rw [List.getElem?_map, List.getElem?_range (show i < ((l.length : Int) - 1).toNat by omega)] at hi
      have := Option.some.inj hi
      rw [← this]
      show D.int (1 + (i : Nat)) = _
      rw [show (1 : Int) + (i : Nat) = ((i + 1 : Nat) : Int) by omega]
    subst hd
    rw [Nat.zero_add]
    have lt := am_lt (l := l) (j := i + 1) (by omega) h0
    have i1 := ix _ lt
    have i2 := ix (i + 1) (by omega)
    have z := r_belowQ (st := s) (hq _ (getD_mem (z := (0 : Rat)) lt)) (hq _ (getD_mem (z := (0 : Rat)) (show i + 1 < l.length by omega))) (by omega)
    have ea : am l (i + 1 + 1) = if l.getD (am l (i + 1)) 0 < l.getD (i + 1) 0 then i + 1 else am l (i + 1) := rfl
    rw [ea]
    obtain ⟨P, eP⟩ : ∃ P, P = l.getD (am l (i + 1)) 0 := ⟨_, rfl⟩
    obtain ⟨R, eR⟩ : ∃ P, P = l.getD (i + 1) 0 := ⟨_, rfl⟩
    obtain ⟨N, eN⟩ : ∃ N, N = am l (i + 1) := ⟨_, rfl⟩
    obtain ⟨J, eJ⟩ : ∃ N, N = i + 1 := ⟨_, rfl⟩
    rw [← eP, ← eR] at z
    rw [← eP] at i1
    rw [← eR, ← eJ] at i2
    rw [← eP, ← eR, ← eJ]
    rw [← eJ] at eN i1
    rw [← eN] at i1 ⊢
    by_cases h : P < R
    · rw [decide_eq_true h] at z
      rw [if_pos h]
      exact ⟨[some (.ref m), some (.int (N : Nat)), some (.int (J : Nat))], rfl, [some (.ref m), some (.int (J : Nat)), some (.int (J : Nat))], s, .inl (by simp [i1, i2, z]), ⟨_, rfl⟩, rfl⟩
    · rw [decide_eq_false h] at z
      rw [if_neg h]
      exact ⟨[some (.ref m), some (.int (N : Nat)), some (.int (J : Nat))], rfl, [some (.ref m), some (.int (N : Nat)), some (.int (J : Nat))], s, .inl (by simp [i1, i2, z]), ⟨_, rfl⟩, rfl⟩)
  rw [lr, show 0 + (l.length - 1) + 1 = l.length by omega] at e
  have ln : fLen [.ref m] s' = .ok (.int l.length) s' := by rw [fLen_ref g]; simp
  unfold f_best_place
  rw [runB_e]
  unfold m_best_place
  simp [List.replicate, sFor_e, ln, rg, e]
end

def worth (n : Nat) (V A : List (List Rat)) : Rat := sumR n fun a => gml (A.map (aw V a))
section
variable {st : Store} {n : Nat} {V A : List (List Rat)}
theorem aw_all (W : Wk n V A) {a : Nat} (ha : a < n) : ∀ x ∈ A.map (aw V a), QB 600 x := fun x hx => by
  obtain ⟨act, hm, rfl⟩ := List.mem_map.mp hx
  exact W.w a ha act hm
theorem gml_q (W : Wk n V A) {a : Nat} (ha : a < n) : QB 600 (gml (A.map (aw V a))) := by
  have h0 : 0 < (A.map (aw V a)).length := by rw [List.length_map]; exact W.a0
  rw [← am_gml h0]
  exact aw_all W ha _ (getD_mem (am_lt (Nat.le_refl _) h0))
theorem vhead (W : Wk n V A) {s : Store} : oIx (vw V) (.int 0) s = .ok (rws (V.headD [])) s ∧ fLen [rws (V.headD [])] s = .ok (.int (n : Nat)) s := ⟨ix_vw0 W.v0, by rw [ln_rws, W.v.head W.v0]⟩
theorem r_worth_of (W : Wk n V A) : ∃ st', f_worth_of [vw V, vw A] st = .ok (qd (worth n V A)) st' ∧ Gr st st' := by
  have vh := fun s => vhead W (s := s)
  obtain ⟨XV, eXV⟩ : ∃ X, X = vw V := ⟨_, rfl⟩
  obtain ⟨XA, eXA⟩ : ∃ X, X = vw A := ⟨_, rfl⟩
  obtain ⟨HD, eHD⟩ : ∃ X, X = rws (V.headD []) := ⟨_, rfl⟩
  rw [← eXV, ← eHD] at vh
  obtain ⟨f, ef⟩ : ∃ f : Nat → Rat, f = fun a => gml (A.map (aw V a)) := ⟨_, rfl⟩
  have rg : ∀ s, rg1 (.int (n : Nat)) s = .ok (.fix (rng 0 n)) s := fun s => rg1_int (by have := W.n8; omega)
  obtain ⟨τ', s1, e1, ⟨t3, t4, rfl⟩, G1⟩ := for_inv (q := .fix (rng 0 n)) (set := gN 3) (u := (sSeq (sSet 4 (eCall 3 f_act_sums (aCons (eVar 0) (aCons (eVar 3) (aCons (eVar 1) aNil)))))
    (sSet 2 (eCall 2 f_plus (aCons (eVar 2) (aCons (eBin oIx (eVar 4) (eCall 1 f_best_place (aCons (eVar 4) aNil))) aNil))))))
    (fun k τ s => (∃ t3 t4, τ = [some XV, some XA, some (qd (sumR k f)), t3, t4]) ∧ Gr st s) (fun _ _ _ _ => rfl) (rng 0 n) 0 [some XV, some XA, some (qd 0), none, none] st ⟨⟨_, _, rfl⟩, .refl⟩ (by
      intro i d τ s hi hp
      obtain ⟨⟨t3, t4, rfl⟩, G⟩ := hp
      have hi2 : i < n := by have := (List.getElem?_eq_some_iff.mp hi).1; rwa [rng_len] at this
      have hd : d = .int (i : Nat) := by
        rw [rng_eq, List.getElem?_map, List.getElem?_range hi2] at hi
        exact (Option.some.inj hi).symm
      subst hd
      rw [Nat.zero_add]
      obtain ⟨m, s3, e3, g3, G3⟩ := r_act_sums (st := s) W hi2
      rw [← eXV, ← eXA] at e3
      have h0 : 0 < (A.map (aw V i)).length := by rw [List.length_map]; exact W.a0
      have h8 : (A.map (aw V i)).length ≤ 8 := by rw [List.length_map]; exact W.a8
      have bp := r_best_place g3 h0 h8 (aw_all W hi2) (by decide)
      have lt := am_lt (l := A.map (aw V i)) (Nat.le_refl _) h0
      have ix : oIx (.ref m) (.int (am (A.map (aw V i)) (A.map (aw V i)).length : Nat)) s3 = .ok (qd (f i)) s3 := by
        rw [oIx_ref g3, atI_of (by simpa using lt)]
        rw [ef]
        show _ = ER.ok (qd (gml (A.map (aw V i)))) s3
        rw [← am_gml h0, List.getD_eq_getElem?_getD, List.getElem?_eq_getElem lt]
        simp
      have qf : QB 600 (f i) := by rw [ef]; exact gml_q W hi2
      have q4 := sumR_qb (K := 600) (f := f) (n := i) fun j hj => by rw [ef]; exact gml_q W (by omega)
      have := W.n8
      have : (600 + 1) * i ≤ (600 + 1) * 8 := Nat.mul_le_mul_left _ (by omega)
      have z := r_plusQ (st := s3) q4 qf (by omega)
      obtain ⟨N, eN⟩ : ∃ N, N = am (A.map (aw V i)) (A.map (aw V i)).length := ⟨_, rfl⟩
      rw [← eN] at bp ix
      exact ⟨[some XV, some XA, some (qd (sumR i f)), some (.int (i : Nat)), t4], rfl, [some XV, some XA, some (qd (sumR (i + 1) f)), some (.int (i : Nat)), some (.ref m)], s3, .inl (by simp [e3, bp, ix, z, sumR]), ⟨_, _, rfl⟩, G.trans G3⟩)
  rw [rng_len, Nat.zero_add] at e1
  have hz : q_ZERO = qd 0 := rfl
  have ea : qd (worth n V A) = qd (sumR n f) := by rw [ef]; rfl
  refine ⟨s1, ?_, G1⟩
  unfold f_worth_of
  rw [runB_e, ← eXV, ← eXA, ea]
  unfold m_worth_of
  rw [hz]
  simp [List.replicate, vh, sFor_e, rg, e1]
theorem r_best_acts (W : Wk n V A) : ∃ st', f_best_acts [vw V, vw A] st = .ok (.tup ((List.range n).map fun a => D.int (am (A.map (aw V a)) A.length : Nat))) st' ∧ Gr st st' := by
  have vh := fun s => vhead W (s := s)
  obtain ⟨XV, eXV⟩ : ∃ X, X = vw V := ⟨_, rfl⟩
  obtain ⟨XA, eXA⟩ : ∃ X, X = vw A := ⟨_, rfl⟩
  obtain ⟨HD, eHD⟩ : ∃ X, X = rws (V.headD []) := ⟨_, rfl⟩
  rw [← eXV, ← eHD] at vh
  have rg : ∀ s, rg1 (.int (n : Nat)) s = .ok (.fix (rng 0 n)) s := fun s => rg1_int (by have := W.n8; omega)
  have lr : (rng 0 (n : Nat)).length ≤ 16777216 := by rw [rng_len]; have := W.n8; omega
  obtain ⟨ys, s1, e1, rfl, G1⟩ := comp_gen (q := .fix (rng 0 n)) (set := gN 2) (ft := HM.tYes) (fe := (eCall 1 f_best_place (aCons (eCall 3 f_act_sums (aCons (eVar 0) (aCons (eVar 2) (aCons (eVar 1) aNil)))) aNil))) (τ := [some XV, some XA, none])
    (fun k acc s => acc = (List.range k).map (fun a => D.int (am (A.map (aw V a)) A.length : Nat)) ∧ Gr st s) (fun _ _ _ _ => rfl) (rng 0 n) 0 [] st ⟨rfl, .refl⟩ (by
      intro i d acc s hi hp
      obtain ⟨rfl, G⟩ := hp
      have hi2 : i < n := by have := (List.getElem?_eq_some_iff.mp hi).1; rwa [rng_len] at this
      have hd : d = .int (i : Nat) := by
        rw [rng_eq, List.getElem?_map, List.getElem?_range hi2] at hi
        exact (Option.some.inj hi).symm
      subst hd
      rw [Nat.zero_add]
      obtain ⟨m, s3, e3, g3, G3⟩ := r_act_sums (st := s) W hi2
      rw [← eXV, ← eXA] at e3
      have h0 : 0 < (A.map (aw V i)).length := by rw [List.length_map]; exact W.a0
      have h8 : (A.map (aw V i)).length ≤ 8 := by rw [List.length_map]; exact W.a8
      have bp := r_best_place g3 h0 h8 (aw_all W hi2) (by decide)
      rw [show (A.map (aw V i)).length = A.length by simp] at bp
      refine ⟨[some XV, some XA, some (.int (i : Nat))], rfl, true, s, rfl, (fun h => nomatch h), fun _ => ⟨.int (am (A.map (aw V i)) A.length : Nat), s3, by simp [e3, bp], ?_, G.trans G3⟩⟩
      rw [List.range_succ, List.map_append]
      rfl)
  rw [rng_len, Nat.zero_add] at e1
  obtain ⟨Y, eY⟩ : ∃ Y, Y = (List.range n).map fun a => D.int (am (A.map (aw V a)) A.length : Nat) := ⟨_, rfl⟩
  rw [← eY] at e1 ⊢
  rw [← eXV, ← eXA]
  refine ⟨s1, ?_, G1⟩
  simp [f_best_acts, runB_e, m_best_acts, List.replicate, vh, lComp_e, lc1, wipeD, rg, lr, e1]
theorem r_lact_worth (W : Wk n V A) {a : Nat} (ha : a < n) {act : List Rat} (hm : act ∈ A) : ∃ st', f__law_act_worth [vw V, .int (a : Nat), rws act] st = .ok (qd (aw V a act)) st' ∧ Gr st st' := by
  obtain ⟨hl, hq⟩ := W.a act hm
  have q1 := aw_q W ha hm
  have W8 := W.v8
  have c := comp_map (q := .fix (rng 0 V.length)) (set := gN 3) (fe := (eCall 2 f__law_times (aCons (eBin oIx (eBin oIx (eVar 0) (eVar 3)) (eVar 1)) (aCons (eBin oIx (eVar 2) (eVar 3)) aNil)))) (τ := [some (vw V), some (.int (a : Nat)), some (rws act), none]) (st := st) rfl (fun s : Nat => D.int s) (fun s : Nat => qd ((V.getD s []).getD a 0 * act.getD s 0)) (List.range V.length) [] (fun s hs => ⟨[some (vw V), some (.int (a : Nat)), some (rws act), some (.int (s : Nat))], rfl, by
    have hs := List.mem_range.mp hs
    have i1 : oIx (vw V) (.int (s : Nat)) st = .ok (rws (V.getD s [])) st := ix_vw hs
    have i2 : oIx (rws (V.getD s [])) (.int (a : Nat)) st = .ok (qd ((V.getD s []).getD a 0)) st := ix_rws (by have := (W.v.at hs ha).1; omega)
    have i3 : oIx (rws act) (.int (s : Nat)) st = .ok (qd (act.getD s 0)) st := ix_rws (by omega)
    have z := r_ltimesQ (st := st) (W.v.at hs ha).2 (hq _ (getD_mem (z := (0 : Rat)) (show s < act.length by omega))) (by omega)
    obtain ⟨P1, e1⟩ : ∃ P, P = rws (V.getD s []) := ⟨_, rfl⟩
    obtain ⟨P2, e2⟩ : ∃ P, P = qd ((V.getD s []).getD a 0) := ⟨_, rfl⟩
    obtain ⟨P3, e3⟩ : ∃ P, P = qd (act.getD s 0) := ⟨_, rfl⟩
    obtain ⟨P4, e4⟩ : ∃ P, P = qd ((V.getD s []).getD a 0 * act.getD s 0) := ⟨_, rfl⟩
    rw [← e1] at i1 i2
    rw [← e2] at i2 z
    rw [← e3] at i3 z
    rw [← e4] at z ⊢
    simp [i1, i2, i3, z]⟩)
  rw [← rng_eq, List.nil_append] at c
  obtain ⟨X, eX⟩ : ∃ X, X = (List.range V.length).map fun s : Nat => qd ((V.getD s []).getD a 0 * act.getD s 0) := ⟨_, rfl⟩
  have g := lstAt_new (a := st) (xs := X)
  have zt := r_ltotal (st := st ++ [.lst X]) (m := st.length) (n := V.length) (f := fun s => (V.getD s []).getD a 0 * act.getD s 0) (by rw [← eX]; exact g) q1 (by
    have : (700 + 1) * V.length ≤ (700 + 1) * 8 := Nat.mul_le_mul_left _ W8
    omega)
  have zt : f__law_total [.ref st.length] (st ++ [.lst X]) = .ok (qd (aw V a act)) (st ++ [.lst X]) := zt
  rw [← eX] at c
  have rg : rg1 (.int (V.length : Nat)) st = .ok (.fix (rng 0 V.length)) st := rg1_int (by omega)
  have lr : (rng 0 (V.length : Nat)).length ≤ 16777216 := by rw [rng_len]; omega
  have lV := ln_vw (V := V) (s := st)
  obtain ⟨XV, eXV⟩ : ∃ X, X = vw V := ⟨_, rfl⟩
  obtain ⟨XR, eXR⟩ : ∃ X, X = rws act := ⟨_, rfl⟩
  rw [← eXV] at c lV ⊢
  rw [← eXR] at c ⊢
  refine ⟨st ++ [.lst X], ?_, .app⟩
  simp [f__law_act_worth, runB_e, m__law_act_worth, List.replicate, lV, lComp_e, lc1, wipeD, rg, lr, c, zt]
theorem r_lsums (W : Wk n V A) {a : Nat} (ha : a < n) {ai own : Nat} {τ : Sl} (hτ : ∀ act ∈ A, ∃ τ1, gN own (rws act) τ = some τ1 ∧ ∀ s, (eCall 3 f__law_act_worth (aCons (eVar 0) (aCons (eVar ai) (aCons (eVar own) aNil)))) τ1 s = f__law_act_worth [vw V, .int (a : Nat), rws act] s) :
    ∃ s1, compL (.fix (A.map rws)) (gN own) HM.tYes (eCall 3 f__law_act_worth (aCons (eVar 0) (aCons (eVar ai) (aCons (eVar own) aNil)))) τ (A.map rws) [] st = .ok ((A.map (aw V a)).map qd) s1 ∧ Gr st s1 := by
  obtain ⟨ys, s1, e1, rfl, G1⟩ := comp_gen (q := .fix (A.map rws)) (set := gN own) (ft := HM.tYes) (fe := (eCall 3 f__law_act_worth (aCons (eVar 0) (aCons (eVar ai) (aCons (eVar own) aNil))))) (τ := τ)
    (fun k acc s => acc = ((A.take k).map (aw V a)).map qd ∧ Gr st s) (fun _ _ _ _ => rfl) (A.map rws) 0 [] st ⟨rfl, .refl⟩ (by
      intro i d acc s hi hp
      obtain ⟨rfl, G⟩ := hp
      obtain ⟨act, hact, rfl⟩ := map_at hi
      rw [Nat.zero_add]
      obtain ⟨s3, e3, G3⟩ := r_lact_worth (st := s) W ha (List.mem_of_getElem? hact)
      obtain ⟨τ1, h1, h2⟩ := hτ act (List.mem_of_getElem? hact)
      refine ⟨τ1, h1, true, s, rfl, (fun h => nomatch h), fun _ => ⟨qd (aw V a act), s3, by rw [h2, e3], ?_, G.trans G3⟩⟩
      rw [List.take_succ, hact]
      simp)
  rw [List.length_map, Nat.zero_add, List.take_length] at e1
  exact ⟨s1, e1, G1⟩
theorem r_lbest_number (W : Wk n V A) {a : Nat} (ha : a < n) : ∃ st', f__law_best_number [vw V, .int (a : Nat), vw A] st = .ok (.int (am (A.map (aw V a)) A.length : Nat)) st' ∧ Gr st st' := by
  obtain ⟨s1, e1, G1⟩ := r_lsums (st := st) W ha (ai := 1) (own := 6) (τ := [some (vw V), some (.int (a : Nat)), some (vw A), none, none, none, none]) (fun act _ => ⟨[some (vw V), some (.int (a : Nat)), some (vw A), none, none, none, some (rws act)], rfl, fun s => by simp⟩)
  obtain ⟨l, el⟩ : ∃ l, l = A.map (aw V a) := ⟨_, rfl⟩
  have ll : l.length = A.length := by rw [el]; simp
  have hq : ∀ x ∈ l, QB 600 x := by rw [el]; exact aw_all W ha
  rw [← el] at e1 ⊢
  have a0 := W.a0
  have a8 := W.a8
  obtain ⟨m, em⟩ : ∃ m, m = s1.length := ⟨_, rfl⟩
  obtain ⟨s2, es2⟩ : ∃ s2, s2 = s1 ++ [.lst (l.map qd)] := ⟨_, rfl⟩
  have g : lstAt s2 m = some (l.map qd) := by rw [es2, em]; exact lstAt_new
  have ix : ∀ i : Nat, i < l.length → oIx (.ref m) (.int (i : Nat)) s2 = .ok (qd (l.getD i 0)) s2 := fun i hi => by
    rw [oIx_ref g, atI_of (by simpa using hi)]
    simp [hi]
  obtain ⟨XV, eXV⟩ : ∃ X, X = vw V := ⟨_, rfl⟩
  obtain ⟨XA, eXA⟩ : ∃ X, X = vw A := ⟨_, rfl⟩
  have dA : dSq st XA = some (.fix (A.map rws)) := by rw [eXA]; rfl
  rw [← eXV, ← eXA] at e1 ⊢
  have rg : ∀ s, rg1 (.int (A.length : Nat)) s = .ok (.fix (rng 0 A.length)) s := fun s => rg1_int (by omega)
  obtain ⟨τ', s', e, ⟨b, rfl⟩, hs'⟩ := for_inv (q := .fix (rng 0 A.length)) (set := gN 5) (u := (sIf (tVal (eCall 2 f__law_less (aCons (eBin oIx (eVar 3) (eVar 4)) (aCons (eBin oIx (eVar 3) (eVar 5)) aNil)))) (sSet 4 (eVar 5)) sNil)) (fun k τ s => (∃ b, τ = [some XV, some (.int (a : Nat)), some XA, some (.ref m), some (.int (am l k : Nat)), b, none]) ∧ s = s2) (fun _ _ _ _ => rfl) (rng 0 A.length) 0 [some XV, some (.int (a : Nat)), some XA, some (.ref m), some (.int 0), none, none] s2 ⟨⟨none, rfl⟩, rfl⟩ (by
    intro i d τ s hi hp'
    obtain ⟨⟨b, rfl⟩, hs⟩ := hp'
    rw [hs]
    have hi2 : i < A.length := by have := (List.getElem?_eq_some_iff.mp hi).1; rwa [rng_len] at this
    have hd : d = .int (i : Nat) := by
      rw [rng_eq, List.getElem?_map, List.getElem?_range hi2] at hi
      exact (Option.some.inj hi).symm
    subst hd
    rw [Nat.zero_add]
    have lt := am_lt (l := l) (j := i) (by omega) (by omega)
    have i1 := ix _ lt
    have i2 := ix i (by omega)
    have z := r_llessQ (st := s2) (hq _ (getD_mem (z := (0 : Rat)) lt)) (hq _ (getD_mem (z := (0 : Rat)) (show i < l.length by omega))) (by decide)
    have ea : am l (i + 1) = if l.getD (am l i) 0 < l.getD i 0 then i else am l i := rfl
    rw [ea]
    obtain ⟨P, eP⟩ : ∃ P, P = l.getD (am l i) 0 := ⟨_, rfl⟩
    obtain ⟨R, eR⟩ : ∃ P, P = l.getD i 0 := ⟨_, rfl⟩
    obtain ⟨N, eN⟩ : ∃ N, N = am l i := ⟨_, rfl⟩
    rw [← eP, ← eR] at z
    rw [← eP, ← eN] at i1
    rw [← eR] at i2
    rw [← eP, ← eR, ← eN]
    by_cases h : P < R
    · rw [decide_eq_true h] at z
      rw [if_pos h]
      exact ⟨[some XV, some (.int (a : Nat)), some XA, some (.ref m), some (.int (N : Nat)), some (.int (i : Nat)), none], rfl, [some XV, some (.int (a : Nat)), some XA, some (.ref m), some (.int (i : Nat)), some (.int (i : Nat)), none], s2, .inl (by simp [i1, i2, z]), ⟨_, rfl⟩, rfl⟩
    · rw [decide_eq_false h] at z
      rw [if_neg h]
      exact ⟨[some XV, some (.int (a : Nat)), some XA, some (.ref m), some (.int (N : Nat)), some (.int (i : Nat)), none], rfl, [some XV, some (.int (a : Nat)), some XA, some (.ref m), some (.int (N : Nat)), some (.int (i : Nat)), none], s2, .inl (by simp [i1, i2, z]), ⟨_, rfl⟩, rfl⟩)
  rw [rng_len, Nat.zero_add, hs'] at e
  have ln : fLen [.ref m] s2 = .ok (.int (A.length : Nat)) s2 := by rw [fLen_ref g]; simp [ll]
  have lA : A.length ≤ 16777216 := by omega
  refine ⟨s2, ?_, by rw [es2]; exact G1.trans .app⟩
  have es2' : s1 ++ [Cell.lst (l.map qd)] = s2 := es2.symm
  obtain ⟨LQ, eLQ⟩ : ∃ LQ, LQ = l.map qd := ⟨_, rfl⟩
  rw [← eLQ] at e1 es2'
  unfold f__law_best_number
  rw [runB_e]
  unfold m__law_best_number
  simp [List.replicate, lComp_e, lc1, wipeD, dA, lA, e1, es2', ← em, sFor_e, ln, rg, e]
theorem r_lgreat {m : Nat} {l : List Rat} (g : lstAt st m = some (l.map qd)) (h0 : 0 < l.length) (hq : ∀ x ∈ l, QB 600 x) : f__law_great [.ref m] st = .ok (qd (gml l)) st := by
  cases l with
  | nil => simp at h0
  | cons x l => exact r_lgreatQ g hq (by decide)
theorem r_lworth (W : Wk n V A) : ∃ st', f__law_worth [vw V, vw A] st = .ok (qd (worth n V A)) st' ∧ Gr st st' := by
  have vh := fun s => vhead W (s := s)
  have a0 := W.a0
  have a8 := W.a8
  have n8 := W.n8
  have lA : A.length ≤ 16777216 := by omega
  have sums := fun (s : Store) {a : Nat} (ha : a < n) (f : D) => r_lsums (st := s) W ha (ai := 3) (own := 4) (τ := [some (vw V), some (vw A), some f, some (.int (a : Nat)), none]) (fun act _ => ⟨[some (vw V), some (vw A), some f, some (.int (a : Nat)), some (rws act)], rfl, fun s => by simp⟩)
  obtain ⟨XV, eXV⟩ : ∃ X, X = vw V := ⟨_, rfl⟩
  obtain ⟨XA, eXA⟩ : ∃ X, X = vw A := ⟨_, rfl⟩
  have dA : ∀ s, dSq s XA = some (.fix (A.map rws)) := fun s => by rw [eXA]; rfl
  obtain ⟨HD, eHD⟩ : ∃ X, X = rws (V.headD []) := ⟨_, rfl⟩
  rw [← eXV, ← eHD] at vh
  rw [← eXV, ← eXA] at sums ⊢
  obtain ⟨f, ef⟩ : ∃ f : Nat → Rat, f = fun a => gml (A.map (aw V a)) := ⟨_, rfl⟩
  have rg : ∀ s, rg1 (.int (n : Nat)) s = .ok (.fix (rng 0 n)) s := fun s => rg1_int (by omega)
  obtain ⟨τ', s1, e1, ⟨t3, rfl⟩, G1⟩ := for_inv (q := .fix (rng 0 n)) (set := gN 3) (u := (sSet 2 (eCall 2 f__law_plus (aCons (eVar 2) (aCons (eCall 1 f__law_great (aCons (eEl (lComp [4] (iEx (eVar 1)) (gN 4) HM.tYes (eCall 3 f__law_act_worth (aCons (eVar 0) (aCons (eVar 3) (aCons (eVar 4) aNil)))))) aNil)) aNil)))))
    (fun k τ s => (∃ t3, τ = [some XV, some XA, some (qd (sumR k f)), t3, none]) ∧ Gr st s) (fun _ _ _ _ => rfl) (rng 0 n) 0 [some XV, some XA, some (qd 0), none, none] st ⟨⟨_, rfl⟩, .refl⟩ (by
      intro i d τ s hi hp
      obtain ⟨⟨t3, rfl⟩, G⟩ := hp
      have hi2 : i < n := by have := (List.getElem?_eq_some_iff.mp hi).1; rwa [rng_len] at this
      have hd : d = .int (i : Nat) := by
        rw [rng_eq, List.getElem?_map, List.getElem?_range hi2] at hi
        exact (Option.some.inj hi).symm
      subst hd
      rw [Nat.zero_add]
      obtain ⟨s3, e3, G3⟩ := sums s hi2 (qd (sumR i f))
      have h0 : 0 < (A.map (aw V i)).length := by rw [List.length_map]; exact W.a0
      obtain ⟨LQ, eLQ⟩ : ∃ LQ, LQ = (A.map (aw V i)).map qd := ⟨_, rfl⟩
      have gr := r_lgreat (st := s3 ++ [.lst LQ]) (m := s3.length) (l := A.map (aw V i)) (by rw [← eLQ]; exact lstAt_new) h0 (aw_all W hi2)
      have gr : f__law_great [.ref s3.length] (s3 ++ [.lst LQ]) = .ok (qd (f i)) (s3 ++ [.lst LQ]) := by rw [gr, ef]
      have qf : QB 600 (f i) := by rw [ef]; exact gml_q W hi2
      have q4 := sumR_qb (K := 600) (f := f) (n := i) fun j hj => by rw [ef]; exact gml_q W (by omega)
      have : (600 + 1) * i ≤ (600 + 1) * 8 := Nat.mul_le_mul_left _ (by omega)
      have z := r_lplusQ (st := s3 ++ [.lst LQ]) q4 qf (by omega)
      rw [← eLQ] at e3
      obtain ⟨FI, eFI⟩ : ∃ F, F = f i := ⟨_, rfl⟩
      exact ⟨[some XV, some XA, some (qd (sumR i f)), some (.int (i : Nat)), none], rfl, [some XV, some XA, some (qd (sumR (i + 1) f)), some (.int (i : Nat)), none], s3 ++ [.lst LQ], .inl (by simp [lComp_e, lc1, wipeD, dA, lA, e3, gr, z, sumR]), ⟨_, rfl⟩, (G.trans G3).trans .app⟩)
  rw [rng_len, Nat.zero_add] at e1
  have ea : qd (worth n V A) = qd (sumR n f) := by rw [ef]; rfl
  refine ⟨s1, ?_, G1⟩
  unfold f__law_worth
  rw [runB_e, ea]
  unfold m__law_worth
  simp [List.replicate, vh, zero_qd, sFor_e, rg, e1]
theorem r_lints {f : Nat → Int} (hn : n ≤ 1000) {s : Store} : f__law_is_ints [.tup ((List.range n).map fun a => D.int (f a))] s = .ok (.bl true) s := by
  obtain ⟨R, eR⟩ : ∃ R, R = (List.range n).map fun a => D.int (f a) := ⟨_, rfl⟩
  have c := comp_map (q := .fix R) (set := gN 1) (fe := (eCall 1 f__law_is_int (aCons (eVar 1) aNil))) (τ := [some (.tup R), none]) (st := s) rfl (fun k : Nat => D.int (f k)) (fun _ : Nat => D.bl true) (List.range n) [] (fun k _ => ⟨[some (.tup R), some (.int (f k))], rfl, by simp [r_is_int]⟩)
  rw [← eR, List.nil_append] at c
  have ga : gAllB ((List.range n).map fun _ : Nat => D.bl true) s = .ok (.bl true) s := by
    have := gAllB_map (f := fun _ : Nat => true) (xs := List.range n) (st := s)
    rw [this]
    congr 2
    simp
  have hl : R.length ≤ 16777216 := by rw [eR]; simp; omega
  obtain ⟨A, eA⟩ : ∃ A, A = (List.range n).map fun _ : Nat => D.bl true := ⟨_, rfl⟩
  rw [← eA] at c ga
  rw [← eR]
  simp [f__law_is_ints, runB_e, m__law_is_ints, List.replicate, lComp_e, lc1, wipeD, hl, c, ga]
theorem r_worth_right (W : Wk n V A) (hw : QB 4000 (worth n V A)) : ∃ st', f__law_worth_right [vw V, vw A] st = .ok (.bl true) st' ∧ Gr st st' := by
  obtain ⟨s1, e1, G1⟩ := r_worth_of (st := st) W
  have z1 := r_is_fracQ (st := s1) hw (by decide)
  obtain ⟨s2, e2, G2⟩ := r_lworth (st := s1) W
  obtain ⟨s3, e3, G3⟩ := r_best_acts (st := s2) W
  have n8 := W.n8
  have vh := fun s => vhead W (s := s)
  have lr : (rng 0 (n : Nat)).length ≤ 16777216 := by rw [rng_len]; omega
  have rg : ∀ s, rg1 (.int (n : Nat)) s = .ok (.fix (rng 0 n)) s := fun s => rg1_int (by omega)
  obtain ⟨wv, ewv⟩ : ∃ w, w = worth n V A := ⟨_, rfl⟩
  rw [← ewv] at e1 e2 z1
  obtain ⟨Y, eY⟩ : ∃ Y, Y = (List.range n).map fun a => D.int (am (A.map (aw V a)) A.length : Nat) := ⟨_, rfl⟩
  have li : ∀ s, f__law_is_ints [.tup Y] s = .ok (.bl true) s := fun s => by rw [eY]; exact r_lints (f := fun a => (am (A.map (aw V a)) A.length : Nat)) (by omega)
  have pl : (D.tup Y).plain 60 = true := by
    rw [plain_tup, eY, List.all_eq_true]
    intro x hx
    obtain ⟨y, _, rfl⟩ := List.mem_map.mp hx
    simp
  obtain ⟨ys, s4, e4, rfl, G4⟩ := comp_gen (q := .fix (rng 0 n)) (set := gN 5) (ft := HM.tYes) (fe := (eCall 3 f__law_best_number (aCons (eVar 0) (aCons (eVar 5) (aCons (eVar 1) aNil))))) (τ := [some (vw V), some (vw A), some (qd wv), some (.tup Y), none, none])
    (fun k acc s => acc = (List.range k).map (fun a => D.int (am (A.map (aw V a)) A.length : Nat)) ∧ Gr s3 s) (fun _ _ _ _ => rfl) (rng 0 n) 0 [] s3 ⟨rfl, .refl⟩ (by
      intro i d acc s hi hp
      obtain ⟨rfl, G⟩ := hp
      have hi2 : i < n := by have := (List.getElem?_eq_some_iff.mp hi).1; rwa [rng_len] at this
      have hd : d = .int (i : Nat) := by
        rw [rng_eq, List.getElem?_map, List.getElem?_range hi2] at hi
        exact (Option.some.inj hi).symm
      subst hd
      rw [Nat.zero_add]
      obtain ⟨s5, e5, G5⟩ := r_lbest_number (st := s) W hi2
      refine ⟨[some (vw V), some (vw A), some (qd wv), some (.tup Y), none, some (.int (i : Nat))], rfl, true, s, rfl, (fun h => nomatch h), fun _ => ⟨.int (am (A.map (aw V i)) A.length : Nat), s5, by simp [e5], ?_, G.trans G5⟩⟩
      rw [List.range_succ, List.map_append]
      rfl)
  rw [rng_len, Nat.zero_add, ← eY] at e4
  rw [← eY] at e3
  obtain ⟨XV, eXV⟩ : ∃ X, X = vw V := ⟨_, rfl⟩
  obtain ⟨XA, eXA⟩ : ∃ X, X = vw A := ⟨_, rfl⟩
  obtain ⟨HD, eHD⟩ : ∃ X, X = rws (V.headD []) := ⟨_, rfl⟩
  rw [← eXV, ← eHD] at vh
  rw [← eXV, ← eXA] at e1 e2 e3 e4 ⊢
  refine ⟨s4, ?_, ((G1.trans G2).trans G3).trans G4⟩
  simp [f__law_worth_right, runB_e, m__law_worth_right, List.replicate, e1, z1, e2, ne_qd, e3, vh, lComp_e, lc1, wipeD, rg, lr, e4, li, pl]
end

/-! the plain law -/
/-- an integer over D, of at most so much -/
def Bq (D N : Nat) (x : Rat) : Prop := ∃ a : Int, x * ((D : Int) : Rat) = (a : Rat) ∧ a.natAbs ≤ N
theorem Bq.zero {D : Nat} : Bq D 0 0 := ⟨0, by rw [Rat.zero_mul]; rfl, Nat.le_refl _⟩
theorem Bq.add {D N M : Nat} {x y : Rat} (hx : Bq D N x) (hy : Bq D M y) : Bq D (N + M) (x + y) := by
  obtain ⟨a, ea, ha⟩ := hx
  obtain ⟨b, eb, hb⟩ := hy
  exact ⟨a + b, by rw [Rat.intCast_add, ← ea, ← eb, Rat.add_mul], by omega⟩
theorem Bq.mul {D E N M : Nat} {x y : Rat} (hx : Bq D N x) (hy : Bq E M y) : Bq (D * E) (N * M) (x * y) := by
  obtain ⟨a, ea, ha⟩ := hx
  obtain ⟨b, eb, hb⟩ := hy
  refine ⟨a * b, ?_, by rw [Int.natAbs_mul]; exact Nat.mul_le_mul ha hb⟩
  rw [Rat.intCast_mul, ← ea, ← eb, Int.natCast_mul, Rat.intCast_mul]
  grind
theorem Bq.up {D N M : Nat} {x : Rat} (hx : Bq D N x) (h : N ≤ M) : Bq D M x := by
  obtain ⟨a, ea, ha⟩ := hx
  exact ⟨a, ea, by omega⟩
theorem Bq.sum {D N n : Nat} {f : Nat → Rat} (h : ∀ i, i < n → Bq D N (f i)) : Bq D (n * N) (sumR n f) := by
  induction n with
  | zero => rw [Nat.zero_mul]; exact .zero
  | succ n ih =>
    rw [sumR, Nat.succ_mul]
    exact (ih fun i hi => h i (by omega)).add (h n (by omega))
theorem dne {D : Nat} (h : 0 < D) : ((D : Int) : Rat) ≠ 0 := fun e => by have := Rat.intCast_eq_zero_iff.mp e; omega
theorem dpos {D : Nat} : 0 ≤ ((D : Int) : Rat) := Rat.intCast_le_intCast.mpr (show (0 : Int) ≤ (D : Int) by omega)
theorem Bq.qb {D N k : Nat} {x : Rat} (hx : Bq D N x) (h0 : 0 < D) (h1 : D < 2 ^ k) (h2 : N < 2 ^ k) : QB k x := by
  obtain ⟨a, ea, ha⟩ := hx
  have e : x = Rat.divInt a (D : Nat) := by
    rw [Rat.divInt_eq_div]
    have := dne h0
    grind
  rw [e]
  exact .of (by omega) (by omega) (by rw [Int.natAbs_natCast]; exact h1)
theorem Bq.unit {D N : Nat} {x : Rat} (hx : Bq D N x) (h0 : 0 ≤ x) (h1 : x ≤ 1) : Bq D D x := by
  obtain ⟨a, ea, ha⟩ := hx
  refine ⟨a, ea, ?_⟩
  have d := dpos (D := D)
  have a0 : (0 : Rat) ≤ (a : Rat) := by rw [← ea]; exact Rat.mul_nonneg h0 d
  have a1 : (a : Rat) ≤ ((D : Int) : Rat) := by
    rw [← ea]
    have := Rat.mul_nonneg (show 0 ≤ 1 - x by grind) d
    grind
  have a0 : (0 : Int) ≤ a := Rat.intCast_le_intCast.mp a0
  have a1 : a ≤ (D : Int) := Rat.intCast_le_intCast.mp a1
  omega
theorem gmax_ge : ∀ (l : List Rat) (x : Rat), x ≤ gmax x l ∧ ∀ y ∈ l, y ≤ gmax x l
  | [], x => ⟨Rat.le_refl, by simp⟩
  | z :: l, x => by
    have e : gmax x (z :: l) = gmax (if x < z then z else x) l := rfl
    rw [e]
    obtain ⟨h1, h2⟩ := gmax_ge l (if x < z then z else x)
    have hx : x ≤ (if x < z then z else x) ∧ z ≤ (if x < z then z else x) := by
      split <;> grind
    refine ⟨Rat.le_trans hx.1 h1, fun y hy => ?_⟩
    rcases List.mem_cons.mp hy with rfl | hy
    · exact Rat.le_trans hx.2 h1
    · exact h2 y hy
theorem gml_ge {l : List Rat} {x : Rat} (h : x ∈ l) : x ≤ gml l := (gmax_ge l _).2 x h
theorem gml_mem {l : List Rat} (h : 0 < l.length) : gml l ∈ l := by
  rw [← am_gml h]
  exact getD_mem (am_lt (Nat.le_refl _) h)
theorem gd_range {n p : Nat} {f : Nat → Rat} (h : p < n) : ((List.range n).map f).getD p 0 = f p := by simp [h]
/-- rows of chances -/
structure Vk (n : Nat) (V : List (List Rat)) : Prop where
  r : ∀ r ∈ V, r.length = n ∧ (∀ x ∈ r, 0 ≤ x) ∧ sumR n (fun a => r.getD a 0) = 1
def Dv (D : Nat) (V : List (List Rat)) : Prop := ∀ r ∈ V, ∀ x ∈ r, Bq D D x
theorem Vk.le {n : Nat} {V : List (List Rat)} (h : Vk n V) {r : List Rat} (hr : r ∈ V) {x : Rat} (hx : x ∈ r) : x ≤ 1 := by
  obtain ⟨h1, h2, h3⟩ := h.r r hr
  obtain ⟨i, hi, rfl⟩ := List.getElem_of_mem hx
  have := sumR_one (n := n) (f := fun a => r.getD a 0) (fun a ha => h2 _ (getD_mem (by omega))) (i := i) (by omega)
  rw [h3] at this
  simpa [hi] using this
theorem Vk.vb {n D k : Nat} {V : List (List Rat)} (h : Vk n V) (d : Dv D V) (h0 : 0 < D) (hk : D < 2 ^ k) : Vb k n V := ⟨fun r hr => ⟨(h.r r hr).1, fun x hx => (d r hr x hx).qb h0 hk hk⟩⟩
theorem Vk.head {n : Nat} {V : List (List Rat)} (h : Vk n V) (h0 : 0 < V.length) : (V.headD []).length = n := by
  cases V with
  | nil => simp at h0
  | cons r V => exact (h.r r (List.mem_cons_self ..)).1
theorem Vk.at {n : Nat} {V : List (List Rat)} (h : Vk n V) {i : Nat} (hi : i < V.length) : (V.getD i []).length = n ∧ (∀ p, p < n → 0 ≤ (V.getD i []).getD p 0) ∧ sumR n (fun a => (V.getD i []).getD a 0) = 1 := by
  obtain ⟨h1, h2, h3⟩ := h.r _ (getD_mem (z := []) hi)
  exact ⟨h1, fun p hp => h2 _ (getD_mem (by omega)), h3⟩
section
variable {n m : Nat} {V M : List (List Rat)}
theorem thr_mem (hM : Vk n M) (h0 : 0 < M.length) {r' : List Rat} (h : r' ∈ thr V M) : ∃ r ∈ V, r' = (List.range n).map fun p => dot r M p := by
  unfold thr at h
  rw [hM.head h0] at h
  obtain ⟨r, hr, rfl⟩ := List.mem_map.mp h
  exact ⟨r, hr, rfl⟩
theorem dot_nn (hV : Vk M.length V) (hM : Vk n M) {r : List Rat} (hr : r ∈ V) {p : Nat} (hp : p < n) : 0 ≤ dot r M p := by
  obtain ⟨h1, h2, _⟩ := hV.r r hr
  refine sumR_nn fun a ha => Rat.mul_nonneg (h2 _ (getD_mem ha)) ?_
  exact (hM.at (by omega)).2.1 p hp
theorem dot_one (hV : Vk M.length V) (hM : Vk n M) {r : List Rat} (hr : r ∈ V) : sumR n (fun p => dot r M p) = 1 := by
  obtain ⟨h1, h2, h3⟩ := hV.r r hr
  show sumR n (fun p => sumR r.length fun a => r.getD a 0 * (M.getD a []).getD p 0) = 1
  rw [sumR_swap, ← h3, ← h1]
  refine sumR_congr fun a ha => ?_
  rw [sumR_mul, (hM.at (by omega)).2.2, Rat.mul_one]
theorem thr_ok (hV : Vk M.length V) (hM : Vk n M) (h0 : 0 < M.length) : Vk n (thr V M) := ⟨fun r' h => by
  obtain ⟨r, hr, rfl⟩ := thr_mem hM h0 h
  refine ⟨by simp, fun x hx => ?_, ?_⟩
  · obtain ⟨p, hp, rfl⟩ := List.mem_map.mp hx
    exact dot_nn hV hM hr (List.mem_range.mp hp)
  · rw [← dot_one hV hM hr]
    exact sumR_congr fun p hp => gd_range hp⟩
theorem thr_dv {D E : Nat} (hV : Vk M.length V) (hM : Vk n M) (h0 : 0 < M.length) (dV : Dv D V) (dM : Dv E M) : Dv (D * E) (thr V M) := fun r' h x hx => by
  have ok := thr_ok hV hM h0
  obtain ⟨r, hr, e⟩ := thr_mem hM h0 h
  subst e
  have u0 := (ok.r _ h).2.1 x hx
  have u1 := ok.le h hx
  obtain ⟨p, hp, rfl⟩ := List.mem_map.mp hx
  have hp := List.mem_range.mp hp
  obtain ⟨h1, h2, _⟩ := hV.r r hr
  have b : Bq (D * E) (r.length * (D * E)) (dot r M p) := Bq.sum fun a ha => (dV r hr _ (getD_mem ha)).mul (dM _ (getD_mem (z := []) (show a < M.length by omega)) _ (getD_mem (by
    have := (hM.at (i := a) (by omega)).1
    omega)))
  exact b.unit u0 u1
theorem thr_len : (thr V M).length = V.length := by simp [thr]
theorem thr_get (hM : Vk n M) (h0 : 0 < M.length) {i : Nat} (hi : i < V.length) : (thr V M).getD i [] = (List.range n).map fun p => dot (V.getD i []) M p := by
  unfold thr
  rw [hM.head h0]
  simp [hi]
theorem thr_assoc {q : Nat} {B : List (List Rat)} (hV : Vk M.length V) (hM : Vk B.length M) (hB : Vk q B) (h0 : 0 < M.length) (h1 : 0 < B.length) : thr V (thr M B) = thr (thr V M) B := by
  have hMB := thr_ok hM hB h1
  have e1 : ((thr M B).headD []).length = q := hMB.head (by rw [thr_len]; exact h0)
  have e2 : (B.headD []).length = q := hB.head h1
  have e3 : (M.headD []).length = B.length := hM.head h0
  show V.map _ = (V.map _).map _
  rw [List.map_map]
  refine List.map_congr_left fun r hr => ?_
  show (List.range ((thr M B).headD []).length).map _ = (List.range (B.headD []).length).map _
  rw [e1, e2, e3]
  refine List.map_congr_left fun p hp => ?_
  have hp := List.mem_range.mp hp
  obtain ⟨h1', _, _⟩ := hV.r r hr
  show sumR r.length (fun a => r.getD a 0 * ((thr M B).getD a []).getD p 0) = sumR ((List.range B.length).map fun b => dot r M b).length (fun b => ((List.range B.length).map fun b => dot r M b).getD b 0 * (B.getD b []).getD p 0)
  have l1 : ((List.range B.length).map fun b => dot r M b).length = B.length := by simp
  rw [l1]
  have e4 : sumR r.length (fun a => r.getD a 0 * ((thr M B).getD a []).getD p 0) = sumR r.length (fun a => sumR B.length fun b => r.getD a 0 * ((M.getD a []).getD b 0 * (B.getD b []).getD p 0)) := by
    refine sumR_congr fun a ha => ?_
    have ha' : a < M.length := by omega
    rw [thr_get hB h1 ha', gd_range hp, sumR_mul]
    unfold dot
    rw [(hM.at ha').1]
  have e5 : sumR B.length (fun b => ((List.range B.length).map fun b => dot r M b).getD b 0 * (B.getD b []).getD p 0) = sumR B.length (fun b => sumR r.length fun a => r.getD a 0 * ((M.getD a []).getD b 0 * (B.getD b []).getD p 0)) := by
    refine sumR_congr fun b hb => ?_
    rw [gd_range hb]
    unfold dot
    rw [← sumR_mulr]
    refine sumR_congr fun a ha => ?_
    exact Rat.mul_assoc ..
  rw [e4, e5, sumR_swap]
theorem aw_thr (hV : Vk M.length V) (hM : Vk n M) (h0 : 0 < M.length) {p : Nat} (hp : p < n) {act : List Rat} : aw (thr V M) p act = sumR M.length fun a => (M.getD a []).getD p 0 * aw V a act := by
  unfold aw
  rw [thr_len]
  have e1 : sumR V.length (fun s => ((thr V M).getD s []).getD p 0 * act.getD s 0) = sumR V.length fun s => sumR M.length fun a => (M.getD a []).getD p 0 * ((V.getD s []).getD a 0 * act.getD s 0) := by
    refine sumR_congr fun s hs => ?_
    rw [thr_get hM h0 hs, gd_range hp]
    unfold dot
    rw [(hV.at hs).1, ← sumR_mulr]
    refine sumR_congr fun a ha => ?_
    grind
  rw [e1, sumR_swap]
  exact sumR_congr fun a ha => sumR_mul
theorem worth_le {A : List (List Rat)} (hV : Vk M.length V) (hM : Vk n M) (h0 : 0 < M.length) (ha : 0 < A.length) : worth n (thr V M) A ≤ worth M.length V A := by
  unfold worth
  have e : sumR M.length (fun a => gml (A.map (aw V a))) = sumR n fun p => sumR M.length fun a => (M.getD a []).getD p 0 * gml (A.map (aw V a)) := by
    rw [sumR_swap]
    refine sumR_congr fun a ha => ?_
    rw [sumR_mulr, (hM.at ha).2.2, Rat.one_mul]
  rw [e]
  refine sumR_le fun p hp => ?_
  obtain ⟨act, hact, e2⟩ := List.mem_map.mp (gml_mem (l := A.map (aw (thr V M) p)) (by rw [List.length_map]; exact ha))
  rw [← e2, aw_thr hV hM h0 hp]
  refine sumR_le fun a ha' => ?_
  exact Rat.mul_le_mul_of_nonneg_left (gml_ge (List.mem_map.mpr ⟨act, hact, rfl⟩)) ((hM.at ha').2.1 p hp)
/-- acts: of the states, over 2520 -/
structure Ak (s : Nat) (A : List (List Rat)) : Prop where
  a0 : 0 < A.length
  a8 : A.length ≤ 8
  a : ∀ act ∈ A, act.length = s ∧ ∀ x ∈ act, Bq 2520 (2 ^ 60) x
theorem wk_of {D k : Nat} {A : List (List Rat)} (hV : Vk n V) (dV : Dv D V) (h0 : 0 < D) (hk : D < 2 ^ k) (hk2 : k ≤ 500) (v0 : 0 < V.length) (v8 : V.length ≤ 8) (n0 : 0 < n) (n8 : n ≤ 8) (hA : Ak V.length A) : Wk n V A := by
  refine ⟨hV.vb dV h0 (Nat.lt_of_lt_of_le hk (Nat.pow_le_pow_right (by decide) (by omega))), v0, v8, n0, n8, hA.a0, hA.a8, fun act hm => ⟨(hA.a act hm).1, fun x hx => ((hA.a act hm).2 x hx).qb (by decide) (by decide) (by decide +kernel)⟩, fun a ha act hm => ?_⟩
  obtain ⟨h1, h2⟩ := hA.a act hm
  have b : Bq (D * 2520) (V.length * (D * 2 ^ 60)) (aw V a act) := Bq.sum fun s hs => (dV _ (getD_mem (z := []) hs) _ (getD_mem (by have := (hV.at hs).1; omega))).mul (h2 _ (getD_mem (by omega)))
  obtain ⟨T, eT⟩ : ∃ T : Nat, T = 2 ^ 500 := ⟨_, rfl⟩
  have hD : D < T := by rw [eT]; exact Nat.lt_of_lt_of_le hk (Nat.pow_le_pow_right (by decide) hk2)
  have e6 : (2 : Nat) ^ 600 = T * 2 ^ 100 := by rw [eT, ← Nat.pow_add]
  have p60 : (2 : Nat) ^ 60 = 1152921504606846976 := by decide
  have p100 : (2 : Nat) ^ 100 = 1267650600228229401496703205376 := by decide +kernel
  have b2 : V.length * (D * 2 ^ 60) ≤ 8 * (D * 2 ^ 60) := Nat.mul_le_mul_right _ v8
  refine b.qb (by omega) ?_ ?_
  · rw [e6, p100]
    omega
  · rw [e6, p100]
    rw [p60] at b2 ⊢
    omega
theorem worth_qb {A : List (List Rat)} (W : Wk n V A) (h6 : n ≤ 6) : QB 4000 (worth n V A) := by
  have := sumR_qb (K := 600) (f := fun a => gml (A.map (aw V a))) (n := n) fun a ha => gml_q W ha
  refine this.up ?_
  have : (600 + 1) * n ≤ (600 + 1) * 6 := Nat.mul_le_mul_left _ h6
  omega
end

section
variable {ns : List Int} {st : Store}
theorem sum_nn : ∀ {xs : List Int}, (∀ x ∈ xs, 0 ≤ x) → 0 ≤ xs.sum
  | [], _ => by decide
  | x :: xs, h => by
    have := h x (List.mem_cons_self ..)
    have := sum_nn fun y hy => h y (List.mem_cons_of_mem _ hy)
    rw [List.sum_cons]
    omega
theorem sum_ge : ∀ {xs : List Int}, (∀ x ∈ xs, 0 ≤ x) → ∀ {a : Int}, a ∈ xs → a ≤ xs.sum
  | [], _, a, h => by simp at h
  | x :: xs, hn, a, h => by
    have h1 := hn x (List.mem_cons_self ..)
    have h2 : 0 ≤ xs.sum := sum_nn fun y hy => hn y (List.mem_cons_of_mem _ hy)
    rw [List.sum_cons]
    rcases List.mem_cons.mp h with rfl | h
    · omega
    · have := sum_ge (fun y hy => hn y (List.mem_cons_of_mem _ hy)) h
      omega
theorem sum_le {B : Int} : ∀ {xs : List Int}, (∀ x ∈ xs, x ≤ B) → xs.sum ≤ xs.length * B
  | [], _ => by simp
  | x :: xs, h => by
    have := sum_le fun y hy => h y (List.mem_cons_of_mem x hy)
    have := h x (List.mem_cons_self ..)
    rw [List.sum_cons, List.length_cons, Int.natCast_succ, Int.add_mul]
    omega
/-- weights up to B -/
structure Rw (n : Nat) (B : Int) (ws : List Int) : Prop where
  len : ws.length = n
  bd : ∀ w ∈ ws, 0 ≤ w ∧ w ≤ B
  pos : 0 < ws.sum
theorem Rw.nn {n : Nat} {B : Int} {ws : List Int} (h : Rw n B ws) : ∀ w ∈ ws, 0 ≤ w := fun w hw => (h.bd w hw).1
theorem set_pos {ws : List Int} {k : Nat} {v : Int} (hn : ∀ w ∈ ws, 0 ≤ w) (hk : k < ws.length) (hv : 0 < v) : 0 < (ws.set k v).sum := by
  have := sum_ge (xs := ws.set k v) (fun x hx => by
    rcases List.mem_or_eq_of_mem_set hx with q | rfl
    · exact hn x q
    · omega) (List.mem_set hk v)
  omega
theorem r_row {n : Nat} (H : DS ns st) (h0 : 0 < n) (h1 : n ≤ 1000) : ∃ ws st', f__law_row [.ref 1, .int (n : Nat), .int 4, .bl true] st = .ok (itup ws) st' ∧ Rw n 4 ws ∧ DS ns st' ∧ Fr st st' := by
  have hr : ∀ s, rg1 (.int (n : Nat)) s = .ok (.fix (rng 0 n)) s := fun s => rg1_int (by omega)
  have hl : (rng 0 (n : Nat)).length ≤ 16777216 := by rw [rng_len]; omega
  obtain ⟨ys, s1, e1, ws, rfl, W1, B1, D1, F1⟩ := comp_gen (q := .fix (rng 0 n)) (set := gN 5) (ft := HM.tYes) (fe := (eBin oAdd (eC (.int 1)) (eCall 2 f__law_draw (aCons (eVar 0) (aCons (eVar 2) aNil))))) (τ := [some (.ref 1), some (.int (n : Nat)), some (.int 4), some (.bl true), none, none])
    (fun k acc s => ∃ ws : List Int, acc = ws.map D.int ∧ ws.length = k ∧ (∀ w ∈ ws, 0 ≤ w ∧ w ≤ 4) ∧ DS ns s ∧ Fr st s) (fun _ _ _ _ => rfl) (rng 0 n) 0 [] st ⟨[], rfl, rfl, by simp, H, .refl⟩ (by
      intro i d acc s hi hp
      obtain ⟨ws, rfl, W, B, DD, F⟩ := hp
      obtain ⟨k, hk, rfl⟩ := rng_mem hi
      obtain ⟨v, s3, e3, v0, v1, D3, F3⟩ := r_draw (many := 4) DD (by decide) (by decide)
      refine ⟨_, rfl, true, s, rfl, (fun h => nomatch h), fun _ => ⟨.int (1 + v), s3, by simp [e3], ws ++ [1 + v], by simp, by simp [W], ?_, D3, F.trans F3⟩⟩
      intro w hw
      rcases List.mem_append.mp hw with q | q
      · exact B w q
      · rw [List.mem_singleton.mp q]
        omega)
  rw [rng_len, Nat.zero_add] at W1
  have hm : 2 ≤ s1.length := D1.len
  obtain ⟨m, em⟩ : ∃ m, m = s1.length := ⟨_, rfl⟩
  obtain ⟨τ', s4, e4, ws4, ⟨a, rfl⟩, g4, W4, B4, D4, F4⟩ := for_inv (q := .fix (rng 0 n)) (set := gN 5) (u := (sIf (tBl (eBin oEq (eCall 2 f__law_draw (aCons (eVar 0) (aCons (eC (.int 4)) aNil))) (eC (.int 1)))) (sSub (eVar 4) (eVar 5) (eC (.int 0))) sNil))
    (fun k τ s => ∃ ws : List Int, (∃ a, τ = [some (.ref 1), some (.int (n : Nat)), some (.int 4), some (.bl true), some (.ref m), a]) ∧ lstAt s m = some (ws.map D.int) ∧ ws.length = n ∧ (∀ w ∈ ws, 0 ≤ w ∧ w ≤ 4) ∧ DS ns s ∧ Fr s1 s) (fun _ _ _ _ => rfl) (rng 0 n) 0 [some (.ref 1), some (.int (n : Nat)), some (.int 4), some (.bl true), some (.ref m), none] (s1 ++ [.lst (ws.map D.int)])
    ⟨ws, ⟨none, rfl⟩, by rw [em]; exact lstAt_new, W1, B1, D1.app, .app⟩ (by
      intro i d τ s hi hp
      obtain ⟨ws, ⟨a, rfl⟩, g, W, B, DD, F⟩ := hp
      obtain ⟨k, hk, rfl⟩ := rng_mem hi
      obtain ⟨v, s3, e3, v0, v1, D3, F3⟩ := r_draw (many := 4) DD (by decide) (by decide)
      have g3 := F3.lst g (by omega)
      refine ⟨[some (.ref 1), some (.int (n : Nat)), some (.int 4), some (.bl true), some (.ref m), some (.int (k : Nat))], rfl, ?_⟩
      by_cases hv : v = 1
      · have hk2 : k < (ws.map D.int).length := by simp [W, hk]
        have o := oSet_ref (v := .int 0) g3 (ixN_of hk2)
        refine ⟨[some (.ref 1), some (.int (n : Nat)), some (.int 4), some (.bl true), some (.ref m), some (.int (k : Nat))], s3.set m (Cell.lst ((ws.map D.int).set k (.int 0))), .inl ?_, ws.set k 0, ⟨_, rfl⟩, by rw [lstAt_set g3]; simp, by simp [W], ?_, D3.put2 (by omega) (by omega), (F.trans F3).put2 (by omega)⟩
        · simp [-oSet, e3, hv, o]
        · intro w hw
          rcases List.mem_or_eq_of_mem_set hw with q | rfl
          · exact B w q
          · exact ⟨by decide, by decide⟩
      · exact ⟨[some (.ref 1), some (.int (n : Nat)), some (.int 4), some (.bl true), some (.ref m), some (.int (k : Nat))], s3, .inl (by simp [e3, hv]), ws, ⟨_, rfl⟩, g3, W, B, D3, F.trans F3⟩)
  unfold f__law_row
  rw [runB_e]
  unfold m__law_row
  have gs : gSum (ws4.map D.int) s4 = .ok (.int ws4.sum) s4 := gSum_ints
  have os4 : oSeq (.ref m) s4 = .ok (ws4.map D.int) s4 := by simp [oSeq, dSeq_ref g4]
  have nn : ∀ x ∈ ws4, 0 ≤ x := fun x hx => (B4 x hx).1
  by_cases hz : ws4.sum = 0
  · obtain ⟨k, s6, e6, k1, D6, F6⟩ := r_drawN (many := n) D4 h0 (by omega)
    have g6 := F6.lst g4 (by omega)
    have hk2 : k < (ws4.map D.int).length := by simp [W4, k1]
    have o := oSet_ref (v := .int 1) g6 (ixN_of hk2)
    have g7 := lstAt_set (ys := (ws4.map D.int).set k (.int 1)) g6
    refine ⟨ws4.set k 1, s6.set m (Cell.lst ((ws4.map D.int).set k (.int 1))), ?_, ⟨by simp [W4], ?_, set_pos nn (by simpa using hk2) (by decide)⟩, D6.put2 (by omega) (by omega), ((F1.trans F4).trans F6).put2 (by have := F1.len; omega)⟩
    · simp [-oSet, List.replicate, lComp_e, lc1, wipeD, hr, hl, e1, ← em, sFor_e, e4, os4, gs, hz, e6, o, fTuple_ref g7]
      simp [itup]
    · intro w hw
      rcases List.mem_or_eq_of_mem_set hw with q | rfl
      · exact B4 w q
      · exact ⟨by decide, by decide⟩
  · have : 0 ≤ ws4.sum := sum_nn nn
    refine ⟨ws4, s4, ?_, ⟨W4, B4, by omega⟩, D4, F1.trans F4⟩
    simp [-oSet, List.replicate, lComp_e, lc1, wipeD, hr, hl, e1, ← em, sFor_e, e4, os4, gs, hz, fTuple_ref g4]
    rfl
def chs (ws : List Int) : List Rat := ws.map fun w => Rat.divInt w ws.sum
theorem chs_comp {ws : List Int} {n : Nat} {B : Int} (W : Rw n B ws) (hb : ws.sum.natAbs < 2 ^ 200) {d : D} {q : Sq} (hs : ∀ s, s = st → oSeq d s = .ok (ws.map D.int) s) (hc : q.chk st = true) :
    compL q (gN 1) HM.tYes (eCall 2 f__law_f (aCons (eVar 1) (aCons (eCS gSum (sEx (eVar 0))) aNil))) [some d, none] (ws.map D.int) [] st = .ok ((chs ws).map qd) st := by
  have hp := W.pos
  have z : ∀ w, f__law_f [.int w, .int ws.sum] st = .ok (qd (Rat.divInt w ws.sum)) st := fun w => r_fQ (by omega) hb (by decide)
  obtain ⟨S, eS⟩ : ∃ S, S = ws.sum := ⟨_, rfl⟩
  have e1 : gSum (ws.map D.int) st = .ok (.int S) st := eS ▸ gSum_ints
  have hs := hs st rfl
  rw [← eS] at z
  have c := comp_map (q := q) (set := gN 1) (fe := eCall 2 f__law_f (aCons (eVar 1) (aCons (eCS gSum (sEx (eVar 0))) aNil))) (τ := [some d, none]) (st := st) hc D.int (fun w => qd (Rat.divInt w ws.sum)) ws [] (fun w _ => ⟨[some d, some (.int w)], rfl, by rw [← eS]; simp [hs, e1, z]⟩)
  rw [List.nil_append] at c
  rw [c]
  unfold chs
  rw [List.map_map]
  rfl
theorem r_lchancesT {ws : List Int} {n : Nat} {B : Int} (W : Rw n B ws) (hb : ws.sum.natAbs < 2 ^ 200) (hn : n ≤ 1000) : f__law_chances [itup ws] st = .ok (rws (chs ws)) st := by
  have c := chs_comp (st := st) (d := itup ws) (q := .fix (ws.map D.int)) W hb (fun s _ => rfl) rfl
  obtain ⟨X, eX⟩ : ∃ X, X = itup ws := ⟨_, rfl⟩
  have dX : dSq st X = some (.fix (ws.map D.int)) := by rw [eX]; rfl
  have lX : ws.length ≤ 16777216 := by have := W.len; omega
  rw [← eX] at c ⊢
  unfold f__law_chances rws
  rw [runB_e]
  unfold m__law_chances
  simp [List.replicate, lComp_e, lc1, wipeD, dX, lX, c]
theorem r_lchancesL {ws : List Int} {n m : Nat} {B : Int} (W : Rw n B ws) (g : lstAt st m = some (ws.map D.int)) (hb : ws.sum.natAbs < 2 ^ 200) (hn : n ≤ 1000) : f__law_chances [.ref m] st = .ok (rws (chs ws)) st := by
  have c := chs_comp (st := st) (d := .ref m) (q := .cell m (ws.map D.int)) W hb (fun s hs => by rw [hs]; simp [oSeq, dSeq_ref g]) (by simp [Sq.chk, g])
  have dX := dSq_ref g
  have lX : ws.length ≤ 16777216 := by have := W.len; omega
  unfold f__law_chances rws
  rw [runB_e]
  unfold m__law_chances
  simp [List.replicate, lComp_e, lc1, wipeD, dX, lX, c]
theorem sumR_cast : ∀ (ws : List Int), sumR ws.length (fun a => ((ws.getD a 0 : Int) : Rat)) = ((ws.sum : Int) : Rat) := by
  have main : ∀ (ws : List Int) (n : Nat), n ≤ ws.length → sumR n (fun a => ((ws.getD a 0 : Int) : Rat)) = (((ws.take n).sum : Int) : Rat) := fun ws n => by
    induction n with
    | zero => intro _; rfl
    | succ n ih =>
      intro h
      have hn : n < ws.length := by omega
      have e : (ws.take (n + 1)).sum = (ws.take n).sum + ws.getD n 0 := by
        rw [List.take_succ, List.getD_eq_getElem?_getD, List.getElem?_eq_getElem hn]
        simp only [Option.toList_some, Option.getD_some, List.sum_append, List.sum_cons, List.sum_nil, Int.add_zero]
      rw [sumR, ih (by omega), e, Rat.intCast_add]
  intro ws
  rw [main ws _ (Nat.le_refl _), List.take_length]
theorem chs_row {ws : List Int} {n : Nat} {B : Int} (W : Rw n B ws) : (chs ws).length = n ∧ (∀ x ∈ chs ws, 0 ≤ x) ∧ sumR n (fun a => (chs ws).getD a 0) = 1 := by
  refine ⟨by simp [chs, W.len], fun x hx => ?_, ?_⟩
  · obtain ⟨w, hw, rfl⟩ := List.mem_map.mp hx
    exact Rat.divInt_nonneg (W.nn w hw) (Int.le_of_lt W.pos)
  · have s0 : ((ws.sum : Int) : Rat) ≠ 0 := fun e => by have := Rat.intCast_eq_zero_iff.mp e; have := W.pos; omega
    have e := sumR_cast ws
    rw [W.len] at e
    have e2 : sumR n (fun a => (chs ws).getD a 0) = sumR n fun a => ((ws.getD a 0 : Int) : Rat) * (1 / ((ws.sum : Int) : Rat)) := by
      refine sumR_congr fun a ha => ?_
      have hl : a < ws.length := by rw [W.len]; exact ha
      unfold chs
      simp only [List.getD_eq_getElem?_getD, List.getElem?_map, List.getElem?_eq_getElem hl, Option.map_some, Option.getD_some]
      rw [Rat.divInt_eq_div]
      grind
    rw [e2, sumR_mulr, e]
    grind
theorem chs_dv {ws : List Int} {n D : Nat} {B : Int} (W : Rw n B ws) (h : ws.sum ∣ (D : Int)) (h0 : 0 < D) : ∀ x ∈ chs ws, Bq D D x := fun x hx => by
  have u0 := (chs_row W).2.1 x hx
  obtain ⟨w, hw, rfl⟩ := List.mem_map.mp hx
  obtain ⟨c, hc⟩ := h
  have hp := W.pos
  have s0 : ((ws.sum : Int) : Rat) ≠ 0 := fun e => by have := Rat.intCast_eq_zero_iff.mp e; omega
  have b : Bq D (w * c).natAbs (Rat.divInt w ws.sum) := ⟨w * c, by
    rw [hc, Rat.intCast_mul, Rat.intCast_mul, Rat.divInt_eq_div]
    grind, Nat.le_refl _⟩
  refine b.unit u0 ?_
  have := sum_ge W.nn hw
  rw [Rat.divInt_eq_div]
  have wS : ((w : Int) : Rat) ≤ ((ws.sum : Int) : Rat) := Rat.intCast_le_intCast.mpr this
  have sp : (0 : Rat) < ((ws.sum : Int) : Rat) := Rat.lt_of_le_of_ne (Rat.intCast_le_intCast.mpr (Int.le_of_lt hp)) (Ne.symm s0)
  refine Rat.not_lt.mp fun h => ?_
  rw [Rat.lt_div_iff sp, Rat.one_mul] at h
  exact absurd wS (Rat.not_le.mpr h)
def D24 : Nat := 5354228880
theorem dv24 {S : Int} (h0 : 0 < S) (h : S ≤ 24) : S ∣ (D24 : Int) := by
  have key : ∀ k : Fin 25, k.val = 0 ∨ k.val ∣ D24 := by decide
  obtain ⟨k, rfl⟩ := Int.eq_ofNat_of_zero_le (Int.le_of_lt h0)
  have := key ⟨k, by omega⟩
  rcases this with q | q
  · simp at q; omega
  · exact Int.natCast_dvd_natCast.mpr q
theorem rw_24 {n : Nat} {ws : List Int} (W : Rw n 4 ws) (hn : n ≤ 6) : ws.sum ≤ 24 := by
  have := sum_le (B := 4) fun w hw => (W.bd w hw).2
  rw [W.len] at this
  omega
theorem r_shares {n : Nat} (H : DS ns st) (h0 : 0 < n) (h1 : n ≤ 6) : ∃ ws st', f__law_shares [.ref 1, .int (n : Nat), .int 4, .bl true] st = .ok (rws (chs ws)) st' ∧ Rw n 4 ws ∧ DS ns st' ∧ Fr st st' := by
  obtain ⟨ws, s1, e1, W, D1, F1⟩ := r_row H h0 (by omega)
  have := rw_24 W h1
  have := W.pos
  have z := r_lchancesT (st := s1) W (by
    have : (24 : Nat) < 2 ^ 200 := by decide +kernel
    omega) (by omega)
  refine ⟨ws, s1, ?_, W, D1, F1⟩
  simp [f__law_shares, runB_e, m__law_shares, List.replicate, e1, z]
theorem r_view {s n : Nat} (H : DS ns st) (hs : s ≤ 100) (h0 : 0 < n) (h1 : n ≤ 6) : ∃ V st', f__law_view [.ref 1, .int (s : Nat), .int (n : Nat), .bl true] st = .ok (vw V) st' ∧ V.length = s ∧ Vk n V ∧ Dv D24 V ∧ DS ns st' ∧ Fr st st' := by
  have hr : ∀ s', rg1 (.int (s : Nat)) s' = .ok (.fix (rng 0 s)) s' := fun s' => rg1_int (by omega)
  have hl : (rng 0 (s : Nat)).length ≤ 16777216 := by rw [rng_len]; omega
  obtain ⟨ys, s1, e1, V, rfl, L1, K1, V1, D1, F1⟩ := comp_gen (q := .fix (rng 0 s)) (set := gN 4) (ft := HM.tYes) (fe := (eCall 4 f__law_shares (aCons (eVar 0) (aCons (eVar 2) (aCons (eC (.int 4)) (aCons (eVar 3) aNil)))))) (τ := [some (.ref 1), some (.int (s : Nat)), some (.int (n : Nat)), some (.bl true), none])
    (fun k acc s' => ∃ V : List (List Rat), acc = V.map rws ∧ V.length = k ∧ Vk n V ∧ Dv D24 V ∧ DS ns s' ∧ Fr st s') (fun _ _ _ _ => rfl) (rng 0 s) 0 [] st ⟨[], rfl, rfl, ⟨by simp⟩, (by intro r hr; simp at hr), H, .refl⟩ (by
      intro i d acc s' hi hp
      obtain ⟨V, rfl, L, K, DV, DD, F⟩ := hp
      obtain ⟨k, hk, rfl⟩ := rng_mem hi
      obtain ⟨ws, s3, e3, W, D3, F3⟩ := r_shares DD h0 h1
      refine ⟨_, rfl, true, s', rfl, (fun h => nomatch h), fun _ => ⟨rws (chs ws), s3, by simp [e3], V ++ [chs ws], by simp, by simp [L], ⟨fun r hr => ?_⟩, fun r hr => ?_, D3, F.trans F3⟩⟩
      · rcases List.mem_append.mp hr with q | q
        · exact K.r r q
        · rw [List.mem_singleton.mp q]
          exact chs_row W
      · rcases List.mem_append.mp hr with q | q
        · exact DV r q
        · rw [List.mem_singleton.mp q]
          exact chs_dv W (dv24 W.pos (rw_24 W h1)) (by decide))
  rw [rng_len, Nat.zero_add] at L1
  refine ⟨V, s1, ?_, L1, K1, V1, D1, F1⟩
  simp [f__law_view, runB_e, m__law_view, List.replicate, lComp_e, lc1, wipeD, hr, hl, e1]
  rfl
end

section
variable {ns : List Int} {st : Store}
theorem ixN_pred {n g : Nat} (h : g < n) : ∃ j, j < n ∧ ixN n ((g : Int) - 1) = some j := by
  by_cases h0 : g = 0
  · refine ⟨n - 1, by omega, ?_⟩
    subst h0
    unfold ixN
    simp
    omega
  · refine ⟨g - 1, by omega, ?_⟩
    have := ixN_of (n := n) (j := g - 1) (by omega)
    rwa [show ((g - 1 : Nat) : Int) = (g : Int) - 1 by omega] at this
theorem pw30 : okPow 10 30 = true := by decide
theorem pw6 : okPow 10 6 = true := by decide
theorem some_pos {ws : List Int} (h : 0 < ws.sum) : ∃ w ∈ ws, 0 < w := by
  refine Classical.byContradiction fun hno => ?_
  have := sum_le (B := 0) (xs := ws) fun w hw => by
    by_cases h0 : 0 < w
    · exact absurd ⟨w, hw, h0⟩ hno
    · omega
  omega
/-- rows of weights in the store -/
structure Ps (n E : Nat) (B : Int) (st s : Store) (ps : List (Nat × List Int)) : Prop where
  g : ∀ p ∈ ps, lstAt s p.1 = some (p.2.map D.int)
  l : ∀ p ∈ ps, 2 ≤ p.1 ∧ st.length ≤ p.1
  r : ∀ p ∈ ps, Rw n B p.2
  d : ∀ p ∈ ps, p.2.sum ∣ (E : Int)
theorem wide_tail {n E m : Nat} {B : Int} {a : Store} {ps : List (Nat × List Int)} {τ : Sl} (P : Ps n E B a st ps) (hB : ∀ p ∈ ps, p.2.sum.natAbs < 2 ^ 200) (hm : lstAt st m = some (ps.map fun p => D.ref p.1)) (hl : ps.length ≤ 1000) (hn : n ≤ 1000) (hτ : ∀ d, ∃ τ1, gN 6 d τ = some τ1 ∧ τ1[6]? = some (some d)) :
    compL (.cell m (ps.map fun p => D.ref p.1)) (gN 6) HM.tYes (eCall 1 f__law_chances (aCons (eVar 6) aNil)) τ (ps.map fun p => D.ref p.1) [] st = .ok (ps.map fun p => rws (chs p.2)) st := by
  have c := comp_map (q := .cell m (ps.map fun p => D.ref p.1)) (set := gN 6) (fe := (eCall 1 f__law_chances (aCons (eVar 6) aNil))) (τ := τ) (st := st) (by simp [Sq.chk, hm]) (fun p : Nat × List Int => D.ref p.1) (fun p => rws (chs p.2)) ps [] (fun p hp => by
    obtain ⟨τ1, h1, h2⟩ := hτ (D.ref p.1)
    refine ⟨τ1, h1, ?_⟩
    have z := r_lchancesL (st := st) (P.r p hp) (P.g p hp) (hB p hp) hn
    simp [eVar_e h2, z])
  rw [List.nil_append] at c
  exact c
theorem wide_ok {n E : Nat} {B : Int} {s : Store} {ps : List (Nat × List Int)} (P : Ps n E B st s ps) (h0 : 0 < E) : Vk n (ps.map fun p => chs p.2) ∧ Dv E (ps.map fun p => chs p.2) := by
  refine ⟨⟨fun r hr => ?_⟩, fun r hr => ?_⟩
  · obtain ⟨p, hp, rfl⟩ := List.mem_map.mp hr
    exact chs_row (P.r p hp)
  · obtain ⟨p, hp, rfl⟩ := List.mem_map.mp hr
    exact chs_dv (P.r p hp) (P.d p hp) h0
theorem r_wide {s n : Nat} (H : DS ns st) (hs0 : 0 < s) (hs : s ≤ 100) (h0 : 0 < n) (h1 : n ≤ 6) : ∃ (V : List (List Rat)) (E : Nat) (st' : Store), f__law_wide_view [.ref 1, .int (s : Nat), .int (n : Nat)] st = .ok (vw V) st' ∧ V.length = s ∧ Vk n V ∧ (0 < E ∧ E < 2 ^ 200) ∧ Dv E V ∧ DS ns st' ∧ Fr st st' := by
  have hst := H.len
  have hrs : ∀ s', rg1 (.int (s : Nat)) s' = .ok (.fix (rng 0 s)) s' := fun s' => rg1_int (by omega)
  have hrn : ∀ s', rg1 (.int (n : Nat)) s' = .ok (.fix (rng 0 n)) s' := fun s' => rg1_int (by omega)
  have lrn : (rng 0 (n : Nat)).length ≤ 16777216 := by rw [rng_len]; omega
  obtain ⟨m, em⟩ : ∃ m, m = st.length := ⟨_, rfl⟩
  obtain ⟨gn, s1, e1, g1, D1, F1⟩ := r_drawN (st := st ++ [.lst []]) (many := 3 * n) H.app (by omega) (by omega)
  have e1 : f__law_draw [.ref 1, .int (3 * (n : Int))] (st ++ [.lst []]) = .ok (.int (gn : Nat)) s1 := by rw [← e1]; congr 2
  have gm1 : lstAt s1 m = some [] := F1.lst (by rw [em]; exact lstAt_new) (by omega)
  have ok3 : okMul 3 (n : Int) = true := okMul_l (by decide)
  obtain ⟨τ', s4, e4, ps, ⟨t5, t6, rfl⟩, g4, l4, P4, D4, F4⟩ := for_inv (q := .fix (rng 0 s)) (set := gN 5) (u := (sSeq (sSet 6 (eCB fList (aCons (eCall 4 f__law_row (aCons (eVar 0) (aCons (eVar 2) (aCons (eC (.int 4)) (aCons (eC (.bl true)) aNil))))) aNil)))
    (sSeq (sIf (HM.tAnd (tBl (eBin oLt (eVar 4) (eVar 2))) (tBl (eBin oGt (eVar 2) (eC (.int 1))))) (sSeq (sSub (eVar 6) (eVar 4) (eC (.int 0)))
    (sIf (tBl (eBin oEq (eCS gSum (sEx (eVar 6))) (eC (.int 0)))) (sSub (eVar 6) (eBin oSub (eVar 4) (eC (.int 1))) (eC (.int 1))) sNil)) sNil)
    (sExpr (eM "list" mAppend (eVar 3) (aCons (eVar 6) aNil))))))
    (fun k τ s' => ∃ ps : List (Nat × List Int), (∃ t5 t6, τ = [some (.ref 1), some (.int (s : Nat)), some (.int (n : Nat)), some (.ref m), some (.int (gn : Nat)), t5, t6, none, none, none]) ∧ lstAt s' m = some (ps.map fun p => D.ref p.1) ∧ ps.length = k ∧ Ps n D24 4 (st ++ [.lst []]) s' ps ∧ DS ns s' ∧ Fr st s') (fun _ _ _ _ => rfl) (rng 0 s) 0 [some (.ref 1), some (.int (s : Nat)), some (.int (n : Nat)), some (.ref m), some (.int (gn : Nat)), none, none, none, none, none] s1
    ⟨[], ⟨_, _, rfl⟩, gm1, rfl, ⟨by simp, by simp, by simp, by simp⟩, D1, Fr.app.trans F1⟩ (by
      intro i d τ s' hi hp
      obtain ⟨ps, ⟨t5, t6, rfl⟩, g, lp, P, DD, F⟩ := hp
      have hi2 : i < s := by have := (List.getElem?_eq_some_iff.mp hi).1; rwa [rng_len] at this
      obtain ⟨k, hk, rfl⟩ := rng_mem hi
      obtain ⟨ws, s3, e3, W, D3, F3⟩ := r_row (n := n) DD h0 (by omega)
      have hml := lstAt_lt g
      have g3 := F3.lst g (by omega)
      obtain ⟨w, ew⟩ : ∃ w, w = s3.length := ⟨_, rfl⟩
      have hw2 : m < w := by rw [ew]; exact lstAt_lt g3
      -- the row as it is put in
      have key : ∃ (ws' : List Int) (s5 : Store), (∀ X : SM, ((sIf (HM.tAnd (tBl (eBin oLt (eVar 4) (eVar 2))) (tBl (eBin oGt (eVar 2) (eC (.int 1))))) (sSeq (sSub (eVar 6) (eVar 4) (eC (.int 0)))
          (sIf (tBl (eBin oEq (eCS gSum (sEx (eVar 6))) (eC (.int 0)))) (sSub (eVar 6) (eBin oSub (eVar 4) (eC (.int 1))) (eC (.int 1))) sNil)) sNil) [some (.ref 1), some (.int (s : Nat)), some (.int (n : Nat)), some (.ref m), some (.int (gn : Nat)), some (.int (k : Nat)), some (.ref w), none, none, none] (s3 ++ [.lst (ws.map D.int)])).seq X = X [some (.ref 1), some (.int (s : Nat)), some (.int (n : Nat)), some (.ref m), some (.int (gn : Nat)), some (.int (k : Nat)), some (.ref w), none, none, none] s5) ∧ lstAt s5 w = some (ws'.map D.int) ∧ Rw n 4 ws' ∧ DS ns s5 ∧ (∀ c xs, c < w → lstAt s3 c = some xs → lstAt s5 c = some xs) ∧ Fr s3 s5 := by
        have gw : lstAt (s3 ++ [.lst (ws.map D.int)]) w = some (ws.map D.int) := by rw [ew]; exact lstAt_new
        have keep : ∀ c xs, c < w → lstAt s3 c = some xs → lstAt (s3 ++ [.lst (ws.map D.int)]) c = some xs := fun c xs _ h => Gr.app.lst h
        by_cases c1 : gn < n ∧ 1 < n
        · obtain ⟨c1, c2⟩ := c1
          have c1' : (gn : Int) < (n : Int) := by omega
          have c2' : (1 : Int) < (n : Int) := by omega
          have hg : gn < (ws.map D.int).length := by rw [List.length_map, W.len]; exact c1
          have o := oSet_ref (v := .int 0) gw (ixN_of hg)
          have gw2 := lstAt_set (ys := (ws.map D.int).set gn (.int 0)) gw
          rw [← List.map_set] at gw2 o
          obtain ⟨sA, esA⟩ : ∃ sA, sA = (s3 ++ [Cell.lst (ws.map D.int)]).set w (Cell.lst ((ws.set gn 0).map D.int)) := ⟨_, rfl⟩
          rw [← esA] at o gw2
          have DA : DS ns sA := by rw [esA]; exact D3.app.put2 (by omega) (by omega)
          have FA : Fr s3 sA := by rw [esA]; exact Fr.app.put2 (by omega)
          have bd : ∀ x ∈ ws.set gn 0, 0 ≤ x ∧ x ≤ 4 := fun x hx => by
            rcases List.mem_or_eq_of_mem_set hx with q | rfl
            · exact W.bd x q
            · exact ⟨by decide, by decide⟩
          have gs : gSum ((ws.set gn 0).map D.int) sA = .ok (.int (ws.set gn 0).sum) sA := gSum_ints
          have os : oSeq (.ref w) sA = .ok ((ws.set gn 0).map D.int) sA := by simp [oSeq, dSeq_ref gw2]
          have keepA : ∀ c xs, c < w → lstAt s3 c = some xs → lstAt sA c = some xs := fun c xs h1 h2 => by rw [esA, lstAt_ne (by omega)]; exact keep c xs h1 h2
          obtain ⟨W0, eW0⟩ : ∃ W0, W0 = ws.set gn 0 := ⟨_, rfl⟩
          have lW0 : W0.length = n := by rw [eW0, List.length_set]; exact W.len
          rw [← eW0] at gs os gw2 bd
          obtain ⟨Q0, eQ0⟩ : ∃ Q0, Q0 = W0.map D.int := ⟨_, rfl⟩
          rw [← eQ0] at gs os
          by_cases hz : W0.sum = 0
          · obtain ⟨j, j1, hj⟩ := ixN_pred c1
            have o2 := oSet_ref (v := .int 1) (k := (gn : Int) - 1) (j := j) gw2 (by rw [List.length_map, lW0]; exact hj)
            rw [← List.map_set] at o2
            refine ⟨W0.set j 1, sA.set w (Cell.lst ((W0.set j 1).map D.int)), fun X => ?_, lstAt_set gw2, ⟨by simp [lW0], ?_, set_pos (fun x hx => (bd x hx).1) (by omega) (by decide)⟩, DA.put2 (by omega) (by omega), fun c xs h1 h2 => by rw [lstAt_ne (by omega)]; exact keepA c xs h1 h2, FA.put2 (by omega)⟩
            · simp [-oSet, c1, c1', c2, c2', oGt, o, os, gs, hz, o2]
            · intro x hx
              rcases List.mem_or_eq_of_mem_set hx with q | rfl
              · exact bd x q
              · exact ⟨by decide, by decide⟩
          · have := sum_nn fun x hx => (bd x hx).1
            refine ⟨W0, sA, fun X => ?_, gw2, ⟨lW0, bd, by omega⟩, DA, keepA, FA⟩
            simp [-oSet, c1, c1', c2, c2', oGt, o, os, gs, hz]
        · refine ⟨ws, _, fun X => ?_, gw, W, D3.app, keep, .app⟩
          by_cases c2 : gn < n
          · have c2' : (gn : Int) < (n : Int) := by omega
            have c3' : ¬ (1 : Int) < (n : Int) := by omega
            have c3 : ¬ 1 < n := by omega
            simp [c2, c2', oGt, c3, c3']
          · have c2' : ¬ (gn : Int) < (n : Int) := by omega
            simp [c2, c2', oGt]
      obtain ⟨ws', s5, e5, g5, W5, D5, keep5, F5⟩ := key
      have gm5 := keep5 _ _ hw2 g3
      have ap := mAppend_ref (x := .ref w) gm5 (by simp; omega)
      refine ⟨[some (.ref 1), some (.int (s : Nat)), some (.int (n : Nat)), some (.ref m), some (.int (gn : Nat)), some (.int (k : Nat)), t6, none, none, none], rfl, [some (.ref 1), some (.int (s : Nat)), some (.int (n : Nat)), some (.ref m), some (.int (gn : Nat)), some (.int (k : Nat)), some (.ref w), none, none, none], s5.set m (Cell.lst ((ps.map fun p => D.ref p.1) ++ [.ref w])), .inl ?_, ps ++ [(w, ws')], ⟨_, _, rfl⟩, by rw [lstAt_set gm5]; simp, by simp [lp], ⟨?_, ?_, ?_, ?_⟩, D5.put2 (by omega) (by omega), ((F.trans F3).trans F5).put2 (by omega)⟩
      · have fl : fList [itup ws] s3 = .ok (.ref w) (s3 ++ [.lst (ws.map D.int)]) := by rw [ew]; exact fList_tup
        simp [-sIf_e, e3, fl, e5, okT_ref gm5, ap]
      · intro p hp
        rcases List.mem_append.mp hp with q | q
        · have h1 := P.g p q
          have h2 := lstAt_lt h1
          have h3 := P.l p q
          have h4 := F3.lst h1 (by omega)
          have : st.length + 1 ≤ p.1 := by have := h3.2; simp at this; omega
          rw [lstAt_ne (by omega)]
          exact keep5 _ _ (by rw [ew]; exact lstAt_lt h4) h4
        · rw [List.mem_singleton.mp q]
          rw [lstAt_ne (by show w ≠ m; omega)]
          exact g5
      · intro p hp
        rcases List.mem_append.mp hp with q | q
        · exact P.l p q
        · rw [List.mem_singleton.mp q]
          exact ⟨by show 2 ≤ w; omega, by show _ ≤ w; simp; omega⟩
      · intro p hp
        rcases List.mem_append.mp hp with q | q
        · exact P.r p q
        · rw [List.mem_singleton.mp q]
          exact W5
      · intro p hp
        rcases List.mem_append.mp hp with q | q
        · exact P.d p q
        · rw [List.mem_singleton.mp q]
          exact dv24 W5.pos (rw_24 W5 h1))
  rw [rng_len, Nat.zero_add] at l4
  have p200 : (2 : Nat) ^ 200 = 1606938044258990275541962092341162602522202993782792835301376 := by decide +kernel
  have tail : ∀ (E : Nat) (B : Int) (qs : List (Nat × List Int)) (s6 : Store) (a7 a8 : Option D), qs.length = s → 0 < E → E < 2 ^ 200 → Ps n E B [] s6 qs → (∀ p ∈ qs, p.2.sum.natAbs < 2 ^ 200) → lstAt s6 m = some (qs.map fun p => D.ref p.1) →
      ((sRet (eCS gTuple (lComp [6] (iEx (eVar 3)) (gN 6) HM.tYes (eCall 1 f__law_chances (aCons (eVar 6) aNil))))) [some (.ref 1), some (.int (s : Nat)), some (.int (n : Nat)), some (.ref m), some (.int (gn : Nat)), t5, t6, a7, a8, none] s6).fin = .ok (vw (qs.map fun p => chs p.2)) s6 := fun E B qs s6 a7 a8 lq E0 E1 P hB hm => by
    have c := wide_tail (τ := [some (.ref 1), some (.int (s : Nat)), some (.int (n : Nat)), some (.ref m), some (.int (gn : Nat)), t5, none, a7, a8, none]) P hB hm (by omega) (by omega) (fun d => ⟨[some (.ref 1), some (.int (s : Nat)), some (.int (n : Nat)), some (.ref m), some (.int (gn : Nat)), t5, some d, a7, a8, none], rfl, rfl⟩)
    have e : vw (qs.map fun p => chs p.2) = .tup (qs.map fun p => rws (chs p.2)) := by
      unfold vw
      rw [List.map_map]
      rfl
    rw [e]
    obtain ⟨X, eX⟩ : ∃ X, X = qs.map fun p => D.ref p.1 := ⟨_, rfl⟩
    have lX : X.length ≤ 16777216 := by rw [eX, List.length_map]; omega
    rw [← eX] at c hm
    simp [lComp_e, lc1, wipeD, dSq_ref hm, lX, c]
  obtain ⟨b, s5, e5, D5, F5⟩ := r_rare (many := 7) D4 (by decide) (by decide)
  have g5 := F5.lst g4 (by omega)
  have Pg5 : ∀ p ∈ ps, lstAt s5 p.1 = some (p.2.map D.int) := fun p hp => F5.lst (P4.g p hp) (by have := (P4.l p hp).1; omega)
  have sB : ∀ p ∈ ps, p.2.sum.natAbs < 2 ^ 200 := fun p hp => by
    have := rw_24 (P4.r p hp) h1
    have := (P4.r p hp).pos
    rw [p200]
    omega
  unfold f__law_wide_view
  rw [runB_e]
  unfold m__law_wide_view
  have E24 : 0 < D24 := by decide
  have E24b : D24 < 2 ^ 200 := by rw [p200]; decide
  cases b with
  | false =>
    have P5 : Ps n D24 4 [] s5 ps := ⟨Pg5, fun p hp => ⟨(P4.l p hp).1, by simp⟩, P4.r, P4.d⟩
    have z := tail D24 4 ps s5 none none l4 E24 E24b P5 sB g5
    obtain ⟨ok1, ok2⟩ := wide_ok P5 E24
    refine ⟨_, D24, s5, ?_, by rw [List.length_map, l4], ok1, ⟨E24, E24b⟩, ok2, D5, F4.trans F5⟩
    rw [← z]
    simp [-sRet_e, List.replicate, ← em, ok3, e1, sFor_e, hrs, e4, e5]
  | true =>
    obtain ⟨v, s6, e6, v0, v1, D6, F6⟩ := r_draw (many := 1000000) D5 (by decide) (by decide)
    obtain ⟨j, s7, e7, j1, D7, F7⟩ := r_drawN (many := s) D6 hs0 (by omega)
    obtain ⟨big, ebig⟩ : ∃ big : Int, big = 1000000000000000000000000000000 + v := ⟨_, rfl⟩
    have jl : j < ps.length := by omega
    obtain ⟨p, ep⟩ : ∃ p, p = ps[j] := ⟨_, rfl⟩
    have hpm : p ∈ ps := by rw [ep]; exact List.getElem_mem _
    have g7 := F7.lst (F6.lst g5 (by omega)) (by omega)
    have Pg7 : ∀ p ∈ ps, lstAt s7 p.1 = some (p.2.map D.int) := fun p hp => F7.lst (F6.lst (Pg5 p hp) (by have := (P4.l p hp).1; omega)) (by have := (P4.l p hp).1; omega)
    have W := P4.r p hpm
    obtain ⟨NW, eNW⟩ : ∃ NW : List Int, NW = (List.range n).map fun a => p.2.getD a 0 * (big + 7 * (a : Nat)) := ⟨_, rfl⟩
    have i1 : oIx (.ref m) (.int (j : Nat)) s7 = .ok (.ref p.1) s7 := by
      rw [oIx_ref g7, atI_of (by simpa using jl), ep]
      simp
    have c := comp_map (q := .fix (rng 0 n)) (set := gN 9) (fe := (eBin oMul (eBin oIx (eBin oIx (eVar 3) (eVar 8)) (eVar 9)) (eBin oAdd (eVar 7) (eBin oMul (eC (.int 7)) (eVar 9))))) (τ := [some (.ref 1), some (.int (s : Nat)), some (.int (n : Nat)), some (.ref m), some (.int (gn : Nat)), t5, t6, some (.int big), some (.int (j : Nat)), none]) (st := s7) rfl (fun a : Nat => D.int a) (fun a : Nat => D.int (p.2.getD a 0 * (big + 7 * (a : Nat)))) (List.range n) [] (fun a ha => ⟨[some (.ref 1), some (.int (s : Nat)), some (.int (n : Nat)), some (.ref m), some (.int (gn : Nat)), t5, t6, some (.int big), some (.int (j : Nat)), some (.int (a : Nat))], rfl, by
      have ha := List.mem_range.mp ha
      have hal : a < p.2.length := by rw [W.len]; exact ha
      have i2 : oIx (.ref p.1) (.int (a : Nat)) s7 = .ok (.int (p.2.getD a 0)) s7 := by
        rw [oIx_ref (Pg7 p hpm), atI_of (by simpa using hal)]
        simp [hal]
      have bd := W.bd _ (getD_mem (z := (0 : Int)) hal)
      obtain ⟨x, ex⟩ : ∃ x, x = p.2.getD a 0 := ⟨_, rfl⟩
      rw [← ex] at i2 bd ⊢
      have o1 : okMul 7 (a : Int) = true := okMul_l (by decide)
      have o2 : okMul x (big + 7 * (a : Int)) = true := okMul_l (by omega)
      simp [i1, i2, o1, o2]⟩)
    rw [← rng_eq, List.nil_append] at c
    have eN2 : ((List.range n).map fun a : Nat => D.int (p.2.getD a 0 * (big + 7 * (a : Nat)))) = NW.map D.int := by rw [eNW, List.map_map]; rfl
    rw [eN2] at c
    have lNW : NW.length = n := by rw [eNW]; simp
    have bNW : ∀ x ∈ NW, 0 ≤ x ∧ x ≤ 4000000000000000000004000168 * 1000 + 1000000000000000000000000000000 * 4 := fun x hx => by
      rw [eNW] at hx
      obtain ⟨a, ha, rfl⟩ := List.mem_map.mp hx
      have ha := List.mem_range.mp ha
      have bd := W.bd _ (getD_mem (z := (0 : Int)) (show a < p.2.length by rw [W.len]; exact ha))
      obtain ⟨y, ey⟩ : ∃ x, x = p.2.getD a 0 := ⟨_, rfl⟩
      rw [← ey] at bd ⊢
      have : y = 0 ∨ y = 1 ∨ y = 2 ∨ y = 3 ∨ y = 4 := by omega
      rcases this with rfl | rfl | rfl | rfl | rfl <;> omega
    have pNW : 0 < NW.sum := by
      obtain ⟨w, hw, w0⟩ := some_pos W.pos
      obtain ⟨a, ha, rfl⟩ := List.getElem_of_mem hw
      have hm : p.2[a] * (big + 7 * (a : Nat)) ∈ NW := by
        rw [eNW]
        refine List.mem_map.mpr ⟨a, List.mem_range.mpr (by rw [← W.len]; exact ha), ?_⟩
        simp [ha]
      have := sum_ge (fun x hx => (bNW x hx).1) hm
      have : 0 < p.2[a] * (big + 7 * (a : Nat)) := Int.mul_pos w0 (by omega)
      omega
    have WN : Rw n (4000000000000000000004000168 * 1000 + 1000000000000000000000000000000 * 4) NW := ⟨lNW, bNW, pNW⟩
    have sN := sum_le (fun x hx => (bNW x hx).2)
    rw [lNW] at sN
    obtain ⟨s8, es8⟩ : ∃ s8, s8 = s7 ++ [.lst (NW.map D.int)] := ⟨_, rfl⟩
    have g8 : lstAt s8 m = some (ps.map fun p => D.ref p.1) := by rw [es8]; exact Gr.app.lst g7
    have o := oSet_ref (v := .ref s7.length) g8 (ixN_of (j := j) (by simpa using jl))
    have g9 := lstAt_set (ys := (ps.map fun p => D.ref p.1).set j (.ref s7.length)) g8
    have hm7 := lstAt_lt g7
    have eqs : (ps.map fun p => D.ref p.1).set j (.ref s7.length) = (ps.set j (s7.length, NW)).map fun p => D.ref p.1 := by rw [List.map_set]
    rw [eqs] at o g9
    obtain ⟨qs, eqs2⟩ : ∃ qs, qs = ps.set j (s7.length, NW) := ⟨_, rfl⟩
    rw [← eqs2] at o g9
    obtain ⟨s9, es9⟩ : ∃ s9, s9 = s8.set m (Cell.lst (qs.map fun p => D.ref p.1)) := ⟨_, rfl⟩
    rw [← es9] at o g9
    have mq : ∀ x ∈ qs, x ∈ ps ∨ x = (s7.length, NW) := fun x hx => by
      rw [eqs2] at hx
      exact List.mem_or_eq_of_mem_set hx
    have dN : (NW.sum.natAbs : Int) = NW.sum := Int.natAbs_of_nonneg (Int.le_of_lt pNW)
    have E0 : 0 < D24 * NW.sum.natAbs := Nat.mul_pos E24 (by omega)
    have E1 : D24 * NW.sum.natAbs < 2 ^ 200 := by
      rw [p200]
      show 5354228880 * NW.sum.natAbs < _
      omega
    have P9 : Ps n (D24 * NW.sum.natAbs) (4000000000000000000004000168 * 1000 + 1000000000000000000000000000000 * 4) [] s9 qs := by
      refine ⟨fun x hx => ?_, fun x hx => ?_, fun x hx => ?_, fun x hx => ?_⟩
      · rcases mq x hx with q | rfl
        · have h1 := Pg7 x q
          have h2 := lstAt_lt h1
          have h3 := (P4.l x q).2
          simp at h3
          rw [es9, lstAt_ne (by omega), es8]
          exact Gr.app.lst h1
        · rw [es9, lstAt_ne (by show s7.length ≠ m; omega), es8]
          exact lstAt_new
      · rcases mq x hx with q | rfl
        · exact ⟨(P4.l x q).1, by simp⟩
        · exact ⟨D7.len, by simp⟩
      · rcases mq x hx with q | rfl
        · have := P4.r x q
          exact ⟨this.len, fun w hw => by have := this.bd w hw; omega, this.pos⟩
        · exact WN
      · rw [Int.natCast_mul, dN]
        rcases mq x hx with q | rfl
        · exact Int.dvd_trans (P4.d x q) (Int.dvd_mul_right _ _)
        · exact Int.dvd_mul_left _ _
    have sB9 : ∀ x ∈ qs, x.2.sum.natAbs < 2 ^ 200 := fun x hx => by
      rcases mq x hx with q | rfl
      · exact sB x q
      · rw [p200]
        show NW.sum.natAbs < _
        omega
    have z := tail _ _ qs s9 (some (.int big)) (some (.int (j : Nat))) (by rw [eqs2, List.length_set, l4]) E0 E1 P9 sB9 g9
    obtain ⟨ok1, ok2⟩ := wide_ok P9 E0
    refine ⟨_, D24 * NW.sum.natAbs, s9, ?_, by rw [List.length_map, eqs2, List.length_set, l4], ok1, ⟨E0, E1⟩, ok2, by rw [es9, es8]; exact D7.app.put2 (by omega) (by omega), ?_⟩
    · rw [← z]
      have eb : (1000000000000000000000000000000 : Int) + v = big := ebig.symm
      have es8' : s7 ++ [Cell.lst (NW.map D.int)] = s8 := es8.symm
      obtain ⟨NQ, eNQ⟩ : ∃ NQ, NQ = NW.map D.int := ⟨_, rfl⟩
      rw [← eNQ] at c es8'
      simp [-sRet_e, -oSet, List.replicate, ← em, ok3, e1, sFor_e, hrs, e4, e5, pw30, pw6, e6, eb, e7, lComp_e, lc1, wipeD, hrn, lrn, c, es8', o]
    · rw [es9, es8]
      exact (((F4.trans F5).trans (F6.trans F7)).trans .app).put2 (by omega)
end

section
variable {ns : List Int} {st : Store}
theorem bq_div {n d : Int} (hd : 0 < d) (hd2 : d ≤ 9) (hn : n.natAbs ≤ 1099511627776) : Bq 2520 (2 ^ 60) (Rat.divInt n d) := by
  have key : ∀ k : Fin 10, k.val = 0 ∨ k.val ∣ 2520 := by decide
  obtain ⟨k, rfl⟩ := Int.eq_ofNat_of_zero_le (Int.le_of_lt hd)
  have hk := key ⟨k, by omega⟩
  rcases hk with q | ⟨c, hc⟩
  · simp at q; omega
  · have hc : 2520 = k * c := hc
    have k0 : ((k : Int) : Rat) ≠ 0 := dne (by omega)
    have cl : c ≤ 2520 := by
      have := Nat.le_mul_of_pos_left c (show 0 < k by omega)
      omega
    refine ⟨n * (c : Int), ?_, ?_⟩
    · rw [hc, Int.natCast_mul, Rat.intCast_mul, Rat.intCast_mul, Rat.divInt_eq_div]
      grind
    · rw [Int.natAbs_mul, Int.natAbs_natCast]
      have := Nat.mul_le_mul hn cl
      have p60 : (2 : Nat) ^ 60 = 1152921504606846976 := by decide
      omega
theorem qd_int {k : Int} : qd (Rat.divInt k 1) = .tup [.int k, .int 1] := by
  have : Rat.divInt k 1 = (k : Rat) := by rw [Rat.divInt_eq_div]; grind
  rw [this]
  rfl
theorem pw12 : okPow 10 12 = true := by decide
theorem pw11 : okPow 10 11 = true := by decide
theorem r_act_body {sty : Int} {w m : Nat} {xs : List Rat} {S : Int} {t4 t6 : Option D} (H : DS ns st) (g : lstAt st w = some (xs.map qd)) (hw : 2 ≤ w) (hx : xs.length ≤ 1000) : ∃ x s', (sIf (tBl (eBin oEq (eVar 2) (eC (.int 0)))) (sExpr (eM "list" mAppend (eVar 5) (aCons (eTup (aCons (eBin oSub (eCall 2 f__law_draw (aCons (eVar 0) (aCons (eC (.int 5)) aNil))) (eC (.int 2))) (aCons (eC (.int 1)) aNil))) aNil))) (sIf (tBl (eBin oEq (eVar 2) (eC (.int 1)))) (sExpr (eM "list" mAppend (eVar 5) (aCons (eCall 2 f__law_f (aCons (eBin oSub (eUn oNeg (eC (.int 1))) (eCall 2 f__law_draw (aCons (eVar 0) (aCons (eC (.int 6)) aNil)))) (aCons (eBin oAdd (eC (.int 1)) (eCall 2 f__law_draw (aCons (eVar 0) (aCons (eC (.int 4)) aNil)))) aNil))) aNil))) (sIf (tBl (eBin oEq (eVar 2) (eC (.int 2)))) (sExpr (eM "list" mAppend (eVar 5) (aCons (eCall 2 f__law_f (aCons (eBin oSub (eCall 2 f__law_draw (aCons (eVar 0) (aCons (eBin oPow (eC (.int 10)) (eC (.int 12))) aNil))) (eBin oMul (eC (.int 5)) (eBin oPow (eC (.int 10)) (eC (.int 11))))) (aCons (eBin oAdd (eC (.int 1)) (eCall 2 f__law_draw (aCons (eVar 0) (aCons (eC (.int 9)) aNil)))) aNil))) aNil))) (sExpr (eM "list" mAppend (eVar 5) (aCons (eCall 2 f__law_f (aCons (eBin oSub (eCall 2 f__law_draw (aCons (eVar 0) (aCons (eC (.int 13)) aNil))) (eC (.int 6))) (aCons (eBin oAdd (eC (.int 1)) (eCall 2 f__law_draw (aCons (eVar 0) (aCons (eC (.int 4)) aNil)))) aNil))) aNil)))))) [some (.ref 1), some (.int S), some (.int sty), some (.ref m), t4, some (.ref w), t6, none] st = .nx [some (.ref 1), some (.int S), some (.int sty), some (.ref m), t4, some (.ref w), t6, none] (s'.set w (Cell.lst (xs.map qd ++ [qd x]))) ∧ lstAt s' w = some (xs.map qd) ∧ Bq 2520 (2 ^ 60) x ∧ DS ns s' ∧ Fr st s' := by
  have ok := okT_ref g
  have ap : ∀ {s' : Store} (x : Rat), lstAt s' w = some (xs.map qd) → mAppend (.ref w) [qd x] s' = .ok .non (s'.set w (Cell.lst (xs.map qd ++ [qd x]))) := fun x h => mAppend_ref h (by simp; omega)
  by_cases c0 : sty = 0
  · obtain ⟨v, s1, e1, v0, v1, D1, F1⟩ := r_draw (many := 5) H (by decide) (by decide)
    have g1 := F1.lst g (by omega)
    refine ⟨Rat.divInt (v - 2) 1, s1, ?_, g1, bq_div (by decide) (by decide) (by omega), D1, F1⟩
    have z := ap (Rat.divInt (v - 2) 1) g1
    rw [qd_int] at z ⊢
    simp [c0, ok, e1, z]
  by_cases c1 : sty = 1
  · obtain ⟨v, s1, e1, v0, v1, D1, F1⟩ := r_draw (many := 6) H (by decide) (by decide)
    obtain ⟨u, s2, e2, u0, u1, D2, F2⟩ := r_draw (many := 4) D1 (by decide) (by decide)
    have g2 := F2.lst (F1.lst g (by omega)) (by omega)
    have hb : (1 + u).natAbs < 2 ^ 10 := by omega
    have z := r_fQ (st := s2) (n := -1 - v) (d := 1 + u) (by omega) hb (by decide)
    refine ⟨Rat.divInt (-1 - v) (1 + u), s2, ?_, g2, bq_div (by omega) (by omega) (by omega), D2, F1.trans F2⟩
    have za := ap (Rat.divInt (-1 - v) (1 + u)) g2
    obtain ⟨Q, eQ⟩ : ∃ Q, Q = qd (Rat.divInt (-1 - v) (1 + u)) := ⟨_, rfl⟩
    rw [← eQ] at z za ⊢
    simp [c1, ok, e1, e2, z, za]
  by_cases c2 : sty = 2
  · obtain ⟨v, s1, e1, v0, v1, D1, F1⟩ := r_draw (many := 1000000000000) H (by decide) (by decide)
    obtain ⟨u, s2, e2, u0, u1, D2, F2⟩ := r_draw (many := 9) D1 (by decide) (by decide)
    have g2 := F2.lst (F1.lst g (by omega)) (by omega)
    have hb : (1 + u).natAbs < 2 ^ 10 := by omega
    have z := r_fQ (st := s2) (n := v - 500000000000) (d := 1 + u) (by omega) hb (by decide)
    refine ⟨Rat.divInt (v - 500000000000) (1 + u), s2, ?_, g2, bq_div (by omega) (by omega) (by omega), D2, F1.trans F2⟩
    have za := ap (Rat.divInt (v - 500000000000) (1 + u)) g2
    have o5 : okMul 5 100000000000 = true := okMul_l (by decide)
    obtain ⟨Q, eQ⟩ : ∃ Q, Q = qd (Rat.divInt (v - 500000000000) (1 + u)) := ⟨_, rfl⟩
    rw [← eQ] at z za ⊢
    simp [c2, ok, pw12, pw11, e1, o5, e2, z, za]
  · obtain ⟨v, s1, e1, v0, v1, D1, F1⟩ := r_draw (many := 13) H (by decide) (by decide)
    obtain ⟨u, s2, e2, u0, u1, D2, F2⟩ := r_draw (many := 4) D1 (by decide) (by decide)
    have g2 := F2.lst (F1.lst g (by omega)) (by omega)
    have hb : (1 + u).natAbs < 2 ^ 10 := by omega
    have z := r_fQ (st := s2) (n := v - 6) (d := 1 + u) (by omega) hb (by decide)
    refine ⟨Rat.divInt (v - 6) (1 + u), s2, ?_, g2, bq_div (by omega) (by omega) (by omega), D2, F1.trans F2⟩
    have za := ap (Rat.divInt (v - 6) (1 + u)) g2
    obtain ⟨Q, eQ⟩ : ∃ Q, Q = qd (Rat.divInt (v - 6) (1 + u)) := ⟨_, rfl⟩
    rw [← eQ] at z za ⊢
    simp [c0, c1, c2, ok, e1, e2, z, za]
theorem r_acts {S : Nat} (H : DS ns st) (hS : S ≤ 100) : ∃ A st', f__law_some_acts [.ref 1, .int (S : Nat)] st = .ok (vw A) st' ∧ Ak S A ∧ DS ns st' ∧ Fr st st' := by
  have hrS : ∀ s', rg1 (.int (S : Nat)) s' = .ok (.fix (rng 0 S)) s' := fun s' => rg1_int (by omega)
  obtain ⟨sty, s1, e1, _, _, D1, F1⟩ := r_draw (many := 5) H (by decide) (by decide)
  have hm2 := D1.len
  obtain ⟨m, em⟩ : ∃ m, m = s1.length := ⟨_, rfl⟩
  obtain ⟨k1, s2, e2, k1b, D2, F2⟩ := r_drawN (st := s1 ++ [.lst []]) (many := 4) D1.app (by decide) (by decide)
  have e2 : f__law_draw [.ref 1, .int 4] (s1 ++ [.lst []]) = .ok (.int (k1 : Nat)) s2 := e2
  have gm2 : lstAt s2 m = some [] := F2.lst (by rw [em]; exact lstAt_new) (by omega)
  have F02 : Fr st s2 := F1.trans (Fr.app.trans F2)
  have hst : st.length ≤ m := by rw [em]; exact F1.len
  have hrk : ∀ s', rg1 (.int (1 + (k1 : Int))) s' = .ok (.fix (rng 0 (1 + (k1 : Int)))) s' := fun s' => rg1_int (by omega)
  have lrk : (rng 0 (1 + (k1 : Int))).length = 1 + k1 := by
    have := rng_len (n := 1 + k1)
    rwa [Int.natCast_add] at this
  obtain ⟨τ', s4, e4, A, ⟨t4, t5, t6, rfl⟩, g4, l4, K4, D4, F4⟩ := for_inv (q := .fix (rng 0 (1 + (k1 : Int)))) (set := gN 4) (u := (sSeq (sSet 5 (eLst aNil))
    (sSeq (sFor (iRg1 (eVar 1)) (gN 6) (sIf (tBl (eBin oEq (eVar 2) (eC (.int 0)))) (sExpr (eM "list" mAppend (eVar 5) (aCons (eTup (aCons (eBin oSub (eCall 2 f__law_draw (aCons (eVar 0) (aCons (eC (.int 5)) aNil))) (eC (.int 2))) (aCons (eC (.int 1)) aNil))) aNil))) (sIf (tBl (eBin oEq (eVar 2) (eC (.int 1)))) (sExpr (eM "list" mAppend (eVar 5) (aCons (eCall 2 f__law_f (aCons (eBin oSub (eUn oNeg (eC (.int 1))) (eCall 2 f__law_draw (aCons (eVar 0) (aCons (eC (.int 6)) aNil)))) (aCons (eBin oAdd (eC (.int 1)) (eCall 2 f__law_draw (aCons (eVar 0) (aCons (eC (.int 4)) aNil)))) aNil))) aNil))) (sIf (tBl (eBin oEq (eVar 2) (eC (.int 2)))) (sExpr (eM "list" mAppend (eVar 5) (aCons (eCall 2 f__law_f (aCons (eBin oSub (eCall 2 f__law_draw (aCons (eVar 0) (aCons (eBin oPow (eC (.int 10)) (eC (.int 12))) aNil))) (eBin oMul (eC (.int 5)) (eBin oPow (eC (.int 10)) (eC (.int 11))))) (aCons (eBin oAdd (eC (.int 1)) (eCall 2 f__law_draw (aCons (eVar 0) (aCons (eC (.int 9)) aNil)))) aNil))) aNil))) (sExpr (eM "list" mAppend (eVar 5) (aCons (eCall 2 f__law_f (aCons (eBin oSub (eCall 2 f__law_draw (aCons (eVar 0) (aCons (eC (.int 13)) aNil))) (eC (.int 6))) (aCons (eBin oAdd (eC (.int 1)) (eCall 2 f__law_draw (aCons (eVar 0) (aCons (eC (.int 4)) aNil)))) aNil))) aNil)))))))
    (sExpr (eM "list" mAppend (eVar 3) (aCons (eCB fTuple (aCons (eVar 5) aNil)) aNil))))))
    (fun k τ s' => ∃ A : List (List Rat), (∃ t4 t5 t6, τ = [some (.ref 1), some (.int (S : Nat)), some (.int sty), some (.ref m), t4, t5, t6, none]) ∧ lstAt s' m = some (A.map rws) ∧ A.length = k ∧ (∀ act ∈ A, act.length = S ∧ ∀ x ∈ act, Bq 2520 (2 ^ 60) x) ∧ DS ns s' ∧ Fr st s') (fun _ _ _ _ => rfl) (rng 0 (1 + (k1 : Int))) 0 [some (.ref 1), some (.int (S : Nat)), some (.int sty), some (.ref m), none, none, none, none] s2
    ⟨[], ⟨_, _, _, rfl⟩, gm2, rfl, by simp, D2, F02⟩ (by
      intro i d τ s' hi hp
      obtain ⟨A, ⟨t4, t5, t6, rfl⟩, g, lA, K, DD, F⟩ := hp
      have hi2 : i < 1 + k1 := by have := (List.getElem?_eq_some_iff.mp hi).1; omega
      have hml := lstAt_lt g
      obtain ⟨w, ew⟩ : ∃ w, w = s'.length := ⟨_, rfl⟩
      refine ⟨[some (.ref 1), some (.int (S : Nat)), some (.int sty), some (.ref m), some d, t5, t6, none], rfl, ?_⟩
      obtain ⟨τ2, s5, e5, xs, ⟨t6', rfl⟩, g5, l5, b5, D5, F5⟩ := for_inv (q := .fix (rng 0 S)) (set := gN 6) (u := (sIf (tBl (eBin oEq (eVar 2) (eC (.int 0)))) (sExpr (eM "list" mAppend (eVar 5) (aCons (eTup (aCons (eBin oSub (eCall 2 f__law_draw (aCons (eVar 0) (aCons (eC (.int 5)) aNil))) (eC (.int 2))) (aCons (eC (.int 1)) aNil))) aNil))) (sIf (tBl (eBin oEq (eVar 2) (eC (.int 1)))) (sExpr (eM "list" mAppend (eVar 5) (aCons (eCall 2 f__law_f (aCons (eBin oSub (eUn oNeg (eC (.int 1))) (eCall 2 f__law_draw (aCons (eVar 0) (aCons (eC (.int 6)) aNil)))) (aCons (eBin oAdd (eC (.int 1)) (eCall 2 f__law_draw (aCons (eVar 0) (aCons (eC (.int 4)) aNil)))) aNil))) aNil))) (sIf (tBl (eBin oEq (eVar 2) (eC (.int 2)))) (sExpr (eM "list" mAppend (eVar 5) (aCons (eCall 2 f__law_f (aCons (eBin oSub (eCall 2 f__law_draw (aCons (eVar 0) (aCons (eBin oPow (eC (.int 10)) (eC (.int 12))) aNil))) (eBin oMul (eC (.int 5)) (eBin oPow (eC (.int 10)) (eC (.int 11))))) (aCons (eBin oAdd (eC (.int 1)) (eCall 2 f__law_draw (aCons (eVar 0) (aCons (eC (.int 9)) aNil)))) aNil))) aNil))) (sExpr (eM "list" mAppend (eVar 5) (aCons (eCall 2 f__law_f (aCons (eBin oSub (eCall 2 f__law_draw (aCons (eVar 0) (aCons (eC (.int 13)) aNil))) (eC (.int 6))) (aCons (eBin oAdd (eC (.int 1)) (eCall 2 f__law_draw (aCons (eVar 0) (aCons (eC (.int 4)) aNil)))) aNil))) aNil)))))))
        (fun k τ s'' => ∃ xs : List Rat, (∃ t6, τ = [some (.ref 1), some (.int (S : Nat)), some (.int sty), some (.ref m), some d, some (.ref w), t6, none]) ∧ lstAt s'' w = some (xs.map qd) ∧ xs.length = k ∧ (∀ x ∈ xs, Bq 2520 (2 ^ 60) x) ∧ DS ns s'' ∧ Fr s' s'') (fun _ _ _ _ => rfl) (rng 0 S) 0 [some (.ref 1), some (.int (S : Nat)), some (.int sty), some (.ref m), some d, some (.ref w), t6, none] (s' ++ [.lst []])
        ⟨[], ⟨_, rfl⟩, by rw [ew]; exact lstAt_new, rfl, by simp, DD.app, .app⟩ (by
          intro j d2 τ s'' hj hp
          obtain ⟨xs, ⟨t6, rfl⟩, g', lx, bx, D', F'⟩ := hp
          have hj2 : j < S := by have := (List.getElem?_eq_some_iff.mp hj).1; rwa [rng_len] at this
          obtain ⟨x, s6, e6, g6, b6, D6, F6⟩ := r_act_body (sty := sty) (m := m) (S := (S : Nat)) (t4 := some d) (t6 := some d2) D' g' (by omega) (by omega)
          refine ⟨[some (.ref 1), some (.int (S : Nat)), some (.int sty), some (.ref m), some d, some (.ref w), some d2, none], rfl, _, _, .inl e6, xs ++ [x], ⟨_, rfl⟩, by rw [lstAt_set g6]; simp, by simp [lx], ?_, D6.put2 (by omega) (by omega), (F'.trans F6).put2 (by omega)⟩
          intro y hy
          rcases List.mem_append.mp hy with q | q
          · exact bx y q
          · rw [List.mem_singleton.mp q]
            exact b6)
      rw [rng_len, Nat.zero_add] at l5
      have gm5 := F5.lst g (by omega)
      have ap := mAppend_ref (x := rws xs) gm5 (by simp; omega)
      have ft : fTuple [.ref w] s5 = .ok (rws xs) s5 := fTuple_ref g5
      obtain ⟨Q, eQ⟩ : ∃ Q, Q = rws xs := ⟨_, rfl⟩
      refine ⟨[some (.ref 1), some (.int (S : Nat)), some (.int sty), some (.ref m), some d, some (.ref w), t6', none], s5.set m (Cell.lst (A.map rws ++ [rws xs])), .inl ?_, A ++ [xs], ⟨_, _, _, rfl⟩, by rw [lstAt_set gm5]; simp, by simp [lA], ?_, D5.put2 (by omega) (by omega), (F.trans F5).put2 (by omega)⟩
      · rw [← eQ] at ap ft ⊢
        simp [← ew, sFor_e, hrS, e5, okT_ref gm5, ft, ap]
      · intro y hy
        rcases List.mem_append.mp hy with q | q
        · exact K y q
        · rw [List.mem_singleton.mp q]
          exact ⟨l5, b5⟩)
  rw [lrk, Nat.zero_add] at l4
  obtain ⟨k2, s5, e5, k2b, D5, F5⟩ := r_drawN (many := 3) D4 (by decide) (by decide)
  have e5 : f__law_draw [.ref 1, .int 3] s4 = .ok (.int (k2 : Nat)) s5 := e5
  have g5 := F5.lst g4 (by omega)
  have hr2 : ∀ s', rg1 (.int (k2 : Nat)) s' = .ok (.fix (rng 0 k2)) s' := fun s' => rg1_int (by omega)
  obtain ⟨τ'', s6, e6, A6, ⟨u4, u7, rfl⟩, g6, l6, K6, D6, F6⟩ := for_inv (q := .fix (rng 0 k2)) (set := gN 4) (u := (sSeq (sSet 7 (eCall 2 f__law_pick (aCons (eVar 0) (aCons (eVar 3) aNil))))
    (sExpr (eM "list" mInsert (eVar 3) (aCons (eCall 2 f__law_draw (aCons (eVar 0) (aCons (eBin oAdd (eCB fLen (aCons (eVar 3) aNil)) (eC (.int 1))) aNil))) (aCons (eVar 7) aNil))))))
    (fun k τ s' => ∃ A : List (List Rat), (∃ t4 t7, τ = [some (.ref 1), some (.int (S : Nat)), some (.int sty), some (.ref m), t4, t5, t6, t7]) ∧ lstAt s' m = some (A.map rws) ∧ A.length = 1 + k1 + k ∧ (∀ act ∈ A, act.length = S ∧ ∀ x ∈ act, Bq 2520 (2 ^ 60) x) ∧ DS ns s' ∧ Fr st s') (fun _ _ _ _ => rfl) (rng 0 k2) 0 [some (.ref 1), some (.int (S : Nat)), some (.int sty), some (.ref m), t4, t5, t6, none] s5
    ⟨A, ⟨_, _, rfl⟩, g5, by omega, K4, D5, F4.trans F5⟩ (by
      intro i d τ s' hi hp
      obtain ⟨A, ⟨t4, t7, rfl⟩, g, lA, K, DD, F⟩ := hp
      have hi2 : i < k2 := by have := (List.getElem?_eq_some_iff.mp hi).1; rwa [rng_len] at this
      have hml := lstAt_lt g
      obtain ⟨v, s7, e7, hv, D7, F7⟩ := r_pick DD g (by omega) (by rw [List.length_map]; omega) (by rw [List.length_map]; omega)
      obtain ⟨act, hact, rfl⟩ := List.mem_map.mp hv
      have g7 := F7.lst g (by omega)
      have ln : fLen [.ref m] s7 = .ok (.int A.length) s7 := by rw [fLen_ref g7]; simp
      obtain ⟨j, s8, e8, j1, D8, F8⟩ := r_drawN (many := A.length + 1) D7 (by omega) (by omega)
      have e8 : f__law_draw [.ref 1, .int ((A.length : Int) + 1)] s7 = .ok (.int (j : Nat)) s8 := e8
      have g8 := F8.lst g7 (by omega)
      have ins := mInsert_ref (x := rws act) (k := j) g8 (by simp; omega) (by omega)
      have eA : (A.map rws).take j ++ [rws act] ++ (A.map rws).drop j = (A.take j ++ [act] ++ A.drop j).map rws := by simp
      rw [eA] at ins
      obtain ⟨A', eA'⟩ : ∃ A', A' = A.take j ++ [act] ++ A.drop j := ⟨_, rfl⟩
      rw [← eA'] at ins
      obtain ⟨Q, eQ⟩ : ∃ Q, Q = rws act := ⟨_, rfl⟩
      rw [← eQ] at ins e7
      refine ⟨[some (.ref 1), some (.int (S : Nat)), some (.int sty), some (.ref m), some d, t5, t6, t7], rfl, [some (.ref 1), some (.int (S : Nat)), some (.int sty), some (.ref m), some d, t5, t6, some Q], s8.set m (Cell.lst (A'.map rws)), .inl ?_, A', ⟨_, _, rfl⟩, lstAt_set g8, ?_, ?_, D8.put2 (by omega) (by omega), ((F.trans F7).trans F8).put2 (by omega)⟩
      · simp [e7, okT_ref g7, ln, e8, ins]
      · rw [eA']
        simp
        omega
      · intro y hy
        rw [eA'] at hy
        rcases List.mem_append.mp hy with q | q
        · rcases List.mem_append.mp q with q | q
          · exact K y (List.mem_of_mem_take q)
          · rw [List.mem_singleton.mp q]
            exact K act hact
        · exact K y (List.mem_of_mem_drop q))
  rw [rng_len] at l6
  refine ⟨A6, s6, ?_, ⟨by omega, by omega, K6⟩, D6, F6⟩
  unfold f__law_some_acts
  rw [runB_e]
  unfold m__law_some_acts
  simp [List.replicate, e1, ← em, sFor_e, e2, hrk, e4, e5, hr2, e6, fTuple_ref g6]
  rfl
end

section
variable {ns : List Int} {st : Store}
theorem oAdd_tt {xs ys : List D} (h : xs.length + ys.length ≤ 16777216) : oAdd (.tup xs) (.tup ys) st = .ok (.tup (xs ++ ys)) st := by simp [h]
theorem atI_last {α : Type} {l : List α} {x : α} : atI (l ++ [x]) (-1) = some x := by
  have : ixN (l ++ [x]).length (-1) = some l.length := by
    unfold ixN
    rw [if_neg (by omega), if_pos (by simp; omega)]
    congr 1
    simp
    omega
  unfold atI
  rw [this]
  simp
def zr (k : Nat) : List Rat := (List.range k).map fun _ => 0
theorem r_grown {n S' N' : Nat} {V : List (List Rat)} (hV : ∀ r ∈ V, r.length = n) (v0 : 0 < V.length) (v8 : V.length ≤ S') (hS : S' ≤ 8) (hn : n ≤ N') (hN : N' ≤ 8) : ∃ (G : List (List Rat)) (st' : Store), f__law_grown [vw V, .int (S' : Nat), .int (N' : Nat)] st = .ok (vw G) st' ∧ (∀ r ∈ G, ∃ q ∈ V, r = q ++ zr (N' - n)) ∧ G.length ≤ 16 ∧ Gr st st' := by
  obtain ⟨XV, eXV⟩ : ∃ X, X = vw V := ⟨_, rfl⟩
  have dV : ∀ s, dSq s XV = some (.fix (V.map rws)) := fun s => by rw [eXV]; rfl
  have hr : ∀ (k : Nat) s', k ≤ 8 → rg1 (.int (k : Nat)) s' = .ok (.fix (rng 0 k)) s' := fun k s' h => rg1_int (by omega)
  have hl : ∀ k : Nat, k ≤ 8 → (rng 0 (k : Nat)).length ≤ 16777216 := fun k h => by rw [rng_len]; omega
  have c := comp_map (q := .fix (V.map rws)) (set := gN 4) (fe := (eBin oAdd (eVar 4) (eCS gTuple (lComp [5] (iRg1 (eBin oSub (eVar 2) (eCB fLen (aCons (eVar 4) aNil)))) (gN 5) HM.tYes (eTup (aCons (eC (.int 0)) (aCons (eC (.int 1)) aNil))))))) (τ := [some XV, some (.int (S' : Nat)), some (.int (N' : Nat)), none, none, none]) (st := st) rfl rws (fun r => rws (r ++ zr (N' - n))) V [] (fun r hr' => ⟨[some XV, some (.int (S' : Nat)), some (.int (N' : Nat)), none, some (rws r), none], rfl, by
    have lr := hV r hr'
    have c2 := comp_map (q := .fix (rng 0 (N' - n : Nat))) (set := gN 5) (fe := (eTup (aCons (eC (.int 0)) (aCons (eC (.int 1)) aNil)))) (τ := [some XV, some (.int (S' : Nat)), some (.int (N' : Nat)), none, some (rws r), none]) (st := st) rfl (fun k : Nat => D.int k) (fun _ : Nat => qd 0) (List.range (N' - n)) [] (fun k _ => ⟨[some XV, some (.int (S' : Nat)), some (.int (N' : Nat)), none, some (rws r), some (.int (k : Nat))], rfl, rfl⟩)
    rw [← rng_eq, List.nil_append] at c2
    have e1 : (N' : Int) - (r.length : Nat) = ((N' - n : Nat) : Int) := by omega
    have r1 := hr (N' - n) st (by omega)
    have l1 := hl (N' - n) (by omega)
    obtain ⟨Z, eZ⟩ : ∃ Z, Z = (List.range (N' - n)).map fun _ : Nat => qd 0 := ⟨_, rfl⟩
    rw [← eZ] at c2
    have lZ : Z.length = N' - n := by rw [eZ]; simp
    have ad := oAdd_tt (st := st) (xs := r.map qd) (ys := Z) (by simp; omega)
    have ef : (.tup (r.map qd ++ Z) : D) = rws (r ++ zr (N' - n)) := by
      rw [eZ]
      unfold rws zr
      rw [List.map_append, List.map_map]
      rfl
    rw [ef] at ad
    have ad : oAdd (rws r) (.tup Z) st = .ok (rws (r ++ zr (N' - n))) st := ad
    have ll := ln_rws (r := r) (s := st)
    obtain ⟨Q, eQ⟩ : ∃ Q, Q = rws r := ⟨_, rfl⟩
    rw [← eQ] at ad ll c2 ⊢
    simp [ll, e1, lComp_e, lc1, wipeD, r1, l1, c2, ad]⟩)
  rw [List.nil_append] at c
  obtain ⟨L, eL⟩ : ∃ L : List (List Rat), L = V.map fun r => r ++ zr (N' - n) := ⟨_, rfl⟩
  have eL2 : (V.map fun r => rws (r ++ zr (N' - n))) = L.map rws := by rw [eL, List.map_map]; rfl
  have lL : L.length = V.length := by rw [eL]; simp
  rw [eL2] at c
  obtain ⟨x, L', eLx⟩ : ∃ x L', L = L' ++ [x] := by
    have hne : L ≠ [] := fun h => by rw [h] at lL; simp at lL; omega
    exact ⟨L.getLast hne, L.dropLast, (List.dropLast_concat_getLast hne).symm⟩
  obtain ⟨m, em⟩ : ∃ m, m = st.length := ⟨_, rfl⟩
  obtain ⟨s1, es1⟩ : ∃ s1, s1 = st ++ [.lst (L.map rws)] := ⟨_, rfl⟩
  have g1 : lstAt s1 m = some (L.map rws) := by rw [es1, em]; exact lstAt_new
  have il : oIx (.ref m) (.int (-1)) s1 = .ok (rws x) s1 := by
    rw [oIx_ref g1, eLx, List.map_append]
    show ofO s1 (atI (L'.map rws ++ [rws x]) (-1)) = _
    rw [atI_last]
    rfl
  have c3 := comp_map (q := .fix (rng 0 (S' - V.length : Nat))) (set := gN 5) (fe := (eBin oIx (eVar 3) (eUn oNeg (eC (.int 1))))) (τ := [some XV, some (.int (S' : Nat)), some (.int (N' : Nat)), some (.ref m), none, none]) (st := s1) rfl (fun k : Nat => D.int k) (fun _ : Nat => rws x) (List.range (S' - V.length)) [] (fun k _ => ⟨[some XV, some (.int (S' : Nat)), some (.int (N' : Nat)), some (.ref m), none, some (.int (k : Nat))], rfl, by simp [il]⟩)
  rw [← rng_eq, List.nil_append] at c3
  obtain ⟨C, eC⟩ : ∃ C : List (List Rat), C = (List.range (S' - V.length)).map fun _ => x := ⟨_, rfl⟩
  have eC2 : ((List.range (S' - V.length)).map fun _ : Nat => rws x) = C.map rws := by rw [eC, List.map_map]; rfl
  have lC : C.length = S' - V.length := by rw [eC]; simp
  rw [eC2] at c3
  obtain ⟨s2, es2⟩ : ∃ s2, s2 = s1 ++ [.lst (C.map rws)] := ⟨_, rfl⟩
  have g2 : lstAt s2 m = some (L.map rws) := by rw [es2]; exact Gr.app.lst g1
  have g3 : lstAt s2 s1.length = some (C.map rws) := by rw [es2]; exact lstAt_new
  have ad := oAdd_ref g2 g3 (by simp; omega)
  rw [← List.map_append] at ad
  obtain ⟨G, eG⟩ : ∃ G, G = L ++ C := ⟨_, rfl⟩
  rw [← eG] at ad
  obtain ⟨s3, es3⟩ : ∃ s3, s3 = s2 ++ [.lst (G.map rws)] := ⟨_, rfl⟩
  have g4 : lstAt s3 s2.length = some (G.map rws) := by rw [es3]; exact lstAt_new
  rw [← es3] at ad
  have ln : fLen [.ref m] s1 = .ok (.int (V.length : Nat)) s1 := by rw [fLen_ref g1]; simp [lL]
  have e2 : (S' : Int) - (V.length : Nat) = ((S' - V.length : Nat) : Int) := by omega
  have r2 := hr (S' - V.length) s1 (by omega)
  have l2 := hl (S' - V.length) (by omega)
  have lV : V.length ≤ 16777216 := by omega
  refine ⟨G, s3, ?_, ?_, by rw [eG, List.length_append, lL, lC]; omega, by rw [es3, es2, es1]; exact (Gr.app.trans .app).trans .app⟩
  · rw [← eXV]
    have es1' : st ++ [Cell.lst (L.map rws)] = s1 := es1.symm
    have es2' : s1 ++ [Cell.lst (C.map rws)] = s2 := es2.symm
    obtain ⟨LQ, eLQ⟩ : ∃ Q, Q = L.map rws := ⟨_, rfl⟩
    obtain ⟨CQ, eCQ⟩ : ∃ Q, Q = C.map rws := ⟨_, rfl⟩
    rw [← eLQ] at c es1'
    rw [← eCQ] at c3 es2'
    simp [f__law_grown, runB_e, m__law_grown, List.replicate, lComp_e, lc1, wipeD, dV, lV, c, es1', ← em, ln, e2, r2, l2, c3, es2', ad, fTuple_ref g4]
    rfl
  · have inL : ∀ r ∈ L, ∃ q ∈ V, r = q ++ zr (N' - n) := fun r hr' => by
      rw [eL] at hr'
      obtain ⟨q, hq, rfl⟩ := List.mem_map.mp hr'
      exact ⟨q, hq, rfl⟩
    intro r hr'
    rw [eG] at hr'
    rcases List.mem_append.mp hr' with q | q
    · exact inL r q
    · rw [eC] at q
      obtain ⟨_, _, rfl⟩ := List.mem_map.mp q
      exact inL _ (by rw [eLx]; simp)
/-- as pairs -/
def prs (r : List Rat) : List (Int × Int) := r.map fun x => (x.num, ((x.den : Nat) : Int))
theorem ptup_prs {r : List Rat} : ptup (prs r) = rws r := by
  unfold ptup prs rws
  rw [List.map_map]
  rfl
theorem frp_prs {r : List Rat} : (prs r).map frp = r.map qd := by
  unfold prs
  rw [List.map_map]
  rfl
theorem pvw_prs {V : List (List Rat)} : pvw (V.map prs) = vw V := by
  unfold pvw vw
  rw [List.map_map]
  congr 1
  exact List.map_congr_left fun r _ => ptup_prs
theorem sm_prs {r : List Rat} (h : ∀ x ∈ r, QB 600 x) (hl : r.length ≤ 8) : Sm (prs r) := ⟨fun p hp => by
  obtain ⟨x, hx, rfl⟩ := List.mem_map.mp hp
  exact ⟨(h x hx).an, (h x hx).bi⟩, by unfold prs; rw [List.length_map]; exact hl⟩
theorem sv_prs {V : List (List Rat)} (h : ∀ r ∈ V, r.length ≤ 8 ∧ ∀ x ∈ r, QB 600 x) (hl : V.length ≤ 1000) : Sv (V.map prs) := ⟨fun ps hp => by
  obtain ⟨r, hr, rfl⟩ := List.mem_map.mp hp
  exact sm_prs (h r hr).2 (h r hr).1, by rw [List.length_map]; exact hl⟩
theorem isR_qd {x : Rat} (h : 0 ≤ x) : isR (x.num, ((x.den : Nat) : Int)) = true := by
  unfold isR
  have h1 : (1 : Int) ≤ (x.den : Nat) := by have := x.den_pos; omega
  have h2 : Nat.gcd x.num.natAbs ((x.den : Nat) : Int).natAbs = 1 := by rw [Int.natAbs_natCast]; exact x.reduced
  have h3 : 0 ≤ x.num := Rat.num_nonneg.mpr h
  simp only
  rw [decide_eq_true h1, decide_eq_true h2, decide_eq_true h3]
  rfl
theorem chOk_prs {n : Nat} {r : List Rat} (h1 : r.length = n) (h0 : 0 < n) (h2 : ∀ x ∈ r, 0 ≤ x) (h3 : sumR n (fun a => r.getD a 0) = 1) : chOk (prs r) = true := by
  have l : (prs r).length = n := by unfold prs; rw [List.length_map]; exact h1
  unfold chOk
  rw [l, decide_eq_true h0]
  have e : sumR n (rpn (prs r)) = 1 := by
    rw [← h3]
    refine sumR_congr fun a ha => ?_
    have hl : a < r.length := by omega
    unfold rpn prs rp
    simp only [List.getD_eq_getElem?_getD, List.getElem?_map, List.getElem?_eq_getElem hl, Option.map_some, Option.getD_some]
    exact Rat.num_divInt_den _
  rw [decide_eq_true e, List.all_eq_true.mpr fun p hp => by
    obtain ⟨x, hx, rfl⟩ := List.mem_map.mp hp
    exact isR_qd (h2 x hx)]
  rfl
theorem rowsOk_prs {n : Nat} {V : List (List Rat)} (hV : Vk n V) (h0 : 0 < n) : rowsOk (V.map prs) n = true := by
  unfold rowsOk
  refine List.all_eq_true.mpr fun ps hp => ?_
  obtain ⟨r, hr, rfl⟩ := List.mem_map.mp hp
  obtain ⟨h1, h2, h3⟩ := hV.r r hr
  rw [chOk_prs h1 h0 h2 h3, decide_eq_true (by unfold prs; rw [List.length_map]; exact h1)]
  rfl
theorem plain_vw {V : List (List Rat)} : (vw V).plain 60 = true := by
  unfold vw
  rw [plain_tup, List.all_eq_true]
  intro x hx
  obtain ⟨r, _, rfl⟩ := List.mem_map.mp hx
  unfold rws
  rw [plain_tup, List.all_eq_true]
  intro y hy
  obtain ⟨q, _, rfl⟩ := List.mem_map.mp hy
  rw [qd_tup]
  simp
theorem eq_vw {V : List (List Rat)} : oEq (vw V) (vw V) st = .ok (.bl true) st := by
  have p := plain_vw (V := V)
  unfold vw at p ⊢
  rw [oEq_tup p p]
  simp
theorem ne_vw {V : List (List Rat)} : oNe (vw V) (vw V) st = .ok (.bl false) st := by
  have p := plain_vw (V := V)
  unfold vw at p ⊢
  rw [oNe_tup p p]
  simp
theorem r_through_right {K L n : Nat} {V M : List (List Rat)} (hV : Vk M.length V) (hM : Vk n M) (vb : Vb K M.length V) (mb : Vb L n M) (tb : Vb 600 n (thr V M)) (h0 : 0 < M.length) (h8 : M.length ≤ 8) (hn0 : 0 < n) (hn : n ≤ 8) (hv : V.length ≤ 8) (hb : K + L ≤ 900) :
    ∃ st', f__law_through_right [vw V, vw M] st = .ok (.bl true) st' ∧ Gr st st' := by
  have e1 := r_through (st := st) vb mb h0 h8 hn hv hb
  obtain ⟨s1, e2, G1⟩ := r_lthrough (st := st) vb mb h0 h8 hn hv hb
  have ok := thr_ok hV hM h0
  have sv := sv_prs (V := thr V M) (fun r hr => ⟨by have := (tb.r r hr).1; omega, (tb.r r hr).2⟩) (by rw [thr_len]; omega)
  have z := v_lis_view (st := st) sv (k := V.length) (n := n)
  rw [pvw_prs, rowsOk_prs ok hn0, decide_eq_true (by rw [List.length_map, thr_len])] at z
  have l1 := ln_vw (V := V) (s := st)
  have i0 := ix_vw0 (V := M) (s := st) h0
  have l0 : fLen [rws (M.headD [])] st = .ok (.int (n : Nat)) st := by rw [ln_rws, hM.head h0]
  have q := eq_vw (V := thr V M) (st := s1)
  obtain ⟨XV, eXV⟩ : ∃ X, X = vw V := ⟨_, rfl⟩
  obtain ⟨XM, eXM⟩ : ∃ X, X = vw M := ⟨_, rfl⟩
  obtain ⟨XT, eXT⟩ : ∃ X, X = vw (thr V M) := ⟨_, rfl⟩
  obtain ⟨HD, eHD⟩ : ∃ X, X = rws (M.headD []) := ⟨_, rfl⟩
  rw [← eXV] at l1 e1 e2 ⊢
  rw [← eXM] at i0 e1 e2 ⊢
  rw [← eXT] at z q e1 e2
  rw [← eHD] at i0 l0
  refine ⟨s1, ?_, G1⟩
  simp [f__law_through_right, runB_e, m__law_through_right, List.replicate, e1, l1, i0, l0, z, e2, q]
end

section
variable {ns : List Int} {st : Store}
theorem mPopAt_ref {m k : Nat} {x : D} {xs : List D} (g : lstAt st m = some xs) (hk : k < xs.length) (hx : xs[k]? = some x) (hl : xs.length ≤ 16777216) : mPopAt (.ref m) [.int (k : Nat)] st = .ok x (st.set m (.lst (xs.eraseIdx k))) := by
  have h1 := (ixN_seq (ixN_of hk)).1
  have h2 : okIx ((k : Nat) : Int) = true := decide_eq_true (by omega)
  unfold mPopAt
  simp only [g, h1, hx, h2, if_true]
theorem erase_mapG {α : Type} {f : α → D} : ∀ (l : List α) (k : Nat), (l.map f).eraseIdx k = (l.eraseIdx k).map f
  | [], _ => rfl
  | _ :: _, 0 => rfl
  | a :: l, k + 1 => by rw [List.map_cons, List.eraseIdx_cons_succ, List.eraseIdx_cons_succ, List.map_cons, erase_mapG l k]
/-- rows of pairs in the store -/
def Qs (s : Store) (qs : List (Nat × List (Int × Int))) : Prop := ∀ p ∈ qs, lstAt s p.1 = some (p.2.map frp) ∧ Sm p.2 ∧ 2 ≤ p.1
def updq (qs : List (Nat × List (Int × Int))) (c : Nat) (R : List (Int × Int)) : List (Nat × List (Int × Int)) := qs.map fun p => if p.1 = c then (p.1, R) else p
theorem updq_ref {qs : List (Nat × List (Int × Int))} {c : Nat} {R : List (Int × Int)} : (updq qs c R).map (fun p => D.ref p.1) = qs.map fun p => D.ref p.1 := by
  unfold updq
  rw [List.map_map]
  refine List.map_congr_left fun p _ => ?_
  show D.ref (if p.1 = c then (p.1, R) else p).1 = D.ref p.1
  split <;> rfl
theorem qs_tail {m : Nat} {τ : Sl} {qs : List (Nat × List (Int × Int))} (Q : Qs st qs) (hm : lstAt st m = some (qs.map fun p => D.ref p.1)) (hl : qs.length ≤ 100) (h3 : τ[3]? = some (some (.ref m))) (h10 : ∀ d, ∃ τ1, gN 10 d (wipeD τ [10]) = some τ1 ∧ τ1[10]? = some (some d)) :
    ((sRet (eCS gTuple (lComp [10] (iEx (eVar 3)) (gN 10) HM.tYes (eCB fTuple (aCons (eVar 10) aNil))))) τ st).fin = .ok (pvw (qs.map (·.2))) st ∧ Sv (qs.map (·.2)) := by
  have c := comp_map (q := .cell m (qs.map fun p => D.ref p.1)) (set := gN 10) (fe := (eCB fTuple (aCons (eVar 10) aNil))) (τ := wipeD τ [10]) (st := st) (by simp [Sq.chk, hm]) (fun p : Nat × List (Int × Int) => D.ref p.1) (fun p => ptup p.2) qs [] (fun p hp => by
    obtain ⟨τ1, e1, e2⟩ := h10 (D.ref p.1)
    refine ⟨τ1, e1, ?_⟩
    have := fTuple_ref (Q p hp).1
    simp [eVar_e e2, this]
    rfl)
  rw [List.nil_append] at c
  refine ⟨?_, fun ps hp => ?_, by rw [List.length_map]; omega⟩
  · have e : pvw (qs.map (·.2)) = .tup (qs.map fun p => ptup p.2) := by
      unfold pvw
      rw [List.map_map]
      rfl
    rw [e]
    obtain ⟨X, eX⟩ : ∃ X, X = qs.map fun p => D.ref p.1 := ⟨_, rfl⟩
    have lX : X.length ≤ 16777216 := by rw [eX, List.length_map]; omega
    rw [← eX] at c hm
    simp [eVar_e h3, lComp_e, lc1, dSq_ref hm, lX, c]
  · obtain ⟨p, hq, rfl⟩ := List.mem_map.mp hp
    exact (Q p hq).2.1
theorem frp_qd {x : Rat} : frp (x.num, ((x.den : Nat) : Int)) = qd x := rfl
theorem r_spoilt {n : Nat} {V : List (List Rat)} (H : DS ns st) (hV : ∀ r ∈ V, r.length = n ∧ ∀ x ∈ r, QB 500 x) (n0 : 0 < n) (n6 : n ≤ 6) (v0 : 0 < V.length) (v8 : V.length ≤ 8) : ∃ P st', f__law_spoilt_view [.ref 1, vw V] st = .ok (pvw P) st' ∧ Sv P ∧ DS ns st' ∧ Fr st st' := by
  obtain ⟨XV, eXV⟩ : ∃ X, X = vw V := ⟨_, rfl⟩
  have dV : ∀ s, dSq s XV = some (.fix (V.map rws)) := fun s => by rw [eXV]; rfl
  have lV : V.length ≤ 16777216 := by omega
  have up500 : ∀ {x : Rat}, QB 500 x → QB 600 x := fun h => h.up (by decide)
  obtain ⟨w, s1, e1, w0, w1, D1, F1⟩ := r_draw (many := 12) H (by decide) (by decide)
  obtain ⟨ys, s2, e2, qs, rfl, eqs, ⟨Q2, QL2⟩, G2⟩ := comp_gen (q := .fix (V.map rws)) (set := gN 5) (ft := HM.tYes) (fe := (eCB fList (aCons (eVar 5) aNil))) (τ := [some (.ref 1), some XV, some (.int w), none, none, none, none, none, none, none, none])
    (fun i acc s => ∃ qs : List (Nat × List (Int × Int)), acc = qs.map (fun p => D.ref p.1) ∧ qs.map (·.2) = (V.take i).map prs ∧ (Qs s qs ∧ ∀ p ∈ qs, st.length ≤ p.1) ∧ Gr s1 s) (fun _ _ _ _ => rfl) (V.map rws) 0 [] s1 ⟨[], rfl, rfl, ⟨by intro p hp; simp at hp, by intro p hp; simp at hp⟩, .refl⟩ (by
      intro i d acc s hi hp
      obtain ⟨qs, rfl, eqs, ⟨Q, QL⟩, G⟩ := hp
      obtain ⟨r, hr, rfl⟩ := map_at hi
      rw [Nat.zero_add] at eqs ⊢
      have hrm := List.mem_of_getElem? hr
      refine ⟨[some (.ref 1), some XV, some (.int w), none, none, some (rws r), none, none, none, none, none], rfl, true, s, rfl, (fun h => nomatch h), fun _ => ⟨.ref s.length, s ++ [Cell.lst (r.map qd)], ?_, qs ++ [(s.length, prs r)], by simp, ?_, ⟨?_, ?_⟩, G.trans .app⟩⟩
      · have : fList [rws r] s = .ok (.ref s.length) (s ++ [.lst (r.map qd)]) := fList_tup
        simp [this]
      · rw [List.take_succ, hr, List.map_append, List.map_append, eqs]
        rfl
      · intro p hp
        rcases List.mem_append.mp hp with q | q
        · obtain ⟨a, b, c⟩ := Q p q
          exact ⟨Gr.app.lst a, b, c⟩
        · rw [List.mem_singleton.mp q]
          refine ⟨by rw [frp_prs]; exact lstAt_new, sm_prs (fun x hx => up500 ((hV r hrm).2 x hx)) (by have := (hV r hrm).1; omega), (G.ds D1).len⟩
      · intro p hp
        rcases List.mem_append.mp hp with q | q
        · exact QL p q
        · rw [List.mem_singleton.mp q]
          exact Nat.le_trans F1.len G.len)
  rw [List.length_map, Nat.zero_add, List.take_length] at eqs
  have lq : qs.length = V.length := by
    have := congrArg List.length eqs
    simpa using this
  obtain ⟨m, em⟩ : ∃ m, m = s2.length := ⟨_, rfl⟩
  obtain ⟨s3, es3⟩ : ∃ s3, s3 = s2 ++ [.lst (qs.map fun p => D.ref p.1)] := ⟨_, rfl⟩
  have g3 : lstAt s3 m = some (qs.map fun p => D.ref p.1) := by rw [es3, em]; exact lstAt_new
  have D2 := G2.ds D1
  have m2 : 2 ≤ m := by rw [em]; exact D2.len
  have D3 : DS ns s3 := by rw [es3]; exact D2.app
  have F3 : Fr st s3 := by rw [es3]; exact F1.trans (G2.fr.trans .app)
  have Q3 : ∀ p ∈ qs, lstAt s3 p.1 = some (p.2.map frp) ∧ p.1 < m := fun p hp => by
    have := (Q2 p hp).1
    exact ⟨by rw [es3]; exact Gr.app.lst this, by rw [em]; exact lstAt_lt this⟩
  have ln3 : fLen [.ref m] s3 = .ok (.int (V.length : Nat)) s3 := by rw [fLen_ref g3]; simp [lq]
  obtain ⟨k, s4, e4, k1, D4, F4⟩ := r_drawN (many := V.length) D3 v0 (by omega)
  have hkq : k < qs.length := by omega
  obtain ⟨⟨c, R⟩, eP⟩ : ∃ p, p = qs[k] := ⟨_, rfl⟩
  have hpm : (c, R) ∈ qs := by rw [eP]; exact List.getElem_mem _
  obtain ⟨r, hrV, eR⟩ : ∃ r ∈ V, R = prs r := by
    have : R ∈ qs.map (·.2) := List.mem_map.mpr ⟨_, hpm, rfl⟩
    rw [eqs] at this
    obtain ⟨r, hr, e⟩ := List.mem_map.mp this
    exact ⟨r, hr, e.symm⟩
  obtain ⟨hrl, hrq⟩ := hV r hrV
  have lR : R.length = n := by rw [eR]; unfold prs; rw [List.length_map]; exact hrl
  have c2 : 2 ≤ c := (Q2 _ hpm).2.2
  have cst : st.length ≤ c := QL2 _ hpm
  have cm : c < m := (Q3 _ hpm).2
  have smR : Sm R := (Q2 _ hpm).2.1
  have gc3 : lstAt s3 c = some (R.map frp) := (Q3 _ hpm).1
  have g4 := F4.lst g3 (by omega)
  have gc4 := F4.lst gc3 (by omega)
  have ik : oIx (.ref m) (.int (k : Nat)) s4 = .ok (.ref c) s4 := by
    rw [oIx_ref g4, atI_of (by simpa using hkq)]
    simp only [List.getElem_map]
    rw [← eP]
    rfl
  have ln4 : fLen [.ref c] s4 = .ok (.int (n : Nat)) s4 := by rw [fLen_ref gc4]; simp [lR]
  obtain ⟨i, s5, e5, i1, D5, F5⟩ := r_drawN (many := n) D4 n0 (by omega)
  have g5 := F5.lst g4 (by omega)
  have gc5 := F5.lst gc4 (by omega)
  have hiR : i < R.length := by omega
  have hir : i < r.length := by omega
  obtain ⟨x, ex⟩ : ∃ x, x = r[i] := ⟨_, rfl⟩
  have hx : QB 500 x := by rw [ex]; exact hrq _ (List.getElem_mem _)
  have ixr : ∀ s, lstAt s c = some (R.map frp) → oIx (.ref c) (.int (i : Nat)) s = .ok (qd x) s := fun s g => by
    rw [oIx_ref g, atI_of (by simpa using hiR)]
    simp only [List.getElem_map]
    rw [show R[i] = (x.num, ((x.den : Nat) : Int)) by simp [eR, prs, ex]]
    rfl
  have x0 : ∀ s, oIx (qd x) (.int 0) s = .ok (.int x.num) s := fun s => by rw [qd_tup]; simp
  have x1 : ∀ s, oIx (qd x) (.int 1) s = .ok (.int ((x.den : Nat) : Int)) s := fun s => by rw [qd_tup]; simp
  have F05 : Fr st s5 := (F3.trans F4).trans F5
  have Q5 : ∀ p ∈ qs, lstAt s5 p.1 = some (p.2.map frp) := fun p hp => F5.lst (F4.lst (Q3 p hp).1 (by have := (Q2 p hp).2.2; omega)) (by have := (Q2 p hp).2.2; omega)
  have ixi : ixN (R.map frp).length (i : Nat) = some i := ixN_of (by simpa using hiR)
  -- behind a change of the row
  have row : ∀ (R' : List (Int × Int)) (s' : Store) (a5 a6 a7 a8 a9 : Option D), Sm R' → lstAt s' c = some (R'.map frp) → (∀ c' xs, c' ≠ c → c' ≠ 1 → lstAt s5 c' = some xs → lstAt s' c' = some xs) →
      ((sRet (eCS gTuple (lComp [10] (iEx (eVar 3)) (gN 10) HM.tYes (eCB fTuple (aCons (eVar 10) aNil))))) [some (.ref 1), some XV, some (.int w), some (.ref m), some (.int (k : Nat)), a5, a6, a7, a8, a9, none] s').fin = .ok (pvw ((updq qs c R').map (·.2))) s' ∧ Sv ((updq qs c R').map (·.2)) := fun R' s' a5 a6 a7 a8 a9 sm g keep => by
    refine qs_tail (m := m) ?_ (by rw [updq_ref]; exact keep m _ (by omega) (by omega) g5) (by unfold updq; rw [List.length_map]; omega) rfl (fun d => ⟨_, rfl, rfl⟩)
    intro p hp
    obtain ⟨p0, hp0, rfl⟩ := List.mem_map.mp hp
    have h2 := (Q2 p0 hp0).2
    by_cases h : p0.1 = c
    · rw [if_pos h]
      exact ⟨by show lstAt s' p0.1 = _; rw [h]; exact g, sm, h2.2⟩
    · rw [if_neg h]
      exact ⟨keep _ _ h (by omega) (Q5 p0 hp0), h2⟩
  have keep1 : ∀ {s : Store} {cl : Cell}, (∀ c' xs, c' ≠ 1 → lstAt s5 c' = some xs → lstAt s c' = some xs) → ∀ c' xs, c' ≠ c → c' ≠ 1 → lstAt s5 c' = some xs → lstAt (s.set c cl) c' = some xs := fun h c' xs h1 h2 h3 => by rw [lstAt_ne h1]; exact h c' xs h2 h3
  have id5 : ∀ c' xs, c' ≠ 1 → lstAt s5 c' = some xs → lstAt s5 c' = some xs := fun _ _ _ h => h
  have smset : ∀ {p : Int × Int}, p.1.natAbs < 2 ^ 600 → p.2.natAbs < 2 ^ 600 → Sm (R.set i p) := fun h1 h2 => ⟨fun q hq => by
    rcases List.mem_or_eq_of_mem_set hq with a | rfl
    · exact smR.b q a
    · exact ⟨h1, h2⟩, by rw [List.length_set]; exact smR.l⟩
  have es3' : s2 ++ [Cell.lst (qs.map fun p => D.ref p.1)] = s3 := es3.symm
  obtain ⟨RF, eRF⟩ : ∃ RF, RF = qs.map fun p => D.ref p.1 := ⟨_, rfl⟩
  rw [← eRF] at e2 es3' g5
  have b1 := Nat.lt_of_lt_of_le hx.an (Nat.pow_le_pow_right (n := 2) (i := 500) (j := 599) (by decide) (by decide))
  have b2 := Nat.lt_of_lt_of_le hx.bn (Nat.pow_le_pow_right (n := 2) (i := 500) (j := 599) (by decide) (by decide))
  have p600 : (2 : Nat) ^ 600 = 2 * 2 ^ 599 := by rw [← Nat.pow_succ']
  obtain ⟨T, eT⟩ : ∃ T : Nat, T = 2 ^ 599 := ⟨_, rfl⟩
  rw [← eT] at b1 b2 p600
  have T1 : 0 < T := by rw [eT]; exact Nat.pow_pos (by decide)
  have oset : ∀ {s : Store} {p : Int × Int}, lstAt s c = some (R.map frp) → oSet (.ref c) (.int (i : Nat)) (frp p) s = some (s.set c (Cell.lst ((R.set i p).map frp))) := fun g => by
    rw [oSet_ref g ixi, ← List.map_set]
  rw [← eXV]
  unfold f__law_spoilt_view
  rw [runB_e]
  unfold m__law_spoilt_view
  by_cases h0 : w = 0
  · have o := oset (p := (2 * x.num, 2 * ((x.den : Nat) : Int))) gc5
    obtain ⟨z, sv⟩ := row (R.set i (2 * x.num, 2 * ((x.den : Nat) : Int))) (s5.set c (Cell.lst ((R.set i (2 * x.num, 2 * ((x.den : Nat) : Int))).map frp))) (some (.ref c)) (some (.int (i : Nat))) (some (.int x.num)) (some (.int ((x.den : Nat) : Int))) none (smset (by rw [p600]; show (2 * x.num).natAbs < _; omega) (by rw [p600]; show (2 * ((x.den : Nat) : Int)).natAbs < _; omega)) (lstAt_set gc5) (keep1 id5)
    refine ⟨_, s5.set c (Cell.lst ((R.set i (2 * x.num, 2 * ((x.den : Nat) : Int))).map frp)), ?_, sv, D5.put2 (by omega) (by omega), F05.put2 cst⟩
    have k1 : okMul 2 x.num = true := okMul_l (by decide)
    have k2 : okMul 2 ((x.den : Nat) : Int) = true := okMul_l (by decide)
    have o : oSet (.ref c) (.int (i : Nat)) (.tup [.int (2 * x.num), .int (2 * ((x.den : Nat) : Int))]) s5 = _ := o
    subst h0
    rw [← z]
    simp [-sRet_e, -oSet, List.replicate, e1, lComp_e, lc1, wipeD, dV, lV, e2, es3', ← em, ln3, e4, ik, ln4, e5, ixr _ gc5, x0, x1, k1, k2, o]
  by_cases h1 : w = 1
  · have o := oset (p := (-x.num, -((x.den : Nat) : Int))) gc5
    obtain ⟨z, sv⟩ := row (R.set i (-x.num, -((x.den : Nat) : Int))) (s5.set c (Cell.lst ((R.set i (-x.num, -((x.den : Nat) : Int))).map frp))) (some (.ref c)) (some (.int (i : Nat))) (some (.int x.num)) (some (.int ((x.den : Nat) : Int))) none (smset (by rw [p600]; show (-x.num).natAbs < _; omega) (by rw [p600]; show (-((x.den : Nat) : Int)).natAbs < _; omega)) (lstAt_set gc5) (keep1 id5)
    refine ⟨_, s5.set c (Cell.lst ((R.set i (-x.num, -((x.den : Nat) : Int))).map frp)), ?_, sv, D5.put2 (by omega) (by omega), F05.put2 cst⟩
    have o : oSet (.ref c) (.int (i : Nat)) (.tup [.int (-x.num), .int (-((x.den : Nat) : Int))]) s5 = _ := o
    subst h1
    rw [← z]
    simp [-sRet_e, -oSet, List.replicate, e1, lComp_e, lc1, wipeD, dV, lV, e2, es3', ← em, ln3, e4, ik, ln4, e5, ixr _ gc5, x0, x1, o]
  by_cases h2 : w = 2
  · have o := oset (p := (x.num, 0)) gc5
    obtain ⟨z, sv⟩ := row (R.set i (x.num, 0)) (s5.set c (Cell.lst ((R.set i (x.num, 0)).map frp))) (some (.ref c)) (some (.int (i : Nat))) (some (.int x.num)) (some (.int ((x.den : Nat) : Int))) none (smset (by rw [p600]; show x.num.natAbs < _; omega) (by rw [p600]; show (0 : Int).natAbs < _; omega)) (lstAt_set gc5) (keep1 id5)
    refine ⟨_, s5.set c (Cell.lst ((R.set i (x.num, 0)).map frp)), ?_, sv, D5.put2 (by omega) (by omega), F05.put2 cst⟩
    have o : oSet (.ref c) (.int (i : Nat)) (.tup [.int x.num, .int 0]) s5 = _ := o
    subst h2
    rw [← z]
    simp [-sRet_e, -oSet, List.replicate, e1, lComp_e, lc1, wipeD, dV, lV, e2, es3', ← em, ln3, e4, ik, ln4, e5, ixr _ gc5, x0, x1, o]
  by_cases h3 : w = 3
  · obtain ⟨y, ey⟩ : ∃ y, y = Rat.divInt (x.num + 1) ((x.den : Nat) : Int) := ⟨_, rfl⟩
    have yb : QB 600 y := by
      rw [ey]
      exact .of den_ne (by rw [p600]; omega) (by rw [p600, Int.natAbs_natCast]; omega)
    have lf := r_fQ (st := s5) (n := x.num + 1) (d := ((x.den : Nat) : Int)) (k := 599) den_ne (by rw [Int.natAbs_natCast, ← eT]; exact b2) (by decide)
    rw [← ey] at lf
    have o := oset (p := (y.num, ((y.den : Nat) : Int))) gc5
    rw [frp_qd] at o
    obtain ⟨z, sv⟩ := row (R.set i (y.num, ((y.den : Nat) : Int))) (s5.set c (Cell.lst ((R.set i (y.num, ((y.den : Nat) : Int))).map frp))) (some (.ref c)) (some (.int (i : Nat))) (some (.int x.num)) (some (.int ((x.den : Nat) : Int))) none (smset yb.an yb.bi) (lstAt_set gc5) (keep1 id5)
    refine ⟨_, s5.set c (Cell.lst ((R.set i (y.num, ((y.den : Nat) : Int))).map frp)), ?_, sv, D5.put2 (by omega) (by omega), F05.put2 cst⟩
    subst h3
    rw [← z]
    simp [-sRet_e, -oSet, List.replicate, e1, lComp_e, lc1, wipeD, dV, lV, e2, es3', ← em, ln3, e4, ik, ln4, e5, ixr _ gc5, x0, x1, lf, o]
  by_cases h4 : w = 4
  · obtain ⟨t, s6, e6, t1, D6, F6⟩ := r_drawN (many := n) D5 n0 (by omega)
    have gc6 := F6.lst gc5 (by omega)
    have ln5 : fLen [.ref c] s5 = .ok (.int (n : Nat)) s5 := by rw [fLen_ref gc5]; simp [lR]
    have q1 : QB 1 (1 : Rat) := ⟨by decide, by decide⟩
    have mi := r_lminusQ (st := s6) hx q1 (by decide)
    obtain ⟨y, ey⟩ : ∃ y, y = x - 1 := ⟨_, rfl⟩
    have hy : QB 502 y := by rw [ey]; exact hx.sub q1
    rw [← ey] at mi
    obtain ⟨r1, er1⟩ : ∃ r1, r1 = r.set i y := ⟨_, rfl⟩
    have lr1 : r1.length = n := by rw [er1, List.length_set]; exact hrl
    have qr1 : ∀ z ∈ r1, QB 502 z := fun z hz => by
      rw [er1] at hz
      rcases List.mem_or_eq_of_mem_set hz with a | rfl
      · exact (hrq z a).up (by decide)
      · exact hy
    have o1 : oSet (.ref c) (.int (i : Nat)) (qd y) s6 = some (s6.set c (Cell.lst (r1.map qd))) := by
      rw [oSet_ref gc6 ixi, er1, eR, frp_prs, ← List.map_set]
    obtain ⟨s7, es7⟩ : ∃ s7, s7 = s6.set c (Cell.lst (r1.map qd)) := ⟨_, rfl⟩
    rw [← es7] at o1
    have gc7 : lstAt s7 c = some (r1.map qd) := by rw [es7]; exact lstAt_set gc6
    have it : oIx (.ref c) (.int (t : Nat)) s7 = .ok (qd (r1.getD t 0)) s7 := by
      rw [oIx_ref gc7, atI_of (by rw [List.length_map]; omega)]
      simp [show t < r1.length by omega]
    have hv := qr1 _ (getD_mem (z := (0 : Rat)) (show t < r1.length by omega))
    have pl := r_lplusQ (st := s7) hv q1 (by decide)
    obtain ⟨v, ev⟩ : ∃ v, v = r1.getD t 0 := ⟨_, rfl⟩
    rw [← ev] at it hv pl
    have hu : QB 504 (v + 1) := hv.add q1
    obtain ⟨u, eu⟩ : ∃ u, u = v + 1 := ⟨_, rfl⟩
    rw [← eu] at pl hu
    obtain ⟨r2, er2⟩ : ∃ r2, r2 = r1.set t u := ⟨_, rfl⟩
    have o2 : oSet (.ref c) (.int (t : Nat)) (qd u) s7 = some (s7.set c (Cell.lst ((prs r2).map frp))) := by
      rw [oSet_ref gc7 (ixN_of (by rw [List.length_map]; omega)), frp_prs, er2, ← List.map_set]
    have sm2 : Sm (prs r2) := sm_prs (fun z hz => by
      rw [er2] at hz
      rcases List.mem_or_eq_of_mem_set hz with a | rfl
      · exact (qr1 z a).up (by decide)
      · exact hu.up (by decide)) (by rw [er2, List.length_set]; omega)
    obtain ⟨z, sv⟩ := row (prs r2) (s7.set c (Cell.lst ((prs r2).map frp))) (some (.ref c)) (some (.int (i : Nat))) (some (.int x.num)) (some (.int ((x.den : Nat) : Int))) (some (.int (t : Nat))) sm2 (lstAt_set gc7) (fun c' xs h1 h2 h3 => by rw [lstAt_ne h1, es7, lstAt_ne h1]; exact F6.lst h3 h2)
    refine ⟨_, s7.set c (Cell.lst ((prs r2).map frp)), ?_, sv, by rw [es7]; exact (D6.put2 (by omega) (by omega)).put2 (by omega) (by omega), by rw [es7]; exact ((F05.trans F6).put2 cst).put2 cst⟩
    subst h4
    rw [← z]
    simp [-sRet_e, -oSet, List.replicate, e1, lComp_e, lc1, wipeD, dV, lV, e2, es3', ← em, ln3, e4, ik, ln4, e5, ixr _ gc5, x0, x1, ln5, e6, ixr _ gc6, one_qd, mi, o1, it, pl, o2]
  by_cases h5 : w = 5
  · have ins := mInsert_ref (x := qd 0) (k := i) gc5 (by simp; omega) (by omega)
    have eI : (R.map frp).take i ++ [qd 0] ++ (R.map frp).drop i = (R.take i ++ [((0 : Int), (1 : Int))] ++ R.drop i).map frp := by
      rw [List.map_append, List.map_append, List.map_take, List.map_drop]
      rfl
    rw [eI] at ins
    obtain ⟨R', eR'⟩ : ∃ R', R' = R.take i ++ [((0 : Int), (1 : Int))] ++ R.drop i := ⟨_, rfl⟩
    rw [← eR'] at ins
    have sm' : Sm R' := ⟨fun q hq => by
      rw [eR'] at hq
      rcases List.mem_append.mp hq with a | a
      · rcases List.mem_append.mp a with a | a
        · exact smR.b q (List.mem_of_mem_take a)
        · rw [List.mem_singleton.mp a, p600]
          exact ⟨by show (0 : Int).natAbs < _; omega, by show (1 : Int).natAbs < _; omega⟩
      · exact smR.b q (List.mem_of_mem_drop a), by rw [eR']; simp; omega⟩
    obtain ⟨z, sv⟩ := row R' (s5.set c (Cell.lst (R'.map frp))) (some (.ref c)) (some (.int (i : Nat))) (some (.int x.num)) (some (.int ((x.den : Nat) : Int))) none sm' (lstAt_set gc5) (keep1 id5)
    refine ⟨_, s5.set c (Cell.lst (R'.map frp)), ?_, sv, D5.put2 (by omega) (by omega), F05.put2 cst⟩
    subst h5
    rw [← z]
    simp [-sRet_e, -oSet, List.replicate, e1, lComp_e, lc1, wipeD, dV, lV, e2, es3', ← em, ln3, e4, ik, ln4, e5, ixr _ gc5, x0, x1, okT_ref gc5, zero_qd, ins]
  by_cases h6 : w = 6
  · have ins := mPopAt_ref (k := i) (x := qd x) gc5 (by simpa using hiR) (by
      have := ixr s5 gc5
      rw [oIx_ref gc5, atI_of (by simpa using hiR)] at this
      rw [List.getElem?_eq_getElem (by simpa using hiR)]
      simp only [ofO_some] at this
      exact congrArg some (ER.ok.inj this).1) (by simp; omega)
    rw [erase_mapG] at ins
    have sm' : Sm (R.eraseIdx i) := ⟨fun q hq => smR.b q (List.mem_of_mem_eraseIdx hq), Nat.le_trans (List.length_eraseIdx_le R i) smR.l⟩
    obtain ⟨z, sv⟩ := row (R.eraseIdx i) (s5.set c (Cell.lst ((R.eraseIdx i).map frp))) (some (.ref c)) (some (.int (i : Nat))) (some (.int x.num)) (some (.int ((x.den : Nat) : Int))) none sm' (lstAt_set gc5) (keep1 id5)
    refine ⟨_, s5.set c (Cell.lst ((R.eraseIdx i).map frp)), ?_, sv, D5.put2 (by omega) (by omega), F05.put2 cst⟩
    subst h6
    rw [← z]
    simp [-sRet_e, -oSet, List.replicate, e1, lComp_e, lc1, wipeD, dV, lV, e2, es3', ← em, ln3, e4, ik, ln4, e5, ixr _ gc5, x0, x1, okT_ref gc5, ins]
  have Q5a : Qs s5 qs := fun p hp => ⟨Q5 p hp, (Q2 p hp).2⟩
  have lRF : RF.length = qs.length := by rw [eRF]; simp
  by_cases h7 : w = 7
  · obtain ⟨s6, es6⟩ : ∃ s6, s6 = s5 ++ [.lst (R.map frp)] := ⟨_, rfl⟩
    have fl : fList [.ref c] s5 = .ok (.ref s5.length) s6 := by rw [es6]; exact fList_ref gc5
    have g6 : lstAt s6 m = some RF := by rw [es6]; exact Gr.app.lst g5
    have ins := mInsert_ref (x := .ref s5.length) (k := k) g6 (by omega) (by omega)
    obtain ⟨qs', eqs'⟩ : ∃ qs', qs' = qs.take k ++ [(s5.length, R)] ++ qs.drop k := ⟨_, rfl⟩
    have eI : RF.take k ++ [.ref s5.length] ++ RF.drop k = qs'.map fun p => D.ref p.1 := by
      rw [eqs', eRF, List.map_append, List.map_append, List.map_take, List.map_drop]
      rfl
    rw [eI] at ins
    obtain ⟨s7, es7⟩ : ∃ s7, s7 = s6.set m (Cell.lst (qs'.map fun p => D.ref p.1)) := ⟨_, rfl⟩
    rw [← es7] at ins
    have g7 : lstAt s7 m = some (qs'.map fun p => D.ref p.1) := by rw [es7]; exact lstAt_set g6
    have hm5 := lstAt_lt g5
    have Q7 : Qs s7 qs' := fun p hp => by
      rw [eqs'] at hp
      have old : ∀ p ∈ qs, lstAt s7 p.1 = some (p.2.map frp) ∧ Sm p.2 ∧ 2 ≤ p.1 := fun p hp => ⟨by rw [es7, lstAt_ne (by have := (Q3 p hp).2; omega), es6]; exact Gr.app.lst (Q5 p hp), (Q2 p hp).2⟩
      rcases List.mem_append.mp hp with a | a
      · rcases List.mem_append.mp a with a | a
        · exact old p (List.mem_of_mem_take a)
        · rw [List.mem_singleton.mp a]
          exact ⟨by rw [es7, lstAt_ne (by show s5.length ≠ m; omega), es6]; exact lstAt_new, smR, D5.len⟩
      · exact old p (List.mem_of_mem_drop a)
    obtain ⟨z, sv⟩ := qs_tail (τ := [some (.ref 1), some XV, some (.int w), some (.ref m), some (.int (k : Nat)), some (.ref c), some (.int (i : Nat)), some (.int x.num), some (.int ((x.den : Nat) : Int)), none, none]) Q7 g7 (by rw [eqs']; simp; omega) rfl (fun d => ⟨_, rfl, rfl⟩)
    refine ⟨_, s7, ?_, sv, by rw [es7, es6]; exact D5.app.put2 (by omega) (by omega), by rw [es7, es6]; exact (F05.trans .app).put2 (by omega)⟩
    subst h7
    rw [← z]
    simp [-sRet_e, -oSet, List.replicate, e1, lComp_e, lc1, wipeD, dV, lV, e2, es3', ← em, ln3, e4, ik, ln4, e5, ixr _ gc5, x0, x1, okT_ref g5, fl, ins]
  by_cases h8 : w = 8
  · have ins := mPopAt_ref (k := k) (x := .ref c) g5 (by omega) (by
      rw [eRF, List.getElem?_map, List.getElem?_eq_getElem hkq, ← eP]
      rfl) (by omega)
    rw [eRF, erase_mapG] at ins
    obtain ⟨qs', eqs'⟩ : ∃ qs', qs' = qs.eraseIdx k := ⟨_, rfl⟩
    rw [← eqs'] at ins
    obtain ⟨s7, es7⟩ : ∃ s7, s7 = s5.set m (Cell.lst (qs'.map fun p => D.ref p.1)) := ⟨_, rfl⟩
    rw [← es7] at ins
    have g7 : lstAt s7 m = some (qs'.map fun p => D.ref p.1) := by rw [es7]; exact lstAt_set g5
    have Q7 : Qs s7 qs' := fun p hp => by
      rw [eqs'] at hp
      have hp := List.mem_of_mem_eraseIdx hp
      exact ⟨by rw [es7, lstAt_ne (by have := (Q3 p hp).2; omega)]; exact Q5 p hp, (Q2 p hp).2⟩
    obtain ⟨z, sv⟩ := qs_tail (τ := [some (.ref 1), some XV, some (.int w), some (.ref m), some (.int (k : Nat)), some (.ref c), some (.int (i : Nat)), some (.int x.num), some (.int ((x.den : Nat) : Int)), none, none]) Q7 g7 (by rw [eqs']; have := List.length_eraseIdx_le qs k; omega) rfl (fun d => ⟨_, rfl, rfl⟩)
    refine ⟨_, s7, ?_, sv, by rw [es7]; exact D5.put2 (by omega) (by omega), by rw [es7]; exact F05.put2 (by omega)⟩
    subst h8
    rw [← z]
    simp [-sRet_e, -oSet, List.replicate, e1, lComp_e, lc1, wipeD, dV, lV, e2, es3', ← em, ln3, e4, ik, ln4, e5, ixr _ gc5, x0, x1, okT_ref g5, ins]
  have sm0 : Sm [] := ⟨by simp, by simp⟩
  by_cases h9 : w = 9
  · have hm5 := lstAt_lt g5
    obtain ⟨ys, s6, e6, qs', rfl, lq', Q6, G6⟩ := comp_gen (q := .cell m RF) (set := gN 10) (ft := HM.tYes) (fe := eLst aNil) (τ := [some (.ref 1), some XV, some (.int w), some (.ref m), some (.int (k : Nat)), some (.ref c), some (.int (i : Nat)), some (.int x.num), some (.int ((x.den : Nat) : Int)), none, none])
      (fun j acc s => ∃ qs' : List (Nat × List (Int × Int)), acc = qs'.map (fun p => D.ref p.1) ∧ qs'.length = j ∧ Qs s qs' ∧ Gr s5 s) (fun _ _ s h => by
        obtain ⟨_, _, _, _, G⟩ := h
        simp [Sq.chk, G.lst g5]) RF 0 [] s5 ⟨[], rfl, rfl, by intro p hp; simp at hp, .refl⟩ (by
        intro j d acc s hj hp
        obtain ⟨qs', rfl, lq', Q, G⟩ := hp
        refine ⟨[some (.ref 1), some XV, some (.int w), some (.ref m), some (.int (k : Nat)), some (.ref c), some (.int (i : Nat)), some (.int x.num), some (.int ((x.den : Nat) : Int)), none, some d], rfl, true, s, rfl, (fun h => nomatch h), fun _ => ⟨.ref s.length, s ++ [Cell.lst []], by simp, qs' ++ [(s.length, [])], by simp, by simp [lq'], fun p hp => ?_, G.trans .app⟩⟩
        rcases List.mem_append.mp hp with a | a
        · obtain ⟨a1, a2⟩ := Q p a
          exact ⟨Gr.app.lst a1, a2⟩
        · rw [List.mem_singleton.mp a]
          exact ⟨lstAt_new, sm0, (G.ds D5).len⟩)
    rw [Nat.zero_add, lRF] at lq'
    obtain ⟨s7, es7⟩ : ∃ s7, s7 = s6 ++ [.lst (qs'.map fun p => D.ref p.1)] := ⟨_, rfl⟩
    have g7 : lstAt s7 s6.length = some (qs'.map fun p => D.ref p.1) := by rw [es7]; exact lstAt_new
    have Q7 : Qs s7 qs' := fun p hp => ⟨by rw [es7]; exact Gr.app.lst (Q6 p hp).1, (Q6 p hp).2⟩
    obtain ⟨z, sv⟩ := qs_tail (τ := [some (.ref 1), some XV, some (.int w), some (.ref s6.length), some (.int (k : Nat)), some (.ref c), some (.int (i : Nat)), some (.int x.num), some (.int ((x.den : Nat) : Int)), none, none]) Q7 g7 (by omega) rfl (fun d => ⟨_, rfl, rfl⟩)
    have lRF2 : RF.length ≤ 16777216 := by omega
    refine ⟨_, s7, ?_, sv, by rw [es7]; exact (G6.ds D5).app, by rw [es7]; exact F05.trans (G6.fr.trans .app)⟩
    have es7' : s6 ++ [Cell.lst (qs'.map fun p => D.ref p.1)] = s7 := es7.symm
    obtain ⟨QF, eQF⟩ : ∃ QF, QF = qs'.map fun p => D.ref p.1 := ⟨_, rfl⟩
    rw [← eQF] at e6 es7'
    subst h9
    rw [← z]
    simp [-sRet_e, -oSet, List.replicate, e1, lComp_e, lc1, wipeD, dV, lV, e2, es3', ← em, ln3, e4, ik, ln4, e5, ixr _ gc5, x0, x1, dSq_ref g5, lRF2, e6, es7']
  by_cases h10 : w = 10
  · obtain ⟨s7, es7⟩ : ∃ s7, s7 = s5 ++ [.lst []] := ⟨_, rfl⟩
    have g7 : lstAt s7 s5.length = some (([] : List (Nat × List (Int × Int))).map fun p => D.ref p.1) := by rw [es7]; exact lstAt_new
    obtain ⟨z, sv⟩ := qs_tail (τ := [some (.ref 1), some XV, some (.int w), some (.ref s5.length), some (.int (k : Nat)), some (.ref c), some (.int (i : Nat)), some (.int x.num), some (.int ((x.den : Nat) : Int)), none, none]) (qs := []) (by intro p hp; simp at hp) g7 (by simp) rfl (fun d => ⟨_, rfl, rfl⟩)
    have es7' : s5 ++ [Cell.lst []] = s7 := es7.symm
    refine ⟨_, s7, ?_, sv, by rw [es7]; exact D5.app, by rw [es7]; exact F05.trans .app⟩
    subst h10
    rw [← z]
    simp [-sRet_e, -oSet, List.replicate, e1, lComp_e, lc1, wipeD, dV, lV, e2, es3', ← em, ln3, e4, ik, ln4, e5, ixr _ gc5, x0, x1, es7']
  · rw [eRF] at g5
    obtain ⟨z, sv⟩ := qs_tail (τ := [some (.ref 1), some XV, some (.int w), some (.ref m), some (.int (k : Nat)), some (.ref c), some (.int (i : Nat)), some (.int x.num), some (.int ((x.den : Nat) : Int)), none, none]) Q5a g5 (by omega) rfl (fun d => ⟨_, rfl, rfl⟩)
    refine ⟨_, s5, ?_, sv, D5, F05⟩
    rw [← z]
    simp [-sRet_e, -oSet, List.replicate, e1, lComp_e, lc1, wipeD, dV, lV, e2, es3', ← em, ln3, e4, ik, ln4, e5, ixr _ gc5, x0, x1, h0, h1, h2, h3, h4, h5, h6, h7, h8, h9, h10]
end

theorem mul_lt2 {a b k l : Nat} (h1 : a < 2 ^ k) (h2 : b < 2 ^ l) : a * b < 2 ^ (k + l) := by rw [Nat.pow_add]; exact Nat.mul_lt_mul'' h1 h2
theorem law_holds : ∀ ns : List Int, ns.length ≤ 63 → ∃ st, f_law [.rol (ns.map D.int)] [] = .ok (.bl true) st := by
  intro ns hns
  obtain ⟨s1, e1, D1, _⟩ := r_begin hns
  obtain ⟨C, eCC⟩ : ∃ C, C = D.rol (ns.map D.int) := ⟨_, rfl⟩
  rw [← eCC] at e1 ⊢
  obtain ⟨S0, s2, e2, S1, D2, _⟩ := r_drawN (many := 4) D1 (by decide) (by decide)
  obtain ⟨n0, s3, e3, n1, D3, _⟩ := r_drawN (many := 6) D2 (by decide) (by decide)
  obtain ⟨p0, s4, e4, p1, D4, _⟩ := r_drawN (many := 6) D3 (by decide) (by decide)
  have e2 : f__law_draw [.ref 1, .int 4] s1 = .ok (.int (S0 : Nat)) s2 := e2
  have e3 : f__law_draw [.ref 1, .int 6] s2 = .ok (.int (n0 : Nat)) s3 := e3
  have e4 : f__law_draw [.ref 1, .int 6] s3 = .ok (.int (p0 : Nat)) s4 := e4
  obtain ⟨V, E, s5, e5, lV, kV, ⟨E0, E1⟩, dV, D5, _⟩ := r_wide (s := 1 + S0) (n := 1 + n0) D4 (by omega) (by omega) (by omega) (by omega)
  obtain ⟨M, s6, e6, lM, kM, dM, D6, _⟩ := r_view (s := 1 + n0) (n := 1 + p0) D5 (by omega) (by omega) (by omega)
  obtain ⟨q0, s7, e7, q1, D7, _⟩ := r_drawN (many := 4) D6 (by decide) (by decide)
  have e7 : f__law_draw [.ref 1, .int 4] s6 = .ok (.int (q0 : Nat)) s7 := e7
  obtain ⟨B, s8, e8, lB, kB, dB, D8, _⟩ := r_view (s := 1 + p0) (n := 1 + q0) D7 (by omega) (by omega) (by omega)
  obtain ⟨n, en⟩ : ∃ n, n = 1 + n0 := ⟨_, rfl⟩
  obtain ⟨p, ep⟩ : ∃ p, p = 1 + p0 := ⟨_, rfl⟩
  obtain ⟨q, eq'⟩ : ∃ q, q = 1 + q0 := ⟨_, rfl⟩
  rw [← en] at lM kV
  rw [← ep] at kM lB
  rw [← eq'] at kB
  have kV' : Vk M.length V := by rw [lM]; exact kV
  have kM' : Vk B.length M := by rw [lB]; exact kM
  have M0 : 0 < M.length := by omega
  have B0 : 0 < B.length := by omega
  have d33 : D24 < 2 ^ 33 := by decide
  have d0 : 0 < D24 := by decide
  have kT := thr_ok kV' kM M0
  have dT := thr_dv kV' kM M0 dV dM
  have ED0 : 0 < E * D24 := Nat.mul_pos E0 d0
  have ED1 : E * D24 < 2 ^ 233 := mul_lt2 E1 d33
  have kT' : Vk B.length (thr V M) := by rw [lB]; exact kT
  have kTB := thr_ok kT' kB B0
  have dTB := thr_dv kT' kB B0 dT dB
  have kMB := thr_ok kM' kB B0
  have dMB := thr_dv kM' kB B0 dM dB
  have up : ∀ {D k l : Nat}, D < 2 ^ k → k ≤ l → D < 2 ^ l := fun h1 h2 => Nat.lt_of_lt_of_le h1 (Nat.pow_le_pow_right (by decide) h2)
  have vbV : Vb 200 M.length V := kV'.vb dV E0 E1
  have vbM : Vb 33 p M := kM.vb dM d0 d33
  have vbM' : Vb 33 B.length M := kM'.vb dM d0 d33
  have vbB : Vb 33 q B := kB.vb dB d0 d33
  have vbT : Vb 233 B.length (thr V M) := kT'.vb dT ED0 ED1
  have vbT6 : Vb 600 p (thr V M) := kT.vb dT ED0 (up ED1 (by decide))
  have vbTB6 : Vb 600 q (thr (thr V M) B) := kTB.vb dTB (Nat.mul_pos ED0 d0) (up (mul_lt2 ED1 d33) (by decide))
  have vbMB6 : Vb 600 q (thr M B) := kMB.vb dMB (Nat.mul_pos d0 d0) (up (mul_lt2 d33 d33) (by decide))
  have lT : (thr V M).length = 1 + S0 := by rw [thr_len, lV]
  have lMB : (thr M B).length = M.length := thr_len
  have kVMB : Vk (thr M B).length V := by rw [lMB]; exact kV'
  have vbVMB : Vb 200 (thr M B).length V := by rw [lMB]; exact vbV
  have vbMB : Vb 66 q (thr M B) := kMB.vb dMB (Nat.mul_pos d0 d0) (mul_lt2 d33 d33)
  obtain ⟨s9, e9, G9⟩ := r_lthrough (st := s8) vbV vbM M0 (by omega) (by omega) (by omega) (by decide)
  obtain ⟨s10, e10, G10⟩ := r_through_right (st := s9) kV' kM vbV vbM vbT6 M0 (by omega) (by omega) (by omega) (by omega) (by decide)
  obtain ⟨s11, e11, G11⟩ := r_through_right (st := s10) kT' kB vbT vbB vbTB6 B0 (by omega) (by omega) (by omega) (by omega) (by decide)
  obtain ⟨s12, e12, G12⟩ := r_through_right (st := s11) kM' kB vbM' vbB vbMB6 B0 (by omega) (by omega) (by omega) (by omega) (by decide)
  have e13 := r_through (st := s12) vbM' vbB B0 (by omega) (by omega) (by omega) (by decide)
  have e14 := r_through (st := s12) vbVMB vbMB (by omega) (by omega) (by omega) (by omega) (by decide)
  rw [thr_assoc kV' kM' kB M0 B0] at e14
  obtain ⟨s13, e15, G13⟩ := r_lthrough (st := s12) vbT vbB B0 (by omega) (by omega) (by omega) (by decide)
  have ne := ne_vw (V := thr (thr V M) B) (st := s13)
  have D13 := G13.ds (G12.ds (G11.ds (G10.ds (G9.ds D8))))
  obtain ⟨A, s14, e16, kA, D14, _⟩ := r_acts (S := 1 + S0) D13 (by omega)
  obtain ⟨A2, s15, e17, kA2, D15, _⟩ := r_acts (S := 1 + S0) D14 (by omega)
  have WV : ∀ A, Ak (1 + S0) A → Wk n V A := fun A k => wk_of (D := E) (k := 200) kV dV E0 E1 (by decide) (by omega) (by omega) (by omega) (by omega) (by rw [lV]; exact k)
  have WT : ∀ A, Ak (1 + S0) A → Wk p (thr V M) A := fun A k => wk_of (D := E * D24) (k := 233) kT dT ED0 ED1 (by decide) (by omega) (by omega) (by omega) (by omega) (by rw [lT]; exact k)
  -- the turns
  obtain ⟨turns, eturns⟩ : ∃ turns : List D, turns = [.tup [vw V, vw A], .tup [vw (thr V M), vw A2], .tup [vw V, vw A2], .tup [vw (thr V M), vw A], .tup [vw V, vw A]] := ⟨_, rfl⟩
  have lturns : turns.length ≤ 16777216 := by rw [eturns]; simp
  have each : ∀ d ∈ turns, ∃ k W Z, d = .tup [vw W, vw Z] ∧ Wk k W Z ∧ k ≤ 6 := fun d hd => by
    rw [eturns] at hd
    simp only [List.mem_cons, List.not_mem_nil, or_false] at hd
    rcases hd with rfl | rfl | rfl | rfl | rfl
    · exact ⟨n, V, A, rfl, WV A kA, by omega⟩
    · exact ⟨p, thr V M, A2, rfl, WT A2 kA2, by omega⟩
    · exact ⟨n, V, A2, rfl, WV A2 kA2, by omega⟩
    · exact ⟨p, thr V M, A, rfl, WT A kA, by omega⟩
    · exact ⟨n, V, A, rfl, WV A kA, by omega⟩
  obtain ⟨s16, es16⟩ : ∃ s16, s16 = s15 ++ [.lst turns] := ⟨_, rfl⟩
  have g16 : lstAt s16 s15.length = some turns := by rw [es16]; exact lstAt_new
  have D16 : DS ns s16 := by rw [es16]; exact D15.app
  obtain ⟨XV, eXV⟩ : ∃ X, X = vw V := ⟨_, rfl⟩
  obtain ⟨XM, eXM⟩ : ∃ X, X = vw M := ⟨_, rfl⟩
  obtain ⟨XB, eXB⟩ : ∃ X, X = vw B := ⟨_, rfl⟩
  obtain ⟨XT, eXT⟩ : ∃ X, X = vw (thr V M) := ⟨_, rfl⟩
  obtain ⟨XA, eXA⟩ : ∃ X, X = vw A := ⟨_, rfl⟩
  obtain ⟨XA2, eXA2⟩ : ∃ X, X = vw A2 := ⟨_, rfl⟩
  obtain ⟨τ1, s17, e18, ⟨t11, rfl⟩, G17⟩ := for_inv (q := .cell s15.length turns) (set := gN 11) (u := (sIf (HM.tNot (tVal (eCall 2 f__law_worth_right (aCons (eBin oIx (eVar 11) (eC (.int 0))) (aCons (eBin oIx (eVar 11) (eC (.int 1))) aNil))))) (sRet (eC (.bl false))) sNil))
    (fun _ τ s => (∃ t, τ = [some C, some (.ref 1), some (.int (1 + S0 : Nat)), some (.int (1 + n0 : Nat)), some (.int (1 + p0 : Nat)), some XV, some XM, some XB, some XT, some XA, some XA2, t, none, none, none]) ∧ Gr s16 s) (fun _ _ _ h => by simp [Sq.chk, h.2.lst g16]) turns 0 [some C, some (.ref 1), some (.int (1 + S0 : Nat)), some (.int (1 + n0 : Nat)), some (.int (1 + p0 : Nat)), some XV, some XM, some XB, some XT, some XA, some XA2, none, none, none, none] s16
    ⟨⟨_, rfl⟩, .refl⟩ (by
      intro i d τ s hi hp
      obtain ⟨⟨t, rfl⟩, G⟩ := hp
      obtain ⟨k, W, Z, rfl, wk, k6⟩ := each d (List.mem_of_getElem? hi)
      obtain ⟨s', e', G'⟩ := r_worth_right (st := s) wk (worth_qb wk k6)
      exact ⟨[some C, some (.ref 1), some (.int (1 + S0 : Nat)), some (.int (1 + n0 : Nat)), some (.int (1 + p0 : Nat)), some XV, some XM, some XB, some XT, some XA, some XA2, some (.tup [vw W, vw Z]), none, none, none], rfl, [some C, some (.ref 1), some (.int (1 + S0 : Nat)), some (.int (1 + n0 : Nat)), some (.int (1 + p0 : Nat)), some XV, some XM, some XB, some XT, some XA, some XA2, some (.tup [vw W, vw Z]), none, none, none], s', .inl (by simp [e']), ⟨_, rfl⟩, G.trans G'⟩)
  -- never worth more
  obtain ⟨acts, eacts⟩ : ∃ acts : List D, acts = [vw A, vw A2] := ⟨_, rfl⟩
  have lacts : acts.length ≤ 16777216 := by rw [eacts]; simp
  have each2 : ∀ d ∈ acts, ∃ Z, d = vw Z ∧ Ak (1 + S0) Z := fun d hd => by
    rw [eacts] at hd
    simp only [List.mem_cons, List.not_mem_nil, or_false] at hd
    rcases hd with rfl | rfl
    · exact ⟨A, rfl, kA⟩
    · exact ⟨A2, rfl, kA2⟩
  obtain ⟨s18, es18⟩ : ∃ s18, s18 = s17 ++ [.lst acts] := ⟨_, rfl⟩
  have g18 : lstAt s18 s17.length = some acts := by rw [es18]; exact lstAt_new
  have D18 : DS ns s18 := by rw [es18]; exact (G17.ds D16).app
  obtain ⟨τ2, s19, e19, ⟨t12, rfl⟩, G19⟩ := for_inv (q := .cell s17.length acts) (set := gN 12) (u := (sIf (tVal (eCall 2 f__law_less (aCons (eCall 2 f_worth_of (aCons (eVar 5) (aCons (eVar 12) aNil))) (aCons (eCall 2 f_worth_of (aCons (eVar 8) (aCons (eVar 12) aNil))) aNil)))) (sRet (eC (.bl false))) sNil))
    (fun _ τ s => (∃ t, τ = [some C, some (.ref 1), some (.int (1 + S0 : Nat)), some (.int (1 + n0 : Nat)), some (.int (1 + p0 : Nat)), some XV, some XM, some XB, some XT, some XA, some XA2, t11, t, none, none]) ∧ Gr s18 s) (fun _ _ _ h => by simp [Sq.chk, h.2.lst g18]) acts 0 [some C, some (.ref 1), some (.int (1 + S0 : Nat)), some (.int (1 + n0 : Nat)), some (.int (1 + p0 : Nat)), some XV, some XM, some XB, some XT, some XA, some XA2, t11, none, none, none] s18
    ⟨⟨_, rfl⟩, .refl⟩ (by
      intro i d τ s hi hp
      obtain ⟨⟨t, rfl⟩, G⟩ := hp
      obtain ⟨Z, rfl, k⟩ := each2 d (List.mem_of_getElem? hi)
      have w1 := WV Z k
      have w2 := WT Z k
      obtain ⟨s', e', G'⟩ := r_worth_of (st := s) w1
      obtain ⟨s'', e'', G''⟩ := r_worth_of (st := s') w2
      have z := r_llessQ (st := s'') (worth_qb w1 (by omega)) (worth_qb w2 (by omega)) (by decide)
      have le := worth_le (A := Z) kV' kM M0 k.a0
      rw [lM] at le
      rw [decide_eq_false (Rat.not_lt.mpr le)] at z
      rw [← eXV] at e'
      rw [← eXT] at e''
      exact ⟨[some C, some (.ref 1), some (.int (1 + S0 : Nat)), some (.int (1 + n0 : Nat)), some (.int (1 + p0 : Nat)), some XV, some XM, some XB, some XT, some XA, some XA2, t11, some (vw Z), none, none], rfl, [some C, some (.ref 1), some (.int (1 + S0 : Nat)), some (.int (1 + n0 : Nat)), some (.int (1 + p0 : Nat)), some XV, some XM, some XB, some XT, some XA, some XA2, t11, some (vw Z), none, none], s'', .inl (by simp [e', e'', z]), ⟨_, rfl⟩, (G.trans G').trans G''⟩)
  have D19 := G19.ds D18
  -- the rows
  have vr : ∀ r ∈ V, r.length = n ∧ ∀ x ∈ r, QB 500 x := fun r hr => ⟨(kV.r r hr).1, fun x hx => ((vbV.r r hr).2 x hx).up (by decide)⟩
  obtain ⟨Ga, s20, e20, qa, la, G20⟩ := r_grown (st := s19) (n := n) (S' := 4) (N' := 6) (V := V) (fun r hr => (vr r hr).1) (by omega) (by omega) (by decide) (by omega) (by decide)
  obtain ⟨Gb, s21, e21, qb, lb, G21⟩ := r_grown (st := s20) (n := n) (S' := 5) (N' := 6) (V := V) (fun r hr => (vr r hr).1) (by omega) (by omega) (by decide) (by omega) (by decide)
  obtain ⟨Gc, s22, e22, qc, lc, G22⟩ := r_grown (st := s21) (n := n) (S' := 4) (N' := 7) (V := V) (fun r hr => (vr r hr).1) (by omega) (by omega) (by decide) (by omega) (by decide)
  have e20 : f__law_grown [vw V, .int 4, .int 6] s19 = .ok (vw Ga) s20 := e20
  have e21 : f__law_grown [vw V, .int 5, .int 6] s20 = .ok (vw Gb) s21 := e21
  have e22 : f__law_grown [vw V, .int 4, .int 7] s21 = .ok (vw Gc) s22 := e22
  have svG : ∀ {G : List (List Rat)} {N : Nat}, N ≤ 8 → n ≤ N → (∀ r ∈ G, ∃ q ∈ V, r = q ++ zr (N - n)) → G.length ≤ 16 → Sv (G.map prs) := fun hN hn h hl => sv_prs (fun r hr => by
    obtain ⟨q, hq, rfl⟩ := h r hr
    obtain ⟨v1, v2⟩ := vr q hq
    refine ⟨by rw [List.length_append, v1]; simp [zr]; omega, fun x hx => ?_⟩
    rcases List.mem_append.mp hx with a | a
    · exact (v2 x a).up (by decide)
    · unfold zr at a
      obtain ⟨_, _, rfl⟩ := List.mem_map.mp a
      exact (⟨by decide, by decide⟩ : QB 1 (0 : Rat)).up (by decide)) (by omega)
  have svV : Sv (V.map prs) := sv_prs (fun r hr => ⟨by have := (vr r hr).1; omega, fun x hx => ((vr r hr).2 x hx).up (by decide)⟩) (by omega)
  have svT : Sv ((thr V M).map prs) := sv_prs (fun r hr => ⟨by have := (vbT6.r r hr).1; omega, (vbT6.r r hr).2⟩) (by omega)
  obtain ⟨PS, ePS⟩ : ∃ PS : List (List (List (Int × Int))), PS = [V.map prs, (thr V M).map prs, Ga.map prs, Gb.map prs, Gc.map prs] := ⟨_, rfl⟩
  have svPS : ∀ P ∈ PS, Sv P := fun P hP => by
    rw [ePS] at hP
    simp only [List.mem_cons, List.not_mem_nil, or_false] at hP
    rcases hP with rfl | rfl | rfl | rfl | rfl
    · exact svV
    · exact svT
    · exact svG (by decide) (by omega) qa la
    · exact svG (by decide) (by omega) qb lb
    · exact svG (by decide) (by omega) qc lc
  have lPS : PS.length = 5 := by rw [ePS]; rfl
  have ePS2 : [vw V, vw (thr V M), vw Ga, vw Gb, vw Gc] = PS.map pvw := by
    rw [ePS]
    simp only [List.map_cons, List.map_nil, pvw_prs]
  rw [← eXV, ← eXT] at ePS2
  have D22 := G22.ds (G21.ds (G20.ds D19))
  obtain ⟨m, em⟩ : ∃ m, m = s22.length := ⟨_, rfl⟩
  have m2 : 2 ≤ m := by rw [em]; exact D22.len
  obtain ⟨s23, es23⟩ : ∃ s23, s23 = s22 ++ [.lst (PS.map pvw)] := ⟨_, rfl⟩
  have g23 : lstAt s23 m = some (PS.map pvw) := by rw [es23, em]; exact lstAt_new
  have D23 : DS ns s23 := by rw [es23]; exact D22.app
  have hr4 : ∀ s, rg1 (.int 4) s = .ok (.fix (rng 0 4)) s := fun s => rg1_int (by decide)
  obtain ⟨τ3, s24, e24, QS, ⟨t, rfl⟩, g24, l24, sv24, D24'⟩ := for_inv (q := .fix (rng 0 4)) (set := gN 11) (u := (sExpr (eM "list" mAppend (eVar 13) (aCons (eCall 2 f__law_spoilt_view (aCons (eVar 1) (aCons (eVar 5) aNil))) aNil))))
    (fun k τ s => ∃ QS : List (List (List (Int × Int))), (∃ t, τ = [some C, some (.ref 1), some (.int (1 + S0 : Nat)), some (.int (1 + n0 : Nat)), some (.int (1 + p0 : Nat)), some XV, some XM, some XB, some XT, some XA, some XA2, t, t12, some (.ref m), none]) ∧ lstAt s m = some (QS.map pvw) ∧ QS.length = 5 + k ∧ (∀ P ∈ QS, Sv P) ∧ DS ns s) (fun _ _ _ _ => rfl) (rng 0 4) 0 [some C, some (.ref 1), some (.int (1 + S0 : Nat)), some (.int (1 + n0 : Nat)), some (.int (1 + p0 : Nat)), some XV, some XM, some XB, some XT, some XA, some XA2, t11, t12, some (.ref m), none] s23
    ⟨PS, ⟨_, rfl⟩, g23, by omega, svPS, D23⟩ (by
      intro i d τ s hi hp
      obtain ⟨QS, ⟨t, rfl⟩, g, lq, sv, DD⟩ := hp
      have hi2 : i < 4 := by have := (List.getElem?_eq_some_iff.mp hi).1; simpa [rng] using this
      obtain ⟨P, s', e', svP, D', F'⟩ := r_spoilt (V := V) DD vr (by omega) (by omega) (by omega) (by omega)
      rw [← eXV] at e'
      have g' := F'.lst g (by omega)
      have ap := mAppend_ref (x := pvw P) g' (by simp; omega)
      obtain ⟨W, eW⟩ : ∃ W, W = pvw P := ⟨_, rfl⟩
      refine ⟨[some C, some (.ref 1), some (.int (1 + S0 : Nat)), some (.int (1 + n0 : Nat)), some (.int (1 + p0 : Nat)), some XV, some XM, some XB, some XT, some XA, some XA2, some d, t12, some (.ref m), none], rfl, [some C, some (.ref 1), some (.int (1 + S0 : Nat)), some (.int (1 + n0 : Nat)), some (.int (1 + p0 : Nat)), some XV, some XM, some XB, some XT, some XA, some XA2, some d, t12, some (.ref m), none], s'.set m (Cell.lst (QS.map pvw ++ [pvw P])), .inl ?_, QS ++ [P], ⟨_, rfl⟩, by rw [lstAt_set g']; simp, by simp [lq]; omega, ?_, D'.put2 (by omega) (by omega)⟩
      · rw [← eW] at e' ap ⊢
        simp [okT_ref g, e', ap]
      · intro x hx
        rcases List.mem_append.mp hx with a | a
        · exact sv x a
        · rw [List.mem_singleton.mp a]
          exact svP)
  have l4 : (rng 0 4).length = 4 := rng_len (n := 4)
  rw [l4] at l24
  have c := comp_map (q := .cell m (QS.map pvw)) (set := gN 14) (fe := (eCall 1 f__law_view_judged (aCons (eVar 14) aNil))) (τ := [some C, some (.ref 1), some (.int (1 + S0 : Nat)), some (.int (1 + n0 : Nat)), some (.int (1 + p0 : Nat)), some XV, some XM, some XB, some XT, some XA, some XA2, t, t12, some (.ref m), none]) (st := s24) (by simp [Sq.chk, g24]) pvw (fun _ => .bl true) QS [] (fun P hP => ⟨[some C, some (.ref 1), some (.int (1 + S0 : Nat)), some (.int (1 + n0 : Nat)), some (.int (1 + p0 : Nat)), some XV, some XM, some XB, some XT, some XA, some XA2, t, t12, some (.ref m), some (pvw P)], rfl, by
    have z := v_judged (st := s24) (sv24 P hP)
    simp [z]⟩)
  rw [List.nil_append] at c
  have ga : gAllB (QS.map fun _ => D.bl true) s24 = .ok (.bl true) s24 := by
    have := gAllB_map (f := fun _ : List (List (Int × Int)) => true) (xs := QS) (st := s24)
    rw [this]
    congr 2
    simp
  obtain ⟨QF, eQF⟩ : ∃ QF, QF = QS.map pvw := ⟨_, rfl⟩
  have lQF : QF.length ≤ 16777216 := by rw [eQF, List.length_map]; omega
  rw [← eQF] at c g24
  obtain ⟨BF, eBF⟩ : ∃ BF, BF = QS.map fun _ => D.bl true := ⟨_, rfl⟩
  rw [← eBF] at c ga
  obtain ⟨PF, ePF⟩ : ∃ PF, PF = PS.map pvw := ⟨_, rfl⟩
  rw [← ePF] at ePS2 es23
  have lPF : PF.length ≤ 16777216 := by rw [ePF, List.length_map]; omega
  rw [← eXV, ← eXT, ← eXA, ← eXA2] at eturns
  rw [← eXA, ← eXA2] at eacts
  rw [← eXV] at e5 e9 e10 e14 e20 e21 e22
  rw [← eXM] at e6 e9 e10 e12 e13
  rw [← eXB] at e8 e11 e12 e13 e15
  rw [← eXT] at e9 e11 e15
  rw [← eXA] at e16
  rw [← eXA2] at e17
  obtain ⟨XMB, eXMB⟩ : ∃ X, X = vw (thr M B) := ⟨_, rfl⟩
  obtain ⟨XTB, eXTB⟩ : ∃ X, X = vw (thr (thr V M) B) := ⟨_, rfl⟩
  rw [← eXMB] at e13 e14
  rw [← eXTB] at e14 e15 ne
  obtain ⟨YA, eYA⟩ : ∃ X, X = vw Ga := ⟨_, rfl⟩
  obtain ⟨YB, eYB⟩ : ∃ X, X = vw Gb := ⟨_, rfl⟩
  obtain ⟨YC, eYC⟩ : ∃ X, X = vw Gc := ⟨_, rfl⟩
  rw [← eYA] at e20 ePS2
  rw [← eYB] at e21 ePS2
  rw [← eYC] at e22 ePS2
  push_cast at e5 e6 e8 e16 e17 e18 e19 e24 c
  refine ⟨s24, ?_⟩
  unfold f_law
  rw [runB_e]
  unfold m_law
  have es16' := es16.symm
  have es18' := es18.symm
  have es23' := es23.symm
  rw [eturns] at es16'
  rw [eacts] at es18'
  simp [List.replicate, e1, e2, e3, e4, e5, e6, e7, e8, e9, e10, e11, e12, e13, e14, e15, ne, e16, e17, es16', sFor_e, dSq_ref g16, e18, es18', dSq_ref g18, e19, e20, e21, e22]
  rw [ePS2, es23']
  simp [← em, hr4, e24, lComp_e, lc1, wipeD, dSq_ref g24, lQF, c, ga]

/-! ### the head -/
def fn : List He.DefD := [⟨("ratio", none), "ratio", "ratio", defArgs s_ratio, defBody s_ratio, defScope s_ratio, [], []⟩,
  ⟨("plus", none), "plus", "plus", defArgs s_plus, defBody s_plus, defScope s_plus, [], []⟩,
  ⟨("times", none), "times", "times", defArgs s_times, defBody s_times, defScope s_times, [], []⟩,
  ⟨("is_below", none), "is_below", "is_below", defArgs s_is_below, defBody s_is_below, defScope s_is_below, [], []⟩,
  ⟨("total", none), "total", "total", defArgs s_total, defBody s_total, defScope s_total, [], []⟩,
  ⟨("mean", none), "mean", "mean", defArgs s_mean, defBody s_mean, defScope s_mean, [], []⟩,
  ⟨("is_fraction", none), "is_fraction", "is_fraction", defArgs s_is_fraction, defBody s_is_fraction, defScope s_is_fraction, [], []⟩,
  ⟨("is_ratio", none), "is_ratio", "is_ratio", defArgs s_is_ratio, defBody s_is_ratio, defScope s_is_ratio, [], []⟩,
  ⟨("is_chances", none), "is_chances", "is_chances", defArgs s_is_chances, defBody s_is_chances, defScope s_is_chances, [], []⟩,
  ⟨("act_sum", none), "act_sum", "act_sum", defArgs s_act_sum, defBody s_act_sum, defScope s_act_sum, [], []⟩,
  ⟨("act_sums", none), "act_sums", "act_sums", defArgs s_act_sums, defBody s_act_sums, defScope s_act_sums, [], []⟩,
  ⟨("best_place", none), "best_place", "best_place", defArgs s_best_place, defBody s_best_place, defScope s_best_place, [], []⟩,
  ⟨("are_rows", none), "are_rows", "are_rows", defArgs s_are_rows, defBody s_are_rows, defScope s_are_rows, [], []⟩,
  ⟨("is_view", none), "is_view", "is_view", defArgs s_is_view, defBody s_is_view, defScope s_is_view, [], []⟩,
  ⟨("milled", none), "milled", "milled", defArgs s_milled, defBody s_milled, defScope s_milled, [], []⟩,
  ⟨("milled_row", none), "milled_row", "milled_row", defArgs s_milled_row, defBody s_milled_row, defScope s_milled_row, [], []⟩,
  ⟨("through", none), "through", "through", defArgs s_through, defBody s_through, defScope s_through, [], []⟩,
  ⟨("best_acts", none), "best_acts", "best_acts", defArgs s_best_acts, defBody s_best_acts, defScope s_best_acts, [], []⟩,
  ⟨("worth_of", none), "worth_of", "worth_of", defArgs s_worth_of, defBody s_worth_of, defScope s_worth_of, [], []⟩,
  ⟨("_law_begin", none), "_law_begin", "_law_begin", defArgs s__law_begin, defBody s__law_begin, defScope s__law_begin, [], []⟩,
  ⟨("_law_draw", none), "_law_draw", "_law_draw", defArgs s__law_draw, defBody s__law_draw, defScope s__law_draw, [], []⟩,
  ⟨("_law_pick", none), "_law_pick", "_law_pick", defArgs s__law_pick, defBody s__law_pick, defScope s__law_pick, [], []⟩,
  ⟨("_law_rare", none), "_law_rare", "_law_rare", defArgs s__law_rare, defBody s__law_rare, defScope s__law_rare, [], []⟩,
  ⟨("_law_is_int", none), "_law_is_int", "_law_is_int", defArgs s__law_is_int, defBody s__law_is_int, defScope s__law_is_int, [], []⟩,
  ⟨("_law_is_ints", none), "_law_is_ints", "_law_is_ints", defArgs s__law_is_ints, defBody s__law_is_ints, defScope s__law_is_ints, [], []⟩,
  ⟨("_law_is_rows", none), "_law_is_rows", "_law_is_rows", defArgs s__law_is_rows, defBody s__law_is_rows, defScope s__law_is_rows, [], []⟩,
  ⟨("_law_gcd", none), "_law_gcd", "_law_gcd", defArgs s__law_gcd, defBody s__law_gcd, defScope s__law_gcd, [], []⟩,
  ⟨("_law_f", none), "_law_f", "_law_f", defArgs s__law_f, defBody s__law_f, defScope s__law_f, [], []⟩,
  ⟨("_law_plus", none), "_law_plus", "_law_plus", defArgs s__law_plus, defBody s__law_plus, defScope s__law_plus, [], []⟩,
  ⟨("_law_minus", none), "_law_minus", "_law_minus", defArgs s__law_minus, defBody s__law_minus, defScope s__law_minus, [], []⟩,
  ⟨("_law_times", none), "_law_times", "_law_times", defArgs s__law_times, defBody s__law_times, defScope s__law_times, [], []⟩,
  ⟨("_law_less", none), "_law_less", "_law_less", defArgs s__law_less, defBody s__law_less, defScope s__law_less, [], []⟩,
  ⟨("_law_total", none), "_law_total", "_law_total", defArgs s__law_total, defBody s__law_total, defScope s__law_total, [], []⟩,
  ⟨("_law_great", none), "_law_great", "_law_great", defArgs s__law_great, defBody s__law_great, defScope s__law_great, [], []⟩,
  ⟨("_law_is_frac", none), "_law_is_frac", "_law_is_frac", defArgs s__law_is_frac, defBody s__law_is_frac, defScope s__law_is_frac, [], []⟩,
  ⟨("_law_is_ratio", none), "_law_is_ratio", "_law_is_ratio", defArgs s__law_is_ratio, defBody s__law_is_ratio, defScope s__law_is_ratio, [], []⟩,
  ⟨("_law_is_ratios", none), "_law_is_ratios", "_law_is_ratios", defArgs s__law_is_ratios, defBody s__law_is_ratios, defScope s__law_is_ratios, [], []⟩,
  ⟨("_law_is_shares", none), "_law_is_shares", "_law_is_shares", defArgs s__law_is_shares, defBody s__law_is_shares, defScope s__law_is_shares, [], []⟩,
  ⟨("_law_row", none), "_law_row", "_law_row", defArgs s__law_row, defBody s__law_row, defScope s__law_row, [], []⟩,
  ⟨("_law_chances", none), "_law_chances", "_law_chances", defArgs s__law_chances, defBody s__law_chances, defScope s__law_chances, [], []⟩,
  ⟨("_law_shares", none), "_law_shares", "_law_shares", defArgs s__law_shares, defBody s__law_shares, defScope s__law_shares, [], []⟩,
  ⟨("_law_view", none), "_law_view", "_law_view", defArgs s__law_view, defBody s__law_view, defScope s__law_view, [], []⟩,
  ⟨("_law_is_view", none), "_law_is_view", "_law_is_view", defArgs s__law_is_view, defBody s__law_is_view, defScope s__law_is_view, [], []⟩,
  ⟨("_law_through", none), "_law_through", "_law_through", defArgs s__law_through, defBody s__law_through, defScope s__law_through, [], []⟩,
  ⟨("_law_act_worth", none), "_law_act_worth", "_law_act_worth", defArgs s__law_act_worth, defBody s__law_act_worth, defScope s__law_act_worth, [], []⟩,
  ⟨("_law_worth", none), "_law_worth", "_law_worth", defArgs s__law_worth, defBody s__law_worth, defScope s__law_worth, [], []⟩,
  ⟨("_law_wide_view", none), "_law_wide_view", "_law_wide_view", defArgs s__law_wide_view, defBody s__law_wide_view, defScope s__law_wide_view, [], []⟩,
  ⟨("_law_some_acts", none), "_law_some_acts", "_law_some_acts", defArgs s__law_some_acts, defBody s__law_some_acts, defScope s__law_some_acts, [], []⟩,
  ⟨("_law_best_number", none), "_law_best_number", "_law_best_number", defArgs s__law_best_number, defBody s__law_best_number, defScope s__law_best_number, [], []⟩,
  ⟨("_law_worth_right", none), "_law_worth_right", "_law_worth_right", defArgs s__law_worth_right, defBody s__law_worth_right, defScope s__law_worth_right, [], []⟩,
  ⟨("_law_through_right", none), "_law_through_right", "_law_through_right", defArgs s__law_through_right, defBody s__law_through_right, defScope s__law_through_right, [], []⟩,
  ⟨("_law_right_view", none), "_law_right_view", "_law_right_view", defArgs s__law_right_view, defBody s__law_right_view, defScope s__law_right_view, [], []⟩,
  ⟨("_law_view_judged", none), "_law_view_judged", "_law_view_judged", defArgs s__law_view_judged, defBody s__law_view_judged, defScope s__law_view_judged, [], []⟩,
  ⟨("_law_grown", none), "_law_grown", "_law_grown", defArgs s__law_grown, defBody s__law_grown, defScope s__law_grown, [], []⟩,
  ⟨("_law_spoilt_view", none), "_law_spoilt_view", "_law_spoilt_view", defArgs s__law_spoilt_view, defBody s__law_spoilt_view, defScope s__law_spoilt_view, [], []⟩,
  ⟨("law", none), "law", "law", defArgs s_law, defBody s_law, defScope s_law, [], []⟩]
def fa : List He.Fa := [.glo "ratio", .glo "plus", .glo "times", .glo "is_below", .glo "total", .glo "mean", .glo "is_fraction", .glo "is_ratio", .glo "is_chances", .glo "act_sum", .glo "act_sums", .glo "best_place", .glo "are_rows", .glo "is_view", .glo "milled", .glo "milled_row", .glo "through", .glo "best_acts", .glo "worth_of", .glo "_law_begin", .glo "_law_draw", .glo "_law_pick", .glo "_law_rare", .glo "_law_is_int", .glo "_law_is_ints", .glo "_law_is_rows", .glo "_law_gcd", .glo "_law_f", .glo "_law_plus", .glo "_law_minus", .glo "_law_times", .glo "_law_less", .glo "_law_total", .glo "_law_great", .glo "_law_is_frac", .glo "_law_is_ratio", .glo "_law_is_ratios", .glo "_law_is_shares", .glo "_law_row", .glo "_law_chances", .glo "_law_shares", .glo "_law_view", .glo "_law_is_view", .glo "_law_through", .glo "_law_act_worth", .glo "_law_worth", .glo "_law_wide_view", .glo "_law_some_acts", .glo "_law_best_number", .glo "_law_worth_right", .glo "_law_through_right", .glo "_law_right_view", .glo "_law_view_judged", .glo "_law_grown", .glo "_law_spoilt_view", .glo "law", .free "ZeroDivisionError", .free "zip", .free "len", .free "range", .free "tuple", .free "int", .free "abs", .free "isinstance", .free "bool", .free "all", .free "sum", .free "list"]
def fx : List Fx := [.blt "gcd" "math.gcd", .con "ZERO" q_ZERO, .con "ONE" q_ONE, .con "MOST_STATES" q_MOST_STATES, .con "MOST_ANSWERS" q_MOST_ANSWERS]
abbrev hk : PySem.W.Hook := hookM 5 fa fx fn
def ob (s : PySem.W.SharedT) : He.AlD := obsMG 5 fa fx fn (HandSHeadRun.getT s)
theorem ob_eq (s : PySem.W.SharedT) : ob s = hk.obs s.abs := obsMG_eq (HandSHeadRun.getT_eq s)
def nm0 : List PySem.Str := ["ZERO", "ONE", "ratio", "plus", "times", "is_below", "total", "mean", "is_fraction", "is_ratio", "is_chances", "act_sum", "act_sums", "best_place", "MOST_STATES", "MOST_ANSWERS", "are_rows", "is_view", "milled", "milled_row", "through", "best_acts", "worth_of", "_law_begin", "_law_draw", "_law_pick", "_law_rare", "_law_is_int", "_law_is_ints", "_law_is_rows"]
def nm1 : List PySem.Str := ["_law_gcd", "_law_f", "_law_plus", "_law_minus", "_law_times", "_law_less", "_law_total", "_law_great", "_law_is_frac", "_law_is_ratio", "_law_is_ratios", "_law_is_shares", "_law_row", "_law_chances", "_law_shares", "_law_view", "_law_is_view", "_law_through", "_law_act_worth", "_law_worth", "_law_wide_view", "_law_some_acts", "_law_best_number", "_law_worth_right", "_law_through_right", "_law_right_view", "_law_view_judged", "_law_grown", "_law_spoilt_view"]
def nms : List PySem.Str := nm0 ++ nm1
theorem run (w : World) : HandSHeadRun.RunEqI (PySem.W.OpenLaw.row PySem.Challenge.rw_closedratios_k54_views_and_worths) (PySem.W.view (PySem.W.OpenLaw.row PySem.Challenge.rw_closedratios_k54_views_and_worths).prog [0, 65]) hk ob 6000 nms w := by
  unfold HandSHeadRun.RunEqI
  kernel_rfl
theorem facts {P : Program} {w : World} {K : PySem.W.Frag} {h : Heap} {mg : PySem.Str → Option Value} {f : Addr} (X : K.In h) (G : h.Ns mainGlobals mg) (hfa : mg ("law" : PySem.Str) = some (.ref f)) (c : SaysM fa fx fn K) :
    ∃ fd : FuncData, (∀ (s : Shared) (v : Value), BindsTo s fd ⟨[v], []⟩ [("script", v)]) ∧ ∀ base : Heap, K.In base → base.Ns mainGlobals mg → FnM P w K mg base 9 f fd ["script"] f_law := by
  obtain ⟨fd_ratio, F_ratio⟩ := c.def_ 0 rfl
  have gx_ratio := He.glo_ok X G (c.fact 0 (f := .glo "ratio") rfl)
  obtain ⟨fd_plus, F_plus⟩ := c.def_ 1 rfl
  have gx_plus := He.glo_ok X G (c.fact 1 (f := .glo "plus") rfl)
  obtain ⟨fd_times, F_times⟩ := c.def_ 2 rfl
  have gx_times := He.glo_ok X G (c.fact 2 (f := .glo "times") rfl)
  obtain ⟨fd_is_below, F_is_below⟩ := c.def_ 3 rfl
  have gx_is_below := He.glo_ok X G (c.fact 3 (f := .glo "is_below") rfl)
  obtain ⟨fd_total, F_total⟩ := c.def_ 4 rfl
  have gx_total := He.glo_ok X G (c.fact 4 (f := .glo "total") rfl)
  obtain ⟨fd_mean, F_mean⟩ := c.def_ 5 rfl
  have gx_mean := He.glo_ok X G (c.fact 5 (f := .glo "mean") rfl)
  obtain ⟨fd_is_fraction, F_is_fraction⟩ := c.def_ 6 rfl
  have gx_is_fraction := He.glo_ok X G (c.fact 6 (f := .glo "is_fraction") rfl)
  obtain ⟨fd_is_ratio, F_is_ratio⟩ := c.def_ 7 rfl
  have gx_is_ratio := He.glo_ok X G (c.fact 7 (f := .glo "is_ratio") rfl)
  obtain ⟨fd_is_chances, F_is_chances⟩ := c.def_ 8 rfl
  have gx_is_chances := He.glo_ok X G (c.fact 8 (f := .glo "is_chances") rfl)
  obtain ⟨fd_act_sum, F_act_sum⟩ := c.def_ 9 rfl
  have gx_act_sum := He.glo_ok X G (c.fact 9 (f := .glo "act_sum") rfl)
  obtain ⟨fd_act_sums, F_act_sums⟩ := c.def_ 10 rfl
  have gx_act_sums := He.glo_ok X G (c.fact 10 (f := .glo "act_sums") rfl)
  obtain ⟨fd_best_place, F_best_place⟩ := c.def_ 11 rfl
  have gx_best_place := He.glo_ok X G (c.fact 11 (f := .glo "best_place") rfl)
  obtain ⟨fd_are_rows, F_are_rows⟩ := c.def_ 12 rfl
  have gx_are_rows := He.glo_ok X G (c.fact 12 (f := .glo "are_rows") rfl)
  obtain ⟨fd_is_view, F_is_view⟩ := c.def_ 13 rfl
  have gx_is_view := He.glo_ok X G (c.fact 13 (f := .glo "is_view") rfl)
  obtain ⟨fd_milled, F_milled⟩ := c.def_ 14 rfl
  have gx_milled := He.glo_ok X G (c.fact 14 (f := .glo "milled") rfl)
  obtain ⟨fd_milled_row, F_milled_row⟩ := c.def_ 15 rfl
  have gx_milled_row := He.glo_ok X G (c.fact 15 (f := .glo "milled_row") rfl)
  obtain ⟨fd_through, F_through⟩ := c.def_ 16 rfl
  have gx_through := He.glo_ok X G (c.fact 16 (f := .glo "through") rfl)
  obtain ⟨fd_best_acts, F_best_acts⟩ := c.def_ 17 rfl
  have gx_best_acts := He.glo_ok X G (c.fact 17 (f := .glo "best_acts") rfl)
  obtain ⟨fd_worth_of, F_worth_of⟩ := c.def_ 18 rfl
  have gx_worth_of := He.glo_ok X G (c.fact 18 (f := .glo "worth_of") rfl)
  obtain ⟨fd__law_begin, F__law_begin⟩ := c.def_ 19 rfl
  have gx__law_begin := He.glo_ok X G (c.fact 19 (f := .glo "_law_begin") rfl)
  obtain ⟨fd__law_draw, F__law_draw⟩ := c.def_ 20 rfl
  have gx__law_draw := He.glo_ok X G (c.fact 20 (f := .glo "_law_draw") rfl)
  obtain ⟨fd__law_pick, F__law_pick⟩ := c.def_ 21 rfl
  have gx__law_pick := He.glo_ok X G (c.fact 21 (f := .glo "_law_pick") rfl)
  obtain ⟨fd__law_rare, F__law_rare⟩ := c.def_ 22 rfl
  have gx__law_rare := He.glo_ok X G (c.fact 22 (f := .glo "_law_rare") rfl)
  obtain ⟨fd__law_is_int, F__law_is_int⟩ := c.def_ 23 rfl
  have gx__law_is_int := He.glo_ok X G (c.fact 23 (f := .glo "_law_is_int") rfl)
  obtain ⟨fd__law_is_ints, F__law_is_ints⟩ := c.def_ 24 rfl
  have gx__law_is_ints := He.glo_ok X G (c.fact 24 (f := .glo "_law_is_ints") rfl)
  obtain ⟨fd__law_is_rows, F__law_is_rows⟩ := c.def_ 25 rfl
  have gx__law_is_rows := He.glo_ok X G (c.fact 25 (f := .glo "_law_is_rows") rfl)
  obtain ⟨fd__law_gcd, F__law_gcd⟩ := c.def_ 26 rfl
  have gx__law_gcd := He.glo_ok X G (c.fact 26 (f := .glo "_law_gcd") rfl)
  obtain ⟨fd__law_f, F__law_f⟩ := c.def_ 27 rfl
  have gx__law_f := He.glo_ok X G (c.fact 27 (f := .glo "_law_f") rfl)
  obtain ⟨fd__law_plus, F__law_plus⟩ := c.def_ 28 rfl
  have gx__law_plus := He.glo_ok X G (c.fact 28 (f := .glo "_law_plus") rfl)
  obtain ⟨fd__law_minus, F__law_minus⟩ := c.def_ 29 rfl
  have gx__law_minus := He.glo_ok X G (c.fact 29 (f := .glo "_law_minus") rfl)
  obtain ⟨fd__law_times, F__law_times⟩ := c.def_ 30 rfl
  have gx__law_times := He.glo_ok X G (c.fact 30 (f := .glo "_law_times") rfl)
  obtain ⟨fd__law_less, F__law_less⟩ := c.def_ 31 rfl
  have gx__law_less := He.glo_ok X G (c.fact 31 (f := .glo "_law_less") rfl)
  obtain ⟨fd__law_total, F__law_total⟩ := c.def_ 32 rfl
  have gx__law_total := He.glo_ok X G (c.fact 32 (f := .glo "_law_total") rfl)
  obtain ⟨fd__law_great, F__law_great⟩ := c.def_ 33 rfl
  have gx__law_great := He.glo_ok X G (c.fact 33 (f := .glo "_law_great") rfl)
  obtain ⟨fd__law_is_frac, F__law_is_frac⟩ := c.def_ 34 rfl
  have gx__law_is_frac := He.glo_ok X G (c.fact 34 (f := .glo "_law_is_frac") rfl)
  obtain ⟨fd__law_is_ratio, F__law_is_ratio⟩ := c.def_ 35 rfl
  have gx__law_is_ratio := He.glo_ok X G (c.fact 35 (f := .glo "_law_is_ratio") rfl)
  obtain ⟨fd__law_is_ratios, F__law_is_ratios⟩ := c.def_ 36 rfl
  have gx__law_is_ratios := He.glo_ok X G (c.fact 36 (f := .glo "_law_is_ratios") rfl)
  obtain ⟨fd__law_is_shares, F__law_is_shares⟩ := c.def_ 37 rfl
  have gx__law_is_shares := He.glo_ok X G (c.fact 37 (f := .glo "_law_is_shares") rfl)
  obtain ⟨fd__law_row, F__law_row⟩ := c.def_ 38 rfl
  have gx__law_row := He.glo_ok X G (c.fact 38 (f := .glo "_law_row") rfl)
  obtain ⟨fd__law_chances, F__law_chances⟩ := c.def_ 39 rfl
  have gx__law_chances := He.glo_ok X G (c.fact 39 (f := .glo "_law_chances") rfl)
  obtain ⟨fd__law_shares, F__law_shares⟩ := c.def_ 40 rfl
  have gx__law_shares := He.glo_ok X G (c.fact 40 (f := .glo "_law_shares") rfl)
  obtain ⟨fd__law_view, F__law_view⟩ := c.def_ 41 rfl
  have gx__law_view := He.glo_ok X G (c.fact 41 (f := .glo "_law_view") rfl)
  obtain ⟨fd__law_is_view, F__law_is_view⟩ := c.def_ 42 rfl
  have gx__law_is_view := He.glo_ok X G (c.fact 42 (f := .glo "_law_is_view") rfl)
  obtain ⟨fd__law_through, F__law_through⟩ := c.def_ 43 rfl
  have gx__law_through := He.glo_ok X G (c.fact 43 (f := .glo "_law_through") rfl)
  obtain ⟨fd__law_act_worth, F__law_act_worth⟩ := c.def_ 44 rfl
  have gx__law_act_worth := He.glo_ok X G (c.fact 44 (f := .glo "_law_act_worth") rfl)
  obtain ⟨fd__law_worth, F__law_worth⟩ := c.def_ 45 rfl
  have gx__law_worth := He.glo_ok X G (c.fact 45 (f := .glo "_law_worth") rfl)
  obtain ⟨fd__law_wide_view, F__law_wide_view⟩ := c.def_ 46 rfl
  have gx__law_wide_view := He.glo_ok X G (c.fact 46 (f := .glo "_law_wide_view") rfl)
  obtain ⟨fd__law_some_acts, F__law_some_acts⟩ := c.def_ 47 rfl
  have gx__law_some_acts := He.glo_ok X G (c.fact 47 (f := .glo "_law_some_acts") rfl)
  obtain ⟨fd__law_best_number, F__law_best_number⟩ := c.def_ 48 rfl
  have gx__law_best_number := He.glo_ok X G (c.fact 48 (f := .glo "_law_best_number") rfl)
  obtain ⟨fd__law_worth_right, F__law_worth_right⟩ := c.def_ 49 rfl
  have gx__law_worth_right := He.glo_ok X G (c.fact 49 (f := .glo "_law_worth_right") rfl)
  obtain ⟨fd__law_through_right, F__law_through_right⟩ := c.def_ 50 rfl
  have gx__law_through_right := He.glo_ok X G (c.fact 50 (f := .glo "_law_through_right") rfl)
  obtain ⟨fd__law_right_view, F__law_right_view⟩ := c.def_ 51 rfl
  have gx__law_right_view := He.glo_ok X G (c.fact 51 (f := .glo "_law_right_view") rfl)
  obtain ⟨fd__law_view_judged, F__law_view_judged⟩ := c.def_ 52 rfl
  have gx__law_view_judged := He.glo_ok X G (c.fact 52 (f := .glo "_law_view_judged") rfl)
  obtain ⟨fd__law_grown, F__law_grown⟩ := c.def_ 53 rfl
  have gx__law_grown := He.glo_ok X G (c.fact 53 (f := .glo "_law_grown") rfl)
  obtain ⟨fd__law_spoilt_view, F__law_spoilt_view⟩ := c.def_ 54 rfl
  have gx__law_spoilt_view := He.glo_ok X G (c.fact 54 (f := .glo "_law_spoilt_view") rfl)
  obtain ⟨fd_law, F_law⟩ := c.def_ 55 rfl
  have z_ZeroDivisionError := He.free_ok X G (c.fact 56 (f := .free "ZeroDivisionError") rfl)
  have z_zip := He.free_ok X G (c.fact 57 (f := .free "zip") rfl)
  have z_len := He.free_ok X G (c.fact 58 (f := .free "len") rfl)
  have z_range := He.free_ok X G (c.fact 59 (f := .free "range") rfl)
  have z_tuple := He.free_ok X G (c.fact 60 (f := .free "tuple") rfl)
  have z_int := He.free_ok X G (c.fact 61 (f := .free "int") rfl)
  have z_abs := He.free_ok X G (c.fact 62 (f := .free "abs") rfl)
  have z_isinstance := He.free_ok X G (c.fact 63 (f := .free "isinstance") rfl)
  have z_bool := He.free_ok X G (c.fact 64 (f := .free "bool") rfl)
  have z_all := He.free_ok X G (c.fact 65 (f := .free "all") rfl)
  have z_sum := He.free_ok X G (c.fact 66 (f := .free "sum") rfl)
  have z_list := He.free_ok X G (c.fact 67 (f := .free "list") rfl)
  have g_gcd := blt_ok X G (c.more 0 (f := .blt "gcd" "math.gcd") rfl)
  have k_ZERO := con_ok X G (c.more 1 (f := .con "ZERO" q_ZERO) rfl)
  have k_ONE := con_ok X G (c.more 2 (f := .con "ONE" q_ONE) rfl)
  have k_MOST_STATES := con_ok X G (c.more 3 (f := .con "MOST_STATES" q_MOST_STATES) rfl)
  have k_MOST_ANSWERS := con_ok X G (c.more 4 (f := .con "MOST_ANSWERS" q_MOST_ANSWERS) rfl)
  have e := hfa.symm.trans (He.glo_ok X G (c.fact 55 (f := .glo "law") rfl))
  cases e
  refine ⟨fd_law, fun s v => FunD.bindsA (ps := ["script"]) F_law (fun _ _ _ _ _ _ us hl => match us, hl with | [_], _ => rfl) s [v] rfl, fun base _ _ => ?_⟩
  have c_ratio := (ok_ratio (P := P) (w := w) (base := base) F_ratio gx_ratio g_gcd z_ZeroDivisionError).le le_ratio
  have c_plus := (ok_plus (P := P) (w := w) (base := base) F_plus gx_plus c_ratio).le le_plus
  have c_times := (ok_times (P := P) (w := w) (base := base) F_times gx_times c_ratio).le le_times
  have c_is_below := (ok_is_below (P := P) (w := w) (base := base) F_is_below gx_is_below ).le le_is_below
  have c_total := (ok_total (P := P) (w := w) (base := base) F_total gx_total c_plus k_ZERO).le le_total
  have c_mean := (ok_mean (P := P) (w := w) (base := base) F_mean gx_mean c_plus c_times k_ZERO z_zip).le le_mean
  have c_is_fraction := (ok_is_fraction (P := P) (w := w) (base := base) F_is_fraction gx_is_fraction g_gcd).le le_is_fraction
  have c_is_ratio := (ok_is_ratio (P := P) (w := w) (base := base) F_is_ratio gx_is_ratio c_is_fraction).le le_is_ratio
  have c_is_chances := (ok_is_chances (P := P) (w := w) (base := base) F_is_chances gx_is_chances c_is_ratio c_total k_ONE z_len).le le_is_chances
  have c_act_sum := (ok_act_sum (P := P) (w := w) (base := base) F_act_sum gx_act_sum c_mean).le le_act_sum
  have c_act_sums := (ok_act_sums (P := P) (w := w) (base := base) F_act_sums gx_act_sums c_act_sum).le le_act_sums
  have c_best_place := (ok_best_place (P := P) (w := w) (base := base) F_best_place gx_best_place c_is_below z_range z_len).le le_best_place
  have c_are_rows := (ok_are_rows (P := P) (w := w) (base := base) F_are_rows gx_are_rows c_is_chances z_len).le le_are_rows
  have c_is_view := (ok_is_view (P := P) (w := w) (base := base) F_is_view gx_is_view c_are_rows k_MOST_STATES k_MOST_ANSWERS z_len).le le_is_view
  have c_milled := (ok_milled (P := P) (w := w) (base := base) F_milled gx_milled c_plus c_times k_ZERO z_zip).le le_milled
  have c_milled_row := (ok_milled_row (P := P) (w := w) (base := base) F_milled_row gx_milled_row c_milled z_range z_len z_tuple).le le_milled_row
  have c_through := (ok_through (P := P) (w := w) (base := base) F_through gx_through c_milled_row z_tuple).le le_through
  have c_best_acts := (ok_best_acts (P := P) (w := w) (base := base) F_best_acts gx_best_acts c_best_place c_act_sums z_range z_len z_tuple).le le_best_acts
  have c_worth_of := (ok_worth_of (P := P) (w := w) (base := base) F_worth_of gx_worth_of c_act_sums c_plus c_best_place k_ZERO z_range z_len).le le_worth_of
  have c__law_begin := (ok__law_begin (P := P) (w := w) (base := base) F__law_begin gx__law_begin z_int).le le__law_begin
  have c__law_draw := (ok__law_draw (P := P) (w := w) (base := base) F__law_draw gx__law_draw z_int z_len z_abs).le le__law_draw
  have c__law_pick := (ok__law_pick (P := P) (w := w) (base := base) F__law_pick gx__law_pick c__law_draw z_len).le le__law_pick
  have c__law_rare := (ok__law_rare (P := P) (w := w) (base := base) F__law_rare gx__law_rare c__law_draw).le le__law_rare
  have c__law_is_int := (ok__law_is_int (P := P) (w := w) (base := base) F__law_is_int gx__law_is_int z_int z_isinstance z_bool).le le__law_is_int
  have c__law_is_ints := (ok__law_is_ints (P := P) (w := w) (base := base) F__law_is_ints gx__law_is_ints c__law_is_int z_tuple z_isinstance z_all).le le__law_is_ints
  have c__law_is_rows := (ok__law_is_rows (P := P) (w := w) (base := base) F__law_is_rows gx__law_is_rows z_tuple z_isinstance z_len z_all).le le__law_is_rows
  have c__law_gcd := (ok__law_gcd (P := P) (w := w) (base := base) F__law_gcd gx__law_gcd z_abs z_int).le le__law_gcd
  have c__law_f := (ok__law_f (P := P) (w := w) (base := base) F__law_f gx__law_f c__law_gcd).le le__law_f
  have c__law_plus := (ok__law_plus (P := P) (w := w) (base := base) F__law_plus gx__law_plus c__law_f).le le__law_plus
  have c__law_minus := (ok__law_minus (P := P) (w := w) (base := base) F__law_minus gx__law_minus c__law_f).le le__law_minus
  have c__law_times := (ok__law_times (P := P) (w := w) (base := base) F__law_times gx__law_times c__law_f).le le__law_times
  have c__law_less := (ok__law_less (P := P) (w := w) (base := base) F__law_less gx__law_less ).le le__law_less
  have c__law_total := (ok__law_total (P := P) (w := w) (base := base) F__law_total gx__law_total c__law_plus).le le__law_total
  have c__law_great := (ok__law_great (P := P) (w := w) (base := base) F__law_great gx__law_great c__law_less).le le__law_great
  have c__law_is_frac := (ok__law_is_frac (P := P) (w := w) (base := base) F__law_is_frac gx__law_is_frac c__law_is_int c__law_gcd z_tuple z_isinstance z_len).le le__law_is_frac
  have c__law_is_ratio := (ok__law_is_ratio (P := P) (w := w) (base := base) F__law_is_ratio gx__law_is_ratio c__law_is_frac).le le__law_is_ratio
  have c__law_is_ratios := (ok__law_is_ratios (P := P) (w := w) (base := base) F__law_is_ratios gx__law_is_ratios c__law_is_ratio z_tuple z_isinstance z_all).le le__law_is_ratios
  have c__law_is_shares := (ok__law_is_shares (P := P) (w := w) (base := base) F__law_is_shares gx__law_is_shares c__law_is_ratios c__law_total z_len).le le__law_is_shares
  have c__law_row := (ok__law_row (P := P) (w := w) (base := base) F__law_row gx__law_row c__law_draw z_range z_sum z_tuple).le le__law_row
  have c__law_chances := (ok__law_chances (P := P) (w := w) (base := base) F__law_chances gx__law_chances c__law_f z_sum z_tuple).le le__law_chances
  have c__law_shares := (ok__law_shares (P := P) (w := w) (base := base) F__law_shares gx__law_shares c__law_chances c__law_row).le le__law_shares
  have c__law_view := (ok__law_view (P := P) (w := w) (base := base) F__law_view gx__law_view c__law_shares z_range z_tuple).le le__law_view
  have c__law_is_view := (ok__law_is_view (P := P) (w := w) (base := base) F__law_is_view gx__law_is_view c__law_is_rows c__law_is_shares z_len z_all).le le__law_is_view
  have c__law_through := (ok__law_through (P := P) (w := w) (base := base) F__law_through gx__law_through c__law_total c__law_times z_range z_len z_tuple).le le__law_through
  have c__law_act_worth := (ok__law_act_worth (P := P) (w := w) (base := base) F__law_act_worth gx__law_act_worth c__law_total c__law_times z_range z_len).le le__law_act_worth
  have c__law_worth := (ok__law_worth (P := P) (w := w) (base := base) F__law_worth gx__law_worth c__law_plus c__law_great c__law_act_worth z_range z_len).le le__law_worth
  have c__law_wide_view := (ok__law_wide_view (P := P) (w := w) (base := base) F__law_wide_view gx__law_wide_view c__law_draw c__law_row c__law_rare c__law_chances z_range z_list z_sum z_tuple).le le__law_wide_view
  have c__law_some_acts := (ok__law_some_acts (P := P) (w := w) (base := base) F__law_some_acts gx__law_some_acts c__law_draw c__law_f c__law_pick z_range z_tuple z_len).le le__law_some_acts
  have c__law_best_number := (ok__law_best_number (P := P) (w := w) (base := base) F__law_best_number gx__law_best_number c__law_act_worth c__law_less z_range z_len).le le__law_best_number
  have c__law_worth_right := (ok__law_worth_right (P := P) (w := w) (base := base) F__law_worth_right gx__law_worth_right c_worth_of c__law_is_frac c__law_worth c_best_acts c__law_best_number c__law_is_ints z_range z_len z_tuple).le le__law_worth_right
  have c__law_through_right := (ok__law_through_right (P := P) (w := w) (base := base) F__law_through_right gx__law_through_right c_through c__law_is_view c__law_through z_len).le le__law_through_right
  have c__law_right_view := (ok__law_right_view (P := P) (w := w) (base := base) F__law_right_view gx__law_right_view c__law_is_view z_len).le le__law_right_view
  have c__law_view_judged := (ok__law_view_judged (P := P) (w := w) (base := base) F__law_view_judged gx__law_view_judged c_is_view c__law_right_view z_bool z_isinstance).le le__law_view_judged
  have c__law_grown := (ok__law_grown (P := P) (w := w) (base := base) F__law_grown gx__law_grown z_range z_len z_tuple).le le__law_grown
  have c__law_spoilt_view := (ok__law_spoilt_view (P := P) (w := w) (base := base) F__law_spoilt_view gx__law_spoilt_view c__law_draw c__law_f c__law_minus c__law_plus z_list z_len z_tuple).le le__law_spoilt_view
  exact (ok_law (P := P) (w := w) (base := base) F_law c__law_begin c__law_draw c__law_wide_view c__law_view c__law_through c__law_through_right c_through c__law_some_acts c__law_worth_right c__law_less c_worth_of c__law_grown c__law_spoilt_view c__law_view_judged z_range z_all).le le_law
end K54
open PySem PySem.W PySem.Calls PyProof.Rows
set_option maxHeartbeats 0 in
theorem PySem.Challenge.cw_closedratios_k54_views_and_worths_holds : PySem.Challenge.rw_closedratios_k54_views_and_worths.Holds := by
  w_on; o_law
  refine HandSHeadRun.head_imp (r := OpenLaw.row PySem.Challenge.rw_closedratios_k54_views_and_worths) (q := view (OpenLaw.row PySem.Challenge.rw_closedratios_k54_views_and_worths).prog [0, 65]) (H := K54.hk) (ob := K54.ob) (M := 6000) (loose := K54.nms) (d := HandSHeadRun.topDef (OpenLaw.row PySem.Challenge.rw_closedratios_k54_views_and_worths).prog 65) (kwd := []) K54.ob_eq
    K54.run (by kernel_rfl) (by kernel_rfl) (by kernel_rfl) (by rfl) (by first | assumption | decide +kernel) (by decide +kernel) ⟨rfl, rfl, rfl, rfl, rfl, by decide +kernel⟩ ?hw ?hc
  case hw => w_witness2
  case hc =>
    refine L2.walk_ofE (l := PySem.Challenge.rw_closedratios_k54_views_and_worths) (n := 63) (k := 9) (x := "script") (CX := L2.CX0) rfl (by decide) (by kernel_rfl) ⟨rfl, by decide, by decide⟩ ?F (fun _ _ _ _ z => z)
    intro w mg fa h Y G hmg0
    obtain ⟨K, KX, c⟩ := Y
    have hmg : mg ("law" : PySem.Str) = some (.ref fa) := by
      have e : (HandSHeadRun.topDef (OpenLaw.row PySem.Challenge.rw_closedratios_k54_views_and_worths).prog 65).name = ("law" : PySem.Str) := by kernel_rfl
      rw [← e]
      exact hmg0
    obtain ⟨fd, hb, hF⟩ := K54.facts (P := (PySem.Challenge.rw_closedratios_k54_views_and_worths).prog) (w := w) KX G hmg c
    exact ⟨K, fd, (fun vs H Q _ => HM.spM K 1 K54.f_law vs H Q fun _ _ _ => False), KX, hb, fun H a ns hl ho hS => HM.law_sp (n := 63) K54.law_holds H a ns hl ho hS, fun base h1 h2 => (hF base h1 h2).shut⟩
