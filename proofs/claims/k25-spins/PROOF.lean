import PyProof.Rows.All
import Wide.All
import OpenK.AllK
import Wide.FinOn
import HandS.ForMost
import HandS.ForExc
import HandS.Wide
import HandS.Gcd
import HandS.Flow
import HandS.IsInst
import HandS.Conv
import HandS.TupAny
import HandS.Zip
import HandS.CallSlots
import HandS.TupLe
import HandS.ExcBuiltin
import HandS.TryOnly
import HandS.Defaults
import HandS.HeadEnd
import HandS.HeadHook1
import HandS.HeadHook2
import KE.KStateDown
import Lean
import HandS.Head0
import HandS.Head1
import HandS.Head2
import HandS.Head3
import HandS.More
import HandS.Deep
import HandS.Text
import KE.KTupSum
import KE.KMathGC
import HandS.Codes
import HandS.TupMul
import PySem.Challenge.RW_closedratios_k25_spins_and_choices
set_option Elab.async false
set_option linter.all false
set_option maxRecDepth 100000
set_option maxHeartbeats 4000000
/-! HM: a layer of values over the hand layer. Part 1: values, stores, judgements. -/
namespace HM
open PySem PySem.Spec PyProof.Rows L2

/-! ### values -/
inductive D where
  | non | bl (b : Bool) | int (i : Int) | str (x : List Nat) | tup (xs : List D) | ref (n : Nat) | ty (n : String) | adr (a : Addr) | rol (xs : List D)
mutual
def D.dec : (a b : D) → Decidable (a = b)
  | .non, .non => Decidable.isTrue rfl
  | .bl a, .bl b => if h : a = b then Decidable.isTrue (h ▸ rfl) else Decidable.isFalse (fun e => h (D.bl.inj e))
  | .int a, .int b => if h : a = b then Decidable.isTrue (h ▸ rfl) else Decidable.isFalse (fun e => h (D.int.inj e))
  | .str a, .str b => if h : a = b then Decidable.isTrue (h ▸ rfl) else Decidable.isFalse (fun e => h (D.str.inj e))
  | .ref a, .ref b => if h : a = b then Decidable.isTrue (h ▸ rfl) else Decidable.isFalse (fun e => h (D.ref.inj e))
  | .ty a, .ty b => if h : a = b then Decidable.isTrue (h ▸ rfl) else Decidable.isFalse (fun e => h (D.ty.inj e))
  | .adr a, .adr b => if h : a = b then Decidable.isTrue (h ▸ rfl) else Decidable.isFalse (fun e => h (D.adr.inj e))
  | .tup a, .tup b => match D.decAll a b with
    | .isTrue h => Decidable.isTrue (h ▸ rfl)
    | .isFalse h => Decidable.isFalse (fun e => h (D.tup.inj e))
  | .rol a, .rol b => match D.decAll a b with
    | .isTrue h => Decidable.isTrue (h ▸ rfl)
    | .isFalse h => Decidable.isFalse (fun e => h (D.rol.inj e))
  | .non, .bl _ | .non, .int _ | .non, .str _ | .non, .tup _ | .non, .ref _ | .non, .ty _ | .non, .adr _ | .non, .rol _ => Decidable.isFalse nofun
  | .bl _, .non | .bl _, .int _ | .bl _, .str _ | .bl _, .tup _ | .bl _, .ref _ | .bl _, .ty _ | .bl _, .adr _ | .bl _, .rol _ => Decidable.isFalse nofun
  | .int _, .non | .int _, .bl _ | .int _, .str _ | .int _, .tup _ | .int _, .ref _ | .int _, .ty _ | .int _, .adr _ | .int _, .rol _ => Decidable.isFalse nofun
  | .str _, .non | .str _, .bl _ | .str _, .int _ | .str _, .tup _ | .str _, .ref _ | .str _, .ty _ | .str _, .adr _ | .str _, .rol _ => Decidable.isFalse nofun
  | .tup _, .non | .tup _, .bl _ | .tup _, .int _ | .tup _, .str _ | .tup _, .ref _ | .tup _, .ty _ | .tup _, .adr _ | .tup _, .rol _ => Decidable.isFalse nofun
  | .ref _, .non | .ref _, .bl _ | .ref _, .int _ | .ref _, .str _ | .ref _, .tup _ | .ref _, .ty _ | .ref _, .adr _ | .ref _, .rol _ => Decidable.isFalse nofun
  | .ty _, .non | .ty _, .bl _ | .ty _, .int _ | .ty _, .str _ | .ty _, .tup _ | .ty _, .ref _ | .ty _, .adr _ | .ty _, .rol _ => Decidable.isFalse nofun
  | .rol _, .non | .rol _, .bl _ | .rol _, .int _ | .rol _, .str _ | .rol _, .tup _ | .rol _, .ref _ | .rol _, .ty _ | .rol _, .adr _ => Decidable.isFalse nofun
  | .adr _, .non | .adr _, .bl _ | .adr _, .int _ | .adr _, .str _ | .adr _, .tup _ | .adr _, .ref _ | .adr _, .ty _ | .adr _, .rol _ => Decidable.isFalse nofun
def D.decAll : (a b : List D) → Decidable (a = b)
  | [], [] => Decidable.isTrue rfl
  | [], _ :: _ => Decidable.isFalse nofun
  | _ :: _, [] => Decidable.isFalse nofun
  | x :: xs, y :: ys => match D.dec x y with
    | .isFalse h => Decidable.isFalse (fun e => h (List.cons.inj e).1)
    | .isTrue h => match D.decAll xs ys with
      | .isTrue h2 => Decidable.isTrue (by rw [h, h2])
      | .isFalse h2 => Decidable.isFalse (fun e => h2 (List.cons.inj e).2)
end
instance : DecidableEq D := D.dec
instance : Inhabited D := ⟨.non⟩
/-- what stands in a cell of the store -/
inductive Cell where
  | lst (xs : List D)
  deriving DecidableEq, Inhabited
abbrev Store := List Cell
abbrev Sl := List (Option D)
/-- an exception: its class, its fields -/
structure Xc where
  cls : D
  fs : List (Str × D) := []
/-- what an evaluation gives -/
inductive ER (α : Type) where
  | ok (a : α) (st : Store) | exc (x : Xc) (st : Store) | bad
def ER.bind {α β : Type} (r : ER α) (k : α → Store → ER β) : ER β := match r with
  | .ok a st => k a st
  | .exc x st => .exc x st
  | .bad => .bad
@[simp] theorem ER.bind_ok {α β : Type} (a : α) (st : Store) (k : α → Store → ER β) : (ER.ok a st).bind k = k a st := rfl
@[simp] theorem ER.bind_exc {α β : Type} (x : Xc) (st : Store) (k : α → Store → ER β) : (ER.exc x st : ER α).bind k = .exc x st := rfl
@[simp] theorem ER.bind_bad {α β : Type} (k : α → Store → ER β) : (ER.bad : ER α).bind k = .bad := rfl
/-- what a statement gives -/
inductive SR where
  | nx (τ : Sl) (st : Store) | bk (τ : Sl) (st : Store) | ct (τ : Sl) (st : Store) | rt (d : D) (st : Store) | exc (x : Xc) (τ : Sl) (st : Store) | bad
abbrev EM (α : Type) := Sl → Store → ER α
abbrev SM := Sl → Store → SR

/-! ### how values stand for those of the layer -/
/-- a list that nobody writes -/
def FzL (K : PySem.W.Frag) (H : Hp) (a : Addr) (xs : List V) : Prop :=
  (∃ o, H a = some (.frz o (.lst xs))) ∨
    ∃ (o : Obj) (its : Array Value) (n : Nat), K.lookup a = some o ∧ o.cls = .type "list" ∧ o.dict = none ∧ o.data = .seq its n ∧ its.size ≤ sizeLine ∧ Vals xs its.toList
theorem FzL.sq {K : PySem.W.Frag} {H : Hp} {a : Addr} {xs : List V} (h : FzL K H a xs) : SqL K H a xs := by
  rcases h with ⟨o, h⟩ | h
  · exact .inl (.inr ⟨o, h⟩)
  · exact .inr h
theorem FzL.of {K : PySem.W.Frag} {H : Hp} {a : Addr} {xs : List V} (h : SqL K H a xs) (n : ∀ ys, H a ≠ some (.lst ys)) : FzL K H a xs := by
  rcases h with (h | h) | h
  · exact absurd h (n xs)
  · exact .inl h
  · exact .inr h
theorem FzL.new {K : PySem.W.Frag} {H : Hp} {p : Addr} {o : HO} (h : H p = none) {a : Addr} {vs : List V} (s : FzL K H a vs) : FzL K (upd H p o) a vs := by
  rcases s with ⟨ob, s⟩ | s
  · exact .inl ⟨ob, by rw [upd_ne (ne_of_none s h)]; exact s⟩
  · exact .inr s
mutual
inductive RD (K : PySem.W.Frag) (m : List Addr) (H : Hp) : D → V → Prop
  | non : RD K m H .non .non
  | bl (b : Bool) : RD K m H (.bl b) (.bl b)
  | int (i : Int) : RD K m H (.int i) (.int i)
  | str (x : List Nat) : RD K m H (.str x) (.str ⟨x.toArray⟩)
  | ty (n : String) : RD K m H (.ty n) (.ty n)
  | adr (a : Addr) : RD K m H (.adr a) (.ref a)
  | tup {a : Addr} {vs : List V} {ds : List D} : SqT K H a vs → RDs K m H ds vs → RD K m H (.tup ds) (.ref a)
  | rol {a : Addr} {vs : List V} {ds : List D} : FzL K H a vs → RDs K m H ds vs → RD K m H (.rol ds) (.ref a)
  | ref {n : Nat} {a : Addr} : m[n]? = some a → RD K m H (.ref n) (.ref a)
inductive RDs (K : PySem.W.Frag) (m : List Addr) (H : Hp) : List D → List V → Prop
  | nil : RDs K m H [] []
  | cons {d : D} {v : V} {ds : List D} {vs : List V} : RD K m H d v → RDs K m H ds vs → RDs K m H (d :: ds) (v :: vs)
end
/-- what values lean on is kept -/
structure Kp (K : PySem.W.Frag) (m : List Addr) (H : Hp) (m' : List Addr) (H' : Hp) : Prop where
  pre : ∀ (n : Nat) (a : Addr), m[n]? = some a → m'[n]? = some a
  tup : ∀ (a : Addr) (vs : List V), SqT K H a vs → SqT K H' a vs
  fzl : ∀ (a : Addr) (vs : List V), FzL K H a vs → FzL K H' a vs
/-- all that was is kept, but what the store may change -/
structure Ext (K : PySem.W.Frag) (m : List Addr) (H : Hp) (m' : List Addr) (H' : Hp) : Prop extends Kp K m H m' H' where
  frm : ∀ (a : Addr) (o : HO), a ∉ m → H a = some o → H' a = some o
  new : ∀ a : Addr, a ∈ m' → a ∉ m → H a = none
section
variable {K : PySem.W.Frag} {m m1 m2 m' : List Addr} {H H1 H2 H' : Hp}
theorem Ext.refl : Ext K m H m H := ⟨⟨fun _ _ h => h, fun _ _ h => h, fun _ _ h => h⟩, fun _ _ _ h => h, fun _ h n => absurd h n⟩
theorem Ext.mem (e : Ext K m H m1 H1) {a : Addr} (h : a ∈ m) : a ∈ m1 := by
  obtain ⟨n, q⟩ := List.getElem?_of_mem h
  exact List.mem_of_getElem? (e.pre n a q)
theorem Ext.trans (e : Ext K m H m1 H1) (f : Ext K m1 H1 m2 H2) : Ext K m H m2 H2 where
  pre := fun n a h => f.pre n a (e.pre n a h)
  tup := fun a vs h => f.tup a vs (e.tup a vs h)
  fzl := fun a vs h => f.fzl a vs (e.fzl a vs h)
  frm := fun a o n h => by
    refine f.frm a o (fun q => ?_) (e.frm a o n h)
    rw [e.new a q n] at h
    cases h
  new := fun a h n => by
    by_cases q : a ∈ m1
    · exact e.new a q n
    · have z := f.new a h q
      cases r : H a with
      | none => rfl
      | some o =>
        rw [e.frm a o n r] at z
        cases z
mutual
theorem RD.kp (e : Kp K m H m' H') : ∀ {d : D} {v : V}, RD K m H d v → RD K m' H' d v
  | _, _, .non => .non
  | _, _, .bl b => .bl b
  | _, _, .int i => .int i
  | _, _, .str x => .str x
  | _, _, .ty n => .ty n
  | _, _, .adr a => .adr a
  | _, _, .tup h r => .tup (e.tup _ _ h) (RDs.kp e r)
  | _, _, .rol h r => .rol (e.fzl _ _ h) (RDs.kp e r)
  | _, _, .ref h => .ref (e.pre _ _ h)
theorem RDs.kp (e : Kp K m H m' H') : ∀ {ds : List D} {vs : List V}, RDs K m H ds vs → RDs K m' H' ds vs
  | _, _, .nil => .nil
  | _, _, .cons h r => .cons (RD.kp e h) (RDs.kp e r)
end
theorem RD.mono (e : Ext K m H m' H') {d : D} {v : V} (r : RD K m H d v) : RD K m' H' d v := r.kp e.toKp
theorem RDs.mono (e : Ext K m H m' H') {ds : List D} {vs : List V} (r : RDs K m H ds vs) : RDs K m' H' ds vs := r.kp e.toKp
theorem RDs.len : ∀ {ds : List D} {vs : List V}, RDs K m H ds vs → ds.length = vs.length
  | _, _, .nil => rfl
  | _, _, .cons _ r => congrArg (· + 1) r.len
theorem RDs.get : ∀ {ds : List D} {vs : List V} {i : Nat} {d : D}, RDs K m H ds vs → ds[i]? = some d → ∃ v, vs[i]? = some v ∧ RD K m H d v
  | _, _, _, _, .nil, e => by simp at e
  | _, _, 0, _, .cons h _, e => by
    simp at e
    subst e
    exact ⟨_, rfl, h⟩
  | _, _, i + 1, d, .cons _ r, e => by
    obtain ⟨v, h1, h2⟩ := RDs.get (i := i) (d := d) r (by simpa using e)
    exact ⟨v, by simpa using h1, h2⟩
theorem RDs.append : ∀ {ds es : List D} {vs us : List V}, RDs K m H ds vs → RDs K m H es us → RDs K m H (ds ++ es) (vs ++ us)
  | _, _, _, _, .nil, s => s
  | _, _, _, _, .cons h r, s => .cons h (RDs.append r s)
theorem RDs.take : ∀ {ds : List D} {vs : List V} (n : Nat), RDs K m H ds vs → RDs K m H (ds.take n) (vs.take n)
  | _, _, 0, _ => .nil
  | _, _, _ + 1, .nil => .nil
  | _, _, n + 1, .cons h r => .cons h (RDs.take n r)
theorem RDs.drop : ∀ {ds : List D} {vs : List V} (n : Nat), RDs K m H ds vs → RDs K m H (ds.drop n) (vs.drop n)
  | _, _, 0, r => r
  | _, _, _ + 1, .nil => .nil
  | _, _, n + 1, .cons _ r => RDs.drop n r
theorem RDs.set {d : D} {v : V} (h : RD K m H d v) : ∀ {ds : List D} {vs : List V} (i : Nat), RDs K m H ds vs → RDs K m H (ds.set i d) (vs.set i v)
  | _, _, _, .nil => .nil
  | _, _, 0, .cons _ r => .cons h r
  | _, _, i + 1, .cons g r => .cons g (RDs.set h i r)
theorem RDs.erase : ∀ {ds : List D} {vs : List V} (i : Nat), RDs K m H ds vs → RDs K m H (ds.eraseIdx i) (vs.eraseIdx i)
  | _, _, _, .nil => .nil
  | _, _, 0, .cons _ r => r
  | _, _, i + 1, .cons g r => .cons g (RDs.erase i r)
theorem RDs.dropLast {ds : List D} {vs : List V} (r : RDs K m H ds vs) : RDs K m H ds.dropLast vs.dropLast := by
  rw [List.dropLast_eq_take, List.dropLast_eq_take, r.len]
  exact r.take _
theorem RDs.one {d : D} {vs : List V} (r : RDs K m H [d] vs) : ∃ v, vs = [v] ∧ RD K m H d v := by
  cases r with
  | cons h r =>
    cases r
    exact ⟨_, rfl, h⟩
theorem RDs.two {d e : D} {vs : List V} (r : RDs K m H [d, e] vs) : ∃ v u, vs = [v, u] ∧ RD K m H d v ∧ RD K m H e u := by
  cases r with
  | cons h r =>
    obtain ⟨u, rfl, h2⟩ := r.one
    exact ⟨_, _, rfl, h, h2⟩
theorem RDs.reverse {ds : List D} {vs : List V} (r : RDs K m H ds vs) : RDs K m H ds.reverse vs.reverse := by
  induction ds generalizing vs with
  | nil =>
    cases r
    exact .nil
  | cons d ds ih =>
    cases r with
    | cons h r =>
      rw [List.reverse_cons, List.reverse_cons]
      exact (ih r).append (.cons h .nil)
theorem RDs.ints : ∀ (ns : List Int), RDs K m H (ns.map D.int) (ns.map V.int)
  | [] => .nil
  | n :: r => .cons (.int n) (RDs.ints r)
/-- a cell and what stands at its address -/
def RC (K : PySem.W.Frag) (m : List Addr) (H : Hp) (a : Addr) : Cell → Prop
  | .lst ds => ∃ vs, H a = some (.lst vs) ∧ RDs K m H ds vs
structure SS (K : PySem.W.Frag) (m : List Addr) (st : Store) (H : Hp) : Prop where
  len : m.length = st.length
  nd : m.Nodup
  cel : ∀ (n : Nat) (c : Cell) (a : Addr), st[n]? = some c → m[n]? = some a → RC K m H a c
/-- the slots -/
structure SL (K : PySem.W.Frag) (m : List Addr) (H : Hp) (τ : Sl) (σ : L2.St) : Prop where
  len : τ.length = σ.length
  get : ∀ (i : Nat) (d : D), τ[i]? = some (some d) → ∃ v, σ[i]? = some (some v) ∧ RD K m H d v
theorem SL.mono {τ : Sl} {σ : L2.St} (s : SL K m H τ σ) (e : Ext K m H m' H') : SL K m' H' τ σ :=
  ⟨s.len, fun i d h => let ⟨v, h1, h2⟩ := s.get i d h; ⟨v, h1, h2.mono e⟩⟩
theorem SL.set {τ : Sl} {σ : L2.St} {d : D} {v : V} (s : SL K m H τ σ) (i : Nat) (r : RD K m H d v) : SL K m H (τ.set i (some d)) (σ.set i (some v)) := by
  refine ⟨by simpa using s.len, fun j e h => ?_⟩
  by_cases hj : i = j
  · subst hj
    by_cases hl : i < τ.length
    · rw [List.getElem?_set_self hl] at h
      simp only [Option.some.injEq] at h
      subst h
      exact ⟨v, by rw [List.getElem?_set_self (by rw [← s.len]; exact hl)], r⟩
    · rw [List.getElem?_eq_none (by simpa using hl)] at h
      cases h
  · rw [List.getElem?_set_ne hj] at h
    rw [List.getElem?_set_ne hj]
    exact s.get j e h
theorem SS.at {st : Store} {n : Nat} {c : Cell} (s : SS K m st H) (h : st[n]? = some c) : ∃ a, m[n]? = some a ∧ RC K m H a c := by
  have hl : n < m.length := by
    rw [s.len]
    exact (List.getElem?_eq_some_iff.mp h).1
  exact ⟨m[n], by simp, s.cel n c _ h (by simp)⟩
theorem sqT_new {p : Addr} {o : HO} (h : H p = none) {a : Addr} {vs : List V} (s : SqT K H a vs) : SqT K (upd H p o) a vs := by
  rcases s with (s | ⟨ob, s⟩) | s
  · exact .inl (.inl (by rw [upd_ne (ne_of_none s h)]; exact s))
  · exact .inl (.inr ⟨ob, by rw [upd_ne (ne_of_none s h)]; exact s⟩)
  · exact .inr s
theorem sqL_new {p : Addr} {o : HO} (h : H p = none) {a : Addr} {vs : List V} (s : SqL K H a vs) : SqL K (upd H p o) a vs := by
  rcases s with (s | ⟨ob, s⟩) | s
  · exact .inl (.inl (by rw [upd_ne (ne_of_none s h)]; exact s))
  · exact .inl (.inr ⟨ob, by rw [upd_ne (ne_of_none s h)]; exact s⟩)
  · exact .inr s
theorem sqL_ne {p a : Addr} {o : HO} {vs : List V} (h : a ≠ p) (s : SqL K H a vs) : SqL K (upd H p o) a vs := by
  rcases s with (s | ⟨ob, s⟩) | s
  · exact .inl (.inl (by rw [upd_ne h]; exact s))
  · exact .inl (.inr ⟨ob, by rw [upd_ne h]; exact s⟩)
  · exact .inr s
theorem RC.here {a : Addr} {c : Cell} (r : RC K m H a c) : ∃ o, H a = some o := by
  cases c with
  | lst ds =>
    obtain ⟨vs, h, _⟩ := r
    exact ⟨_, h⟩
/-- a new object that the store does not hold -/
theorem Ext.fresh {p : Addr} {o : HO} (h : H p = none) : Ext K m H m (upd H p o) :=
  ⟨⟨fun _ _ h => h, fun _ _ s => sqT_new h s, fun _ _ s => s.new h⟩, fun a ob _ q => by rw [upd_ne (ne_of_none q h)]; exact q, fun _ q n => absurd q n⟩
theorem RC.fresh {p a : Addr} {o : HO} {c : Cell} (h : H p = none) (r : RC K m H a c) : RC K m (upd H p o) a c := by
  cases c with
  | lst ds =>
    obtain ⟨vs, q, r⟩ := r
    exact ⟨vs, by rw [upd_ne (ne_of_none q h)]; exact q, r.mono (Ext.fresh h)⟩
theorem SS.fresh {p : Addr} {o : HO} {st : Store} (s : SS K m st H) (h : H p = none) : SS K m st (upd H p o) :=
  ⟨s.len, s.nd, fun n c a h1 h2 => (s.cel n c a h1 h2).fresh h⟩
/-- a new object of the store's -/
theorem Ext.app {p : Addr} {o : HO} (h : H p = none) : Ext K m H (m ++ [p]) (upd H p o) where
  pre := fun n a q => by
    rw [List.getElem?_append_left (List.getElem?_eq_some_iff.mp q).1]
    exact q
  tup := fun _ _ s => sqT_new h s
  fzl := fun _ _ s => s.new h
  frm := fun a ob _ q => by rw [upd_ne (ne_of_none q h)]; exact q
  new := fun a q n => by
    rcases List.mem_append.mp q with q | q
    · exact absurd q n
    · have e : a = p := by simpa using q
      rw [e]
      exact h
theorem Ext.grow {p : Addr} : (H p = none) → Ext K m H (m ++ [p]) H := fun h => {
  pre := fun n a q => by
    rw [List.getElem?_append_left (List.getElem?_eq_some_iff.mp q).1]
    exact q
  tup := fun _ _ s => s
  fzl := fun _ _ s => s
  frm := fun a ob _ q => q
  new := fun a q n => by
    rcases List.mem_append.mp q with q | q
    · exact absurd q n
    · have e : a = p := by simpa using q
      rw [e]
      exact h }
theorem RC.kp {a : Addr} {c : Cell} (r : RC K m H a c) (e : Kp K m H m' H') (h : ∀ o, H a = some o → H' a = some o) : RC K m' H' a c := by
  cases c with
  | lst ds =>
    obtain ⟨vs, q, r⟩ := r
    exact ⟨vs, h _ q, r.kp e⟩
theorem Kp.grow {p : Addr} : Kp K m H (m ++ [p]) H := ⟨fun n a q => by
    rw [List.getElem?_append_left (List.getElem?_eq_some_iff.mp q).1]
    exact q, fun _ _ s => s, fun _ _ s => s⟩
/-- an object that is there becomes the store's -/
theorem SS.grow {p : Addr} {c : Cell} {st : Store} (s : SS K m st H) (hp : p ∉ m) (r : RC K (m ++ [p]) H p c) : SS K (m ++ [p]) (st ++ [c]) H where
  len := by simp [s.len]
  nd := by
    rw [List.nodup_append]
    refine ⟨s.nd, by simp, fun a h1 b h2 e => ?_⟩
    have e2 : b = p := by simpa using h2
    rw [e, e2] at h1
    exact hp h1
  cel := fun n d a h1 h2 => by
    by_cases hn : n < st.length
    · rw [List.getElem?_append_left hn] at h1
      rw [List.getElem?_append_left (by rw [s.len]; exact hn)] at h2
      exact (s.cel n d a h1 h2).kp Kp.grow fun _ q => q
    · have hl : n < (st ++ [c]).length := (List.getElem?_eq_some_iff.mp h1).1
      have e : n = st.length := by
        rw [List.length_append, List.length_singleton] at hl
        omega
      subst e
      have e1 : c = d := by simpa using h1
      have e2 : p = a := by
        rw [← s.len] at h2
        simpa using h2
      rw [← e1, ← e2]
      exact r
theorem SS.notin {st : Store} {p : Addr} (s : SS K m st H) (h : H p = none) : p ∉ m := fun q => by
  obtain ⟨n, e⟩ := List.getElem?_of_mem q
  have hl : n < st.length := by
    rw [← s.len]
    exact (List.getElem?_eq_some_iff.mp e).1
  obtain ⟨o, z⟩ := (s.cel n st[n] p (by simp) e).here
  rw [h] at z
  cases z
/-- a list is written -/
theorem Kp.write {p : Addr} {xs : List V} {o : HO} (h : H p = some (.lst xs)) : Kp K m H m (upd H p o) where
  pre := fun _ _ q => q
  tup := fun a vs s => by
    rcases s with (s | ⟨ob, s⟩) | s
    · exact .inl (.inl (by rw [upd_ne (fun e => by rw [e, h] at s; cases s)]; exact s))
    · exact .inl (.inr ⟨ob, by rw [upd_ne (fun e => by rw [e, h] at s; cases s)]; exact s⟩)
    · exact .inr s
  fzl := fun a vs s => by
    rcases s with ⟨ob, s⟩ | s
    · exact .inl ⟨ob, by rw [upd_ne (fun e => by rw [e, h] at s; cases s)]; exact s⟩
    · exact .inr s
/-- a list that is not the store's is written -/
theorem SS.other {st : Store} {p : Addr} {xs : List V} {o : HO} (s : SS K m st H) (h : H p = some (.lst xs)) (hp : p ∉ m) : SS K m st (upd H p o) :=
  ⟨s.len, s.nd, fun n c a h1 h2 => (s.cel n c a h1 h2).kp (Kp.write h) fun ob q => by rw [upd_ne (fun e : a = p => hp (by rw [← e]; exact List.mem_of_getElem? h2))]; exact q⟩
/-- a list of the store's is written -/
theorem Ext.write {n : Nat} {p : Addr} {xs : List V} {o : HO} (h : H p = some (.lst xs)) (hn : m[n]? = some p) : Ext K m H m (upd H p o) :=
  { Kp.write h with
    frm := fun a ob q z => by rw [upd_ne (fun e : a = p => q (by rw [e]; exact List.mem_of_getElem? hn))]; exact z
    new := fun a q n => absurd q n }
theorem SS.write {st : Store} {n : Nat} {p : Addr} {xs ys : List V} {ds : List D} (s : SS K m st H) (h : H p = some (.lst xs)) (hn : m[n]? = some p) (r : RDs K m H ds ys) : SS K m (st.set n (.lst ds)) (upd H p (.lst ys)) where
  len := by rw [List.length_set]; exact s.len
  nd := s.nd
  cel := fun i c a h1 h2 => by
    by_cases hi : n = i
    · subst hi
      rw [hn] at h2
      cases h2
      have hl : n < st.length := by
        rw [← s.len]
        exact (List.getElem?_eq_some_iff.mp hn).1
      rw [List.getElem?_set_self hl] at h1
      cases h1
      exact ⟨ys, upd_same, r.kp (Kp.write h)⟩
    · rw [List.getElem?_set_ne hi] at h1
      refine (s.cel i c a h1 h2).kp (Kp.write h) fun ob q => ?_
      rw [upd_ne fun e => hi ?_]
      · exact q
      · subst e
        obtain ⟨l1, e1⟩ := List.getElem?_eq_some_iff.mp hn
        obtain ⟨l2, e2⟩ := List.getElem?_eq_some_iff.mp h2
        exact (List.getElem_inj s.nd).mp (e1.trans e2.symm)
end
end HM

/-! HM, part 2: what an evaluation promises; expressions. -/
namespace HM
open PySem PySem.Spec PyProof.Rows L2

/-- an exception and how it flies -/
def XR (K : PySem.W.Frag) (m : List Addr) (H : Hp) (x : Xc) (c : Value) (d : Option Addr) : Prop := match x.cls with
  | .ty n => c = .type n ∧ x.fs = []
  | .adr a => c = .ref a ∧ (x.fs = [] ∨ ∃ da vs, d = some da ∧ H da = some (.xd vs) ∧ Paired (fun (p : Str × D) (q : Str × V) => p.1 = q.1 ∧ RD K m H p.2 q.2) x.fs vs)
  | _ => False
/-- behind an evaluation -/
def Pe {α β : Type} (K : PySem.W.Frag) (E : XK) (R : List Addr → Hp → α → β → Prop) (m : List Addr) (H : Hp) (r : ER α) (Q : β → Hp → Prop) : Prop := match r with
  | .ok a st => ∀ m' H' b, Ext K m H m' H' → SS K m' st H' → R m' H' a b → Q b H'
  | .exc x st => ∀ m' H' c d, Ext K m H m' H' → SS K m' st H' → XR K m' H' x c d → E c d H'
  | .bad => False
section
variable {α β γ δ : Type} {K : PySem.W.Frag} {E : XK} {R : List Addr → Hp → α → β → Prop} {S : List Addr → Hp → γ → δ → Prop} {m m1 : List Addr} {H H1 : Hp} {r : ER α} {Q : β → Hp → Prop}
theorem Pe.up (h : Pe K E R m H r Q) (e : Ext K m H m1 H1) : Pe K E R m1 H1 r Q := by
  cases r with
  | ok a st => exact fun m' H' b e' s q => h m' H' b (e.trans e') s q
  | exc x st => exact fun m' H' c d e' s q => h m' H' c d (e.trans e') s q
  | bad => exact h
theorem Pe.bind {k : α → Store → ER γ} {Q' : δ → Hp → Prop} (h : Pe K E S m H (r.bind k) Q')
    (hk : ∀ a st m' H' b, Ext K m H m' H' → SS K m' st H' → R m' H' a b → Pe K E S m' H' (k a st) Q' → Q b H') : Pe K E R m H r Q := by
  cases r with
  | ok a st => exact fun m' H' b e s q => hk a st m' H' b e s q (Pe.up h e)
  | exc x st => exact h
  | bad => exact h
theorem Pe.now {a : α} {st : Store} {b : β} (h : Pe K E R m H (.ok a st) Q) (s : SS K m st H) (q : R m H a b) : Q b H := h m H b .refl s q
theorem Pe.imp {Q' : β → Hp → Prop} (h : Pe K E R m H r Q) (hQ : ∀ b H, Q b H → Q' b H) : Pe K E R m H r Q' := by
  cases r with
  | ok a st => exact fun m' H' b e s q => hQ _ _ (h m' H' b e s q)
  | exc x st => exact h
  | bad => exact h
end
abbrev RB : List Addr → Hp → Bool → Bool → Prop := fun _ _ a b => a = b

/-! ### judgements -/
def wE (X : Cx) (e : Expr) : TE := fun σ H Q => ∀ (pins : List (Addr × Obj)) (s : Shared), Inv X pins σ H s → wpAny (model X.prog X.w) X.A (eval e X.env) (EP X pins σ Q) X.xe s
def wT (X : Cx) (e : Expr) : TT := fun σ H Q => ∀ (pins : List (Addr × Obj)) (s : Shared), Inv X pins σ H s → wpAny (model X.prog X.w) X.A (isTrue e X.env (eval e X.env)) (TP X pins σ Q) X.xe s
def wW (X : Cx) (e : Expr) : TT := fun σ H Q => ∀ (whole : Sem Value) (pins : List (Addr × Obj)) (s : Shared), Inv X pins σ H s → wpAny (model X.prog X.w) X.A (isTrue e X.env whole) (TP X pins σ Q) X.xe s
def wA (X : Cx) (es : List Expr) : TA := fun σ H Q => ∀ (pos : Pos) (pins : List (Addr × Obj)) (s : Shared), Inv X pins σ H s → wpAny (model X.prog X.w) X.A (spliced (backTo pos (starEach es X.env))) (AP X pins σ Q) X.xe s
theorem peW {X : Cx} {e : Expr} : PE X e (wE X e) := ⟨fun pins s σ H Q I h => h pins s I⟩
theorem ptW {X : Cx} {e : Expr} : PT X e (wT X e) := ⟨fun pins s σ H Q I h => h pins s I⟩
theorem pwW {X : Cx} {e : Expr} : PW X e (wW X e) := ⟨fun wh pins s σ H Q I h => h wh pins s I⟩
theorem paW {X : Cx} {es : List Expr} : PA X es (wA X es) := ⟨fun pos pins s σ H Q I h => h pos pins s I⟩
/-- an expression -/
structure Ex (X : Cx) (W : WX) (e : Expr) (f : EM D) : Prop where
  run : ∀ (m : List Addr) (τ : Sl) (st : Store) (σ : L2.St) (H : Hp) (Q : VK), SL X.K m H τ σ → SS X.K m st H → Pe X.K (fun c d H' => W c d σ H') (RD X.K) m H (f τ st) Q → wE X e σ H Q
/-- a test -/
structure Et (X : Cx) (W : WX) (e : Expr) (f : EM Bool) : Prop where
  run : ∀ (m : List Addr) (τ : Sl) (st : Store) (σ : L2.St) (H : Hp) (Q : Bool → Hp → Prop), SL X.K m H τ σ → SS X.K m st H → Pe X.K (fun c d H' => W c d σ H') RB m H (f τ st) Q → wT X e σ H Q
/-- a test whatever its whole is -/
structure Ew (X : Cx) (W : WX) (e : Expr) (f : EM Bool) : Prop where
  run : ∀ (m : List Addr) (τ : Sl) (st : Store) (σ : L2.St) (H : Hp) (Q : Bool → Hp → Prop), SL X.K m H τ σ → SS X.K m st H → Pe X.K (fun c d H' => W c d σ H') RB m H (f τ st) Q → wW X e σ H Q
/-- arguments -/
structure Ea (X : Cx) (W : WX) (es : List Expr) (f : EM (List D)) : Prop where
  run : ∀ (m : List Addr) (τ : Sl) (st : Store) (σ : L2.St) (H : Hp) (Q : List V → Hp → Prop), SL X.K m H τ σ → SS X.K m st H → Pe X.K (fun c d H' => W c d σ H') (RDs X.K) m H (f τ st) Q → wA X es σ H Q
section
variable {X : Cx} {W : WX} {e a b c : Expr} {es rest : List Expr} {pos : Pos} {f fa fb fc : EM D} {fs : EM (List D)} {g : EM Bool}
theorem Ex.le {f' : EM D} (h : Ex X W e f) (hl : ∀ (m : List Addr) (τ : Sl) (st : Store) (H : Hp) (E : XK) (Q : VK), SS X.K m st H → Pe X.K E (RD X.K) m H (f' τ st) Q → Pe X.K E (RD X.K) m H (f τ st) Q) : Ex X W e f' :=
  ⟨fun m τ st σ H Q hL hS hP => h.run m τ st σ H Q hL hS (hl m τ st H _ Q hS hP)⟩

/-! ### names, constants -/
def eVar (i : Nat) : EM D := fun τ st => match τ[i]? with
  | some (some d) => .ok d st
  | _ => .bad
theorem ex_var {i : Nat} {x : Str} (hN : X.N[i]? = some x) (hv : Vis X.env.scope x) (hd : (x == ("__debug__" : Str)) = false := by decide) (hcd : (x == ("__classdict__" : Str)) = false := by decide) : Ex X W (.Name x pos) (eVar i) := by
  refine ⟨fun m τ st σ H Q hL hS hP pins s I => ?_⟩
  refine (pe_var hN hv hd hcd).run pins s σ H Q I ?_
  unfold eVar at hP
  split at hP
  · rename_i d hd
    obtain ⟨v, h1, h2⟩ := hL.get i d hd
    exact ⟨v, h1, hP.now hS h2⟩
  · exact hP.elim
theorem xv (i : Nat) {x : Str} (hN : X.N[i]? = some x := by rfl) (hv : Vis X.env.scope x := by first | exact Or.inl rfl | exact Or.inr (Or.inl rfl) | exact Or.inr (Or.inr rfl)) (hd : (x == ("__debug__" : Str)) = false := by decide)
    (hcd : (x == ("__classdict__" : Str)) = false := by decide) : Ex X W (.Name x pos) (eVar i) := ex_var hN hv hd hcd
def eC (d : D) : EM D := fun _ st => .ok d st
theorem ex_c {t : TE} {d : D} {v : V} (h : PE X e t) (ht : ∀ σ H Q, Q v H → t σ H Q) (r : ∀ m H, RD X.K m H d v) : Ex X W e (eC d) :=
  ⟨fun m τ st σ H Q hL hS hP pins s I => h.run pins s σ H Q I (ht _ _ _ (hP.now hS (r m H)))⟩
theorem ex_int {i j} : Ex X W (.Constant (.int i) j pos) (eC (.int i)) := ex_c pe_int (fun _ _ _ h => h) fun _ _ => .int i
theorem ex_bl {i j} : Ex X W (.Constant (.bool i) j pos) (eC (.bl i)) := ex_c pe_bl (fun _ _ _ h => h) fun _ _ => .bl i
theorem ex_non {j} : Ex X W (.Constant .none j pos) (eC .non) := ex_c pe_non (fun _ _ _ h => h) fun _ _ => .non
theorem ex_str {x : Str} {j} : Ex X W (.Constant (.str x) j pos) (eC (.str x.cps.toList)) := ex_c pe_str (fun _ _ _ h => h) fun _ _ => by
  have e : x = ⟨x.cps.toList.toArray⟩ := by simp
  exact e ▸ .str x.cps.toList
theorem ex_strc {x : Str} {j} (l : List Nat) (h : x.cps.toList = l) : Ex X W (.Constant (.str x) j pos) (eC (.str l)) := by
  subst h
  exact ex_str
/-- a module's constant -/
theorem ex_glob {x : Str} {v : V} {u : Value} {d : D} (hg : Gl X x) (hm : X.mg x = some u) (r : RelV v u) (rd : ∀ m H, RD X.K m H d v) (hd : (x == ("__debug__" : Str)) = false := by decide) : Ex X W (.Name x pos) (eC d) :=
  ex_c (pe_glob hg hm r hd) (fun _ _ _ h => h) rd
theorem ex_bltn {x : Str} {v : V} {u : Value} {d : D} (hg : Gl X x) (hm : X.mg x = none) (hv : bootBuiltins x = some u) (r : RelV v u) (rd : ∀ m H, RD X.K m H d v) (hn : x ≠ "__name__" := by decide) (hd : (x == ("__debug__" : Str)) = false := by decide) : Ex X W (.Name x pos) (eC d) :=
  ex_c (pe_bltn hg hm hv r hn hd) (fun _ _ _ h => h) rd

/-! ### operators -/
abbrev O1 := D → Store → ER D
abbrev O2 := D → D → Store → ER D
/-- a rule by values -/
def OpM (X : Cx) (W : WX) (f : Value → Value → Sem Value) (g : O2) : Prop :=
  ∀ (m : List Addr) (st : Store) (σ : L2.St) (H : Hp) (dx dy : D) (x y : V) (Q : VK), SS X.K m st H → RD X.K m H dx x → RD X.K m H dy y → Pe X.K (fun c d H' => W c d σ H') (RD X.K) m H (g dx dy st) Q →
    ∀ (pins : List (Addr × Obj)) (s : Shared) (v u : Value), Inv X pins σ H s → RelV x v → RelV y u → wpAny (model X.prog X.w) X.A (f v u) (EP X pins σ Q) X.xe s
theorem OpM.opr {F : Value → Value → Sem Value} {g : O2} (h : OpM X W F g) : OpR X F (fun x y H Q => ∀ (pins : List (Addr × Obj)) (s : Shared) (σ : L2.St) (v u : Value), Inv X pins σ H s → RelV x v → RelV y u → wpAny (model X.prog X.w) X.A (F v u) (EP X pins σ Q) X.xe s) :=
  fun pins s σ H x y v u Q I rx ry z => z pins s σ v u I rx ry
def eBin (g : O2) (fa fb : EM D) : EM D := fun τ st => (fa τ st).bind fun x s1 => (fb τ s1).bind fun y s2 => g x y s2
def wR2 (X : Cx) (f : Value → Value → Sem Value) (σ : L2.St) : R2 := fun x y H Q => ∀ (pins : List (Addr × Obj)) (s : Shared) (v u : Value), Inv X pins σ H s → RelV x v → RelV y u → wpAny (model X.prog X.w) X.A (f v u) (EP X pins σ Q) X.xe s
/-- two expressions in a row -/
theorem two {g : D → D → Store → ER α} {α' : Type} {RA : List Addr → Hp → α → α' → Prop} {Q : α' → Hp → Prop} (ha : Ex X W a fa) (hb : Ex X W b fb) {m : List Addr} {τ : Sl} {st : Store} {σ : L2.St} {H : Hp} (hL : SL X.K m H τ σ) (hS : SS X.K m st H)
    (hP : Pe X.K (fun c d H' => W c d σ H') RA m H ((fa τ st).bind fun x s1 => (fb τ s1).bind fun y s2 => g x y s2) Q) {R : V → V → Hp → Prop}
    (hk : ∀ (m2 : List Addr) (st2 : Store) (H2 : Hp) (dx dy : D) (x y : V), Ext X.K m H m2 H2 → SS X.K m2 st2 H2 → RD X.K m2 H2 dx x → RD X.K m2 H2 dy y → Pe X.K (fun c d H' => W c d σ H') RA m2 H2 (g dx dy st2) Q → R x y H2) :
    wE X a σ H fun x H1 => wE X b σ H1 fun y H2 => R x y H2 :=
  ha.run m τ st σ H _ hL hS (hP.bind fun dx s1 m1 H1 x e1 hS1 r1 hP1 => hb.run m1 τ s1 σ H1 _ (hL.mono e1) hS1 (hP1.bind fun dy s2 m2 H2 y e2 hS2 r2 hP2 => hk m2 s2 H2 dx dy x y (e1.trans e2) hS2 (r1.mono e2) r2 hP2))
theorem ex_op {op : Operator} {g : O2} (ho : OpM X W (binaryOp op) g) (ha : Ex X W a fa) (hb : Ex X W b fb) : Ex X W (.BinOp a op b pos) (eBin g fa fb) := by
  refine ⟨fun m τ st σ H Q hL hS hP pins s I => ?_⟩
  refine wpAny_BinOp (binT peW peW I (R := fun x y H2 => wR2 X (binaryOp op) σ x y H2 Q) (two ha hb hL hS hP fun m2 st2 H2 dx dy x y e2 hS2 r1 r2 hP2 pins s v u I rx ry => ho m2 st2 σ H2 dx dy x y Q hS2 r1 r2 hP2 pins s v u I rx ry) fun v u s2 x y H2 I2 rx ry q => q pins s2 v u I2 rx ry)
end
end HM

/-! HM, part 3: operators by values. -/
namespace HM
open PySem PySem.Spec PyProof.Rows L2
section
variable {X : Cx} {W : WX}
theorem opm_of {f : Value → Value → Sem Value} {r : R2} {g : O2} (hr : OpR X f r) (h : ∀ (m : List Addr) (st : Store) (H : Hp) (dx dy : D) (x y : V) (E : XK) (Q : VK), SS X.K m st H → RD X.K m H dx x → RD X.K m H dy y → Pe X.K E (RD X.K) m H (g dx dy st) Q → r x y H Q) : OpM X W f g :=
  fun m st σ H dx dy x y Q hS r1 r2 hP pins s v u I rx ry => hr pins s σ H x y v u Q I rx ry (h m st H dx dy x y _ Q hS r1 r2 hP)
end
section
variable {K : PySem.W.Frag} {E : XK} {m : List Addr} {st : Store} {H : Hp} {Q : VK}
/-- a new tuple -/
theorem Pe.tup {ds : List D} {vs : List V} (h : Pe K E (RD K) m H (.ok (.tup ds) st) Q) (s : SS K m st H) (r : RDs K m H ds vs) : ∀ p, H p = none → Q (.ref p) (upd H p (.tup vs)) := fun p hp =>
  h m _ _ (Ext.fresh hp) (s.fresh hp) (.tup (SqT.of upd_same) (r.mono (Ext.fresh hp)))
/-- a new list of the store's -/
theorem SS.app {c : Cell} {p : Addr} {o : HO} (s : SS K m st H) (hp : H p = none) (r : RC K (m ++ [p]) (upd H p o) p c) : SS K (m ++ [p]) (st ++ [c]) (upd H p o) :=
  (s.fresh hp).grow (s.notin hp) r
theorem Pe.lst {ds : List D} {vs : List V} (h : Pe K E (RD K) m H (.ok (.ref st.length) (st ++ [.lst ds])) Q) (s : SS K m st H) (r : RDs K m H ds vs) : ∀ p, H p = none → Q (.ref p) (upd H p (.lst vs)) := fun p hp => by
  refine h (m ++ [p]) _ _ (Ext.app hp) (s.app hp ⟨vs, upd_same, r.mono (Ext.app hp)⟩) (.ref ?_)
  rw [← s.len]
  simp
end
/-- the items of a list -/
def lstAt (st : Store) (n : Nat) : Option (List D) := match st[n]? with
  | some (.lst xs) => some xs
  | none => none
@[simp] theorem lstAt_app {st : Store} {xs : List D} : lstAt (st ++ [.lst xs]) st.length = some xs := by simp [lstAt]
theorem lstAt_left {st more : Store} {n : Nat} (h : n < st.length) : lstAt (st ++ more) n = lstAt st n := by
  unfold lstAt
  rw [List.getElem?_append_left h]
theorem SS.list {K : PySem.W.Frag} {m : List Addr} {st : Store} {H : Hp} {n : Nat} {xs : List D} {a : Addr} (s : SS K m st H) (h : lstAt st n = some xs) (e : m[n]? = some a) : ∃ vs, H a = some (.lst vs) ∧ RDs K m H xs vs := by
  unfold lstAt at h
  split at h
  · rename_i ys q
    cases h
    exact s.cel n _ a q e
  · cases h
theorem lstAt_lt {st : Store} {n : Nat} {xs : List D} (h : lstAt st n = some xs) : n < st.length := by
  unfold lstAt at h
  split at h
  · rename_i q
    exact (List.getElem?_eq_some_iff.mp q).1
  · cases h

/-! ### arithmetic -/
def oAdd : O2 := fun x y st => match x, y with
  | .int i, .int j => .ok (.int (i + j)) st
  | .str a, .str b => if a.length + b.length ≤ 16777216 then .ok (.str (a ++ b)) st else .bad
  | .tup a, .tup b => if a.length + b.length ≤ 16777216 then .ok (.tup (a ++ b)) st else .bad
  | .ref a, .ref b => match lstAt st a, lstAt st b with
    | some xs, some ys => if xs.length + ys.length ≤ 16777216 then .ok (.ref st.length) (st ++ [.lst (xs ++ ys)]) else .bad
    | _, _ => .bad
  | _, _ => .bad
def oInt (g : Int → Int → Int) : O2 := fun x y st => match x, y with
  | .int i, .int j => .ok (.int (g i j)) st
  | _, _ => .bad
def oIntC (C : Int → Int → Bool) (g : Int → Int → Int) : O2 := fun x y st => match x, y with
  | .int i, .int j => if C i j then .ok (.int (g i j)) st else .bad
  | _, _ => .bad
abbrev oSub : O2 := oInt fun i j => i - j
def oIAdd : O2 := fun x y st => match x, y with
  | .int i, .int j => .ok (.int (i + j)) st
  | .str a, .str b => if a.length + b.length ≤ 16777216 then .ok (.str (a ++ b)) st else .bad
  | _, _ => .bad
def okMul (i j : Int) : Bool := decide ((i.natAbs < 18446744073709551616 ∨ j.natAbs < 18446744073709551616) ∨ i.natAbs.log2 + j.natAbs.log2 < 1000000)
def okDiv (_ j : Int) : Bool := decide (j ≠ 0 ∧ j.natAbs.log2 < 9000)
def okMod (_ j : Int) : Bool := decide (j ≠ 0)
def okPow (i j : Int) : Bool := decide (0 ≤ j ∧ j ≤ 1000000 ∧ i.natAbs < 18446744073709551616)
def okShr (_ j : Int) : Bool := decide (0 ≤ j)
abbrev oMulI : O2 := oIntC okMul fun i j => i * j
abbrev oDiv : O2 := oIntC okDiv fun i j => i.fdiv j
abbrev oMod : O2 := oIntC okMod fun i j => i.fmod j
abbrev oPow : O2 := oIntC okPow fun i j => i ^ j.toNat
abbrev oShl : O2 := oIntC okPow fun i j => i * 2 ^ j.toNat
abbrev oShr : O2 := oIntC okShr fun i j => i / 2 ^ j.toNat
abbrev oAnd : O2 := oInt Builtin.bitAnd
section
variable {X : Cx} {W : WX}
theorem line_of {n : Nat} (h : n ≤ 16777216) : n ≤ sizeLine := by
  rw [PySem.sizeLine_eq]
  exact h
theorem op_add_all : OpR X (binaryOp .Add) (fun x y H Q => (rI0 (fun i j => .int (i + j)) x y H Q ∨ (∃ i j, x = .str i ∧ y = .str j ∧ i.length + j.length ≤ sizeLine ∧ Q (.str (i ++ j)) H)) ∨ (rCatA X.K x y H Q ∨ rCat x y H Q)) :=
  (op_add.or op_add_str).or (op_catA.or op_cat)
theorem m_add : OpM X W (binaryOp .Add) oAdd := opm_of op_add_all fun m st H dx dy x y E Q hS r1 r2 hP => by
  unfold oAdd at hP
  split at hP
  · cases r1
    cases r2
    exact .inl (.inl ⟨_, _, rfl, rfl, hP.now hS (.int _)⟩)
  · split at hP
    · rename_i hl
      cases r1
      cases r2
      refine .inl (.inr ⟨_, _, rfl, rfl, line_of hl, ?_⟩)
      have q := hP.now hS (.str _)
      have e : ∀ a b : List Nat, (⟨(a ++ b).toArray⟩ : PySem.Str) = (⟨a.toArray⟩ : PySem.Str) ++ (⟨b.toArray⟩ : PySem.Str) := fun a b => by
        show (⟨(a ++ b).toArray⟩ : PySem.Str) = ⟨a.toArray ++ b.toArray⟩
        simp
      rw [e] at q
      exact q
    · exact hP.elim
  · split at hP
    · rename_i a b hl
      cases r1 with
      | tup s1 h1 =>
        rename_i va
        cases r2 with
        | tup s2 h2 =>
          rename_i vb
          refine .inr (.inl ⟨_, _, _, _, rfl, rfl, s1, s2, line_of (by rw [← h1.len, ← h2.len]; exact hl), fun e => ?_, fun _ e => ?_, fun _ _ => ?_⟩)
          · subst e
            cases h1
            exact hP.now hS (.tup s2 h2)
          · subst e
            cases h2
            rw [List.append_nil] at hP
            exact hP.now hS (.tup s1 h1)
          · exact hP.tup hS (h1.append h2)
    · exact hP.elim
  · rename_i a b
    split at hP
    · rename_i xs ys ex ey
      split at hP
      · rename_i hl
        cases r1 with
        | ref e1 =>
          cases r2 with
          | ref e2 =>
            obtain ⟨va, ha, ra⟩ := hS.list ex e1
            obtain ⟨vb, hb, rb⟩ := hS.list ey e2
            exact .inr (.inr ⟨_, _, va, vb, rfl, rfl, ha, hb, line_of (by rw [← ra.len, ← rb.len]; exact hl), hP.lst hS (ra.append rb)⟩)
      · exact hP.elim
    · exact hP.elim
  · exact hP.elim
theorem m_int {f : Value → Value → Sem Value} {g : Int → Int → Int} (h : OpR X f (rI0 fun i j => .int (g i j))) : OpM X W f (oInt g) := opm_of h fun m st H dx dy x y E Q hS r1 r2 hP => by
  unfold oInt at hP
  split at hP
  · cases r1
    cases r2
    exact ⟨_, _, rfl, rfl, hP.now hS (.int _)⟩
  · exact hP.elim
theorem m_intC {f : Value → Value → Sem Value} {C : Int → Int → Bool} {C' : Int → Int → Prop} {g : Int → Int → Int} (h : OpR X f (rI C' fun i j => .int (g i j))) (hC : ∀ i j, C i j = true → C' i j) : OpM X W f (oIntC C g) := opm_of h fun m st H dx dy x y E Q hS r1 r2 hP => by
  unfold oIntC at hP
  split at hP
  · split at hP
    · rename_i hc
      cases r1
      cases r2
      exact ⟨_, _, rfl, rfl, hC _ _ hc, hP.now hS (.int _)⟩
    · exact hP.elim
  · exact hP.elim
theorem m_sub : OpM X W (binaryOp .Sub) oSub := m_int op_sub
theorem op_mulAny : OpR X (binaryOp .Mult) (rI IntMulOk fun i j => .int (i * j)) := opI fun _ _ _ _ _ _ _ hc q => mul_int q hc
theorem m_mulI : OpM X W (binaryOp .Mult) oMulI := m_intC op_mulAny fun i j h => by
  have q : (i.natAbs < 18446744073709551616 ∨ j.natAbs < 18446744073709551616) ∨ i.natAbs.log2 + j.natAbs.log2 < 1000000 := of_decide_eq_true h
  rcases q with (q | q) | q
  · exact CMul.ok (.inl (by omega))
  · exact CMul.ok (.inr (by omega))
  · exact CMulW.ok q
theorem op_fdivAny : OpR X (binaryOp .FloorDiv) (rI (fun _ j => j ≠ 0 ∧ j.natAbs.log2 < 9000) fun i j => .int (i.fdiv j)) := opI fun _ _ _ _ _ _ _ hc q => floordiv_int hc.1 q (.inl (PyProof.noPylong_of_log2 hc.2))
theorem m_div : OpM X W (binaryOp .FloorDiv) oDiv := m_intC op_fdivAny fun i j h => of_decide_eq_true h
theorem m_mod : OpM X W (binaryOp .Mod) oMod := m_intC op_modN fun i j h => of_decide_eq_true h
theorem ok_pow {i j : Int} (h : okPow i j = true) : CPow i j := by
  have q : 0 ≤ j ∧ j ≤ 1000000 ∧ i.natAbs < 18446744073709551616 := of_decide_eq_true h
  exact q
theorem m_pow : OpM X W (binaryOp .Pow) oPow := m_intC op_pow fun i j h => ok_pow h
theorem m_shl : OpM X W (binaryOp .LShift) oShl := m_intC op_shl fun i j h => ok_pow h
theorem m_shr : OpM X W (binaryOp .RShift) oShr := m_intC op_shr fun i j h => of_decide_eq_true h
theorem m_and : OpM X W (binaryOp .BitAnd) oAnd := m_int op_and
/-- in place -/
theorem mi_add : OpM X W (inplaceOp .Add) oIAdd := opm_of (iop_add.or iop_add_str) fun m st H dx dy x y E Q hS r1 r2 hP => by
  unfold oIAdd at hP
  split at hP
  · cases r1
    cases r2
    exact .inl ⟨_, _, rfl, rfl, hP.now hS (.int _)⟩
  · split at hP
    · rename_i hl
      cases r1
      cases r2
      refine .inr ⟨_, _, rfl, rfl, line_of hl, ?_⟩
      have q := hP.now hS (.str _)
      have e : ∀ a b : List Nat, (⟨(a ++ b).toArray⟩ : PySem.Str) = (⟨a.toArray⟩ : PySem.Str) ++ (⟨b.toArray⟩ : PySem.Str) := fun a b => by
        show (⟨(a ++ b).toArray⟩ : PySem.Str) = ⟨a.toArray ++ b.toArray⟩
        simp
      rw [e] at q
      exact q
    · exact hP.elim
  · exact hP.elim
theorem mi_sub : OpM X W (inplaceOp .Sub) oSub := m_int iop_sub
end

/-! ### == by what is data -/
def D.plain : Nat → D → Bool
  | _, .non => true
  | _, .int _ => true
  | _, .str x => x.all fun c => decide (c < 1114112)
  | 0, .tup _ => false
  | n + 1, .tup xs => xs.all (D.plain n)
  | _, _ => false
def D.toP : Nat → D → PyData
  | _, .int i => .int i
  | _, .str x => .str ⟨x.toArray⟩
  | n + 1, .tup xs => .tuple (xs.map (D.toP n))
  | _, .bl b => .bool b
  | _, _ => .none
theorem plain_all {K : PySem.W.Frag} {m : List Addr} {H : Hp} {n : Nat} (ih : ∀ (d : D) (v : V), d.plain n = true → RD K m H d v → Dp K H v (d.toP n) ∧ (d.toP n).canLay0 = true ∧ (d.toP n).depth ≤ n) : ∀ (ds : List D) (vs : List V), ds.all (D.plain n) = true → RDs K m H ds vs →
    DpAll K H vs (ds.map (D.toP n)) ∧ PyData.canLayAll0 (ds.map (D.toP n)) = true ∧ PyData.depthAll (ds.map (D.toP n)) ≤ n
  | [], _, _, r => by
    cases r
    exact ⟨.nil, by simp [PyData.canLayAll0], by simp [PyData.depthAll]⟩
  | d :: ds, _, h, r => by
    cases r with
    | cons r1 r2 =>
      rw [List.all_cons, Bool.and_eq_true] at h
      obtain ⟨a1, a2, a3⟩ := ih d _ h.1 r1
      obtain ⟨b1, b2, b3⟩ := plain_all ih ds _ h.2 r2
      refine ⟨.cons a1 b1, ?_, ?_⟩
      · simp only [List.map_cons, PyData.canLayAll0, a2, b2, Bool.and_self]
      · simp only [List.map_cons, PyData.depthAll]
        omega
theorem str_ok {x : List Nat} {n : Nat} (h : (x.all fun c => decide (c < 1114112)) = true) : ((D.str x).toP n).canLay0 = true := by
  have e : (D.str x).toP n = .str ⟨x.toArray⟩ := by cases n <;> rfl
  rw [e]
  simp only [PyData.canLay0, PyData.strOk]
  simpa using h
theorem plain_dp {K : PySem.W.Frag} {m : List Addr} {H : Hp} : ∀ (n : Nat) (d : D) (v : V), d.plain n = true → RD K m H d v → Dp K H v (d.toP n) ∧ (d.toP n).canLay0 = true ∧ (d.toP n).depth ≤ n := by
  intro n
  induction n with
  | zero =>
    intro d v h r
    cases r <;> simp [D.plain] at h
    · exact ⟨.non, by simp [D.toP, PyData.canLay0], by simp [D.toP, PyData.depth]⟩
    · exact ⟨.int _, by simp [D.toP, PyData.canLay0], by simp [D.toP, PyData.depth]⟩
    · exact ⟨.str _, str_ok (by simpa using h), by simp [D.toP, PyData.depth]⟩
  | succ n ih =>
    intro d v h r
    cases r with
    | non => exact ⟨.non, by simp [D.toP, PyData.canLay0], by simp [D.toP, PyData.depth]⟩
    | int i => exact ⟨.int _, by simp [D.toP, PyData.canLay0], by simp [D.toP, PyData.depth]⟩
    | str x => exact ⟨.str _, str_ok h, by simp [D.toP, PyData.depth]⟩
    | tup s rs =>
      rename_i a vs ds
      obtain ⟨b1, b2, b3⟩ := plain_all ih ds vs h rs
      refine ⟨.tup s b1, by simpa only [D.toP, PyData.canLay0] using b2, ?_⟩
      simp only [D.toP, PyData.depth]
      omega
    | _ => simp [D.plain] at h
theorem eqvAll_map {n : Nat} (ih : ∀ x y : D, x.plain n = true → y.plain n = true → PyData.eqv (x.toP n) (y.toP n) = decide (x = y)) : ∀ xs ys : List D, xs.all (D.plain n) = true → ys.all (D.plain n) = true → PyData.eqvAll (xs.map (D.toP n)) (ys.map (D.toP n)) = decide (xs = ys)
  | [], [], _, _ => by simp [PyData.eqvAll]
  | [], _ :: _, _, _ => by simp [PyData.eqvAll]
  | _ :: _, [], _, _ => by simp [PyData.eqvAll]
  | x :: xs, y :: ys, h1, h2 => by
    rw [List.all_cons, Bool.and_eq_true] at h1 h2
    simp only [List.map_cons, PyData.eqvAll, ih x y h1.1 h2.1, eqvAll_map ih xs ys h1.2 h2.2, List.cons.injEq, Bool.decide_and]
theorem eqv_plain : ∀ (n : Nat) (x y : D), x.plain n = true → y.plain n = true → PyData.eqv (x.toP n) (y.toP n) = decide (x = y) := by
  intro n
  induction n with
  | zero =>
    intro x y h1 h2
    cases x <;> simp [D.plain] at h1 <;> cases y <;> simp [D.plain] at h2 <;> simp [D.toP, PyData.eqv]
    all_goals first | rfl | (rw [Bool.eq_iff_iff]; simp)
  | succ n ih =>
    intro x y h1 h2
    cases x <;> simp only [D.plain, Bool.false_eq_true] at h1 <;> cases y <;> simp only [D.plain, Bool.false_eq_true] at h2 <;> first
      | (simp only [D.toP, PyData.eqv, D.tup.injEq]; exact eqvAll_map ih _ _ h1 h2)
      | (simp only [D.toP, PyData.eqv]; first | rfl | (rw [Bool.eq_iff_iff]; simp))
/-- a value as data that == compares: one by itself, or a list -/
def D.pd (st : Store) (d : D) : Option (D ⊕ List D) := match d with
  | .ref n => match lstAt st n with
    | some xs => if xs.all (D.plain 59) then some (.inr xs) else none
    | none => none
  | .rol xs => if xs.all (D.plain 59) then some (.inr xs) else none
  | d => if d.plain 60 then some (.inl d) else none
def pdP : D ⊕ List D → PyData
  | .inl d => d.toP 60
  | .inr xs => .list (xs.map (D.toP 59))
theorem pd_dp {K : PySem.W.Frag} {m : List Addr} {st : Store} {H : Hp} {d : D} {v : V} {p : D ⊕ List D} (s : SS K m st H) (h : d.pd st = some p) (r : RD K m H d v) : Dp K H v (pdP p) ∧ SeqAt.shaped (pdP p) = true := by
  have fin : ∀ {q : PyData}, q.canLay0 = true → q.depth ≤ 60 → SeqAt.shaped q = true := fun {q} h1 h2 => by
    unfold SeqAt.shaped
    rw [h1, Bool.true_and, decide_eq_true_eq]
    omega
  have one : ∀ {d : D}, RD K m H d v → d.plain 60 = true → Dp K H v (d.toP 60) ∧ SeqAt.shaped (d.toP 60) = true := fun {d} r h => by
    obtain ⟨a, b, c⟩ := plain_dp 60 d v h r
    exact ⟨a, fin b c⟩
  have lst : ∀ {xs : List D} {vs : List V} {a : Addr}, SqL K H a vs → RDs K m H xs vs → xs.all (D.plain 59) = true → Dp K H (.ref a) (.list (xs.map (D.toP 59))) ∧ SeqAt.shaped (.list (xs.map (D.toP 59))) = true := fun {xs vs a} hl rs h => by
    obtain ⟨a, b, c⟩ := plain_all (plain_dp 59) xs vs h rs
    refine ⟨.lst hl a, fin (by simpa only [PyData.canLay0] using b) ?_⟩
    simp only [PyData.depth]
    omega
  unfold D.pd at h
  split at h
  · split at h
    · split at h
      · rename_i n _ xs e ha
        cases h
        cases r with
        | ref q =>
          obtain ⟨vs, h1, h2⟩ := s.list e q
          exact lst (SqL.of h1) h2 ha
      · cases h
    · cases h
  · split at h
    · rename_i ha
      cases h
      cases r with
      | rol q rs => exact lst q.sq rs ha
    · cases h
  · split at h
    · rename_i ha
      cases h
      exact one r ha
    · cases h
theorem pd_ok {st : Store} {d : D} {p : D ⊕ List D} (h : d.pd st = some p) : (∃ e : D, p = .inl e ∧ e.plain 60 = true) ∨ ∃ xs : List D, p = .inr xs ∧ xs.all (D.plain 59) = true := by
  unfold D.pd at h
  split at h
  · split at h
    · split at h
      · cases h
        exact .inr ⟨_, rfl, by assumption⟩
      · cases h
    · cases h
  · split at h
    · cases h
      exact .inr ⟨_, rfl, by assumption⟩
    · cases h
  · split at h
    · cases h
      exact .inl ⟨_, rfl, by assumption⟩
    · cases h
theorem pd_eqv {st st' : Store} {d e : D} {p q : D ⊕ List D} (h : d.pd st = some p) (h' : e.pd st' = some q) : PyData.eqv (pdP p) (pdP q) = decide (p = q) := by
  rcases pd_ok h with ⟨x, rfl, hx⟩ | ⟨xs, rfl, hx⟩
  · rcases pd_ok h' with ⟨y, rfl, hy⟩ | ⟨ys, rfl, hy⟩
    · show PyData.eqv (x.toP 60) (y.toP 60) = _
      rw [eqv_plain 60 x y hx hy]
      simp
    · show PyData.eqv (x.toP 60) _ = _
      cases x <;> simp [D.plain] at hx <;> simp [D.toP, pdP, PyData.eqv]
  · rcases pd_ok h' with ⟨y, rfl, hy⟩ | ⟨ys, rfl, hy⟩
    · show PyData.eqv _ (y.toP 60) = _
      cases y <;> simp [D.plain] at hy <;> simp [D.toP, pdP, PyData.eqv]
    · show PyData.eqvAll (xs.map (D.toP 59)) (ys.map (D.toP 59)) = _
      rw [eqvAll_map (eqv_plain 59) xs ys hx hy]
      simp
def dEq (x y : D) (st : Store) : Option Bool := match x, y with
  | .str a, .str b => some (decide (a = b))
  | .bl a, .bl b => some (decide (a = b))
  | .int a, .int b => some (decide (a = b))
  | .bl a, .int b => some (decide ((if a then 1 else 0) = b))
  | .int a, .bl b => some (decide (a = (if b then 1 else 0)))
  | x, y => match x.pd st, y.pd st with
    | some p, some q => some (decide (p = q))
    | _, _ => none
def oEq : O2 := fun x y st => match dEq x y st with
  | some b => .ok (.bl b) st
  | none => .bad
def oNe : O2 := fun x y st => match dEq x y st with
  | some b => .ok (.bl !b) st
  | none => .bad
section
variable {X : Cx} {W : WX}
theorem m_eqB {op : CmpOp} {neg : Bool → Bool} {r1 r2 : R2} (h1 : OpR X (compareOp op) r1) (h2 : OpR X (compareOp op) r2) (s1 : ∀ x y H Q, scal x y = true → Q (.bl (neg (decide (x = y)))) H → r1 x y H Q)
    (s2 : ∀ x y H Q d e, Dp X.K H x d → Dp X.K H y e → SeqAt.shaped d = true → SeqAt.shaped e = true → Q (.bl (neg (PyData.eqv d e))) H → r2 x y H Q) : OpM X W (compareOp op) (fun x y st => match dEq x y st with
    | some b => .ok (.bl (neg b)) st
    | none => .bad) := opm_of (h1.or h2) fun m st H dx dy x y E Q hS ra rb hP => by
  split at hP
  · rename_i b hb
    have q := hP.now hS (.bl _)
    unfold dEq at hb
    split at hb
    · cases ra
      cases rb
      cases hb
      refine .inl (s1 _ _ _ _ rfl ?_)
      simpa using q
    · cases ra
      cases rb
      cases hb
      refine .inl (s1 _ _ _ _ rfl ?_)
      simpa using q
    · cases ra
      cases rb
      cases hb
      refine .inl (s1 _ _ _ _ rfl ?_)
      simpa using q
    · cases ra
      cases rb
      cases hb
      refine .inr (s2 _ _ _ _ _ _ (.bl _) (.int _) rfl rfl ?_)
      simpa [PyData.eqv, Bool.beq_eq_decide_eq] using q
    · cases ra
      cases rb
      cases hb
      refine .inr (s2 _ _ _ _ _ _ (.int _) (.bl _) rfl rfl ?_)
      simpa [PyData.eqv, Bool.beq_eq_decide_eq] using q
    · split at hb
      · rename_i p q' e1 e2
        cases hb
        obtain ⟨a1, a2⟩ := pd_dp hS e1 ra
        obtain ⟨b1, b2⟩ := pd_dp hS e2 rb
        refine .inr (s2 _ _ _ _ _ _ a1 b1 a2 b2 ?_)
        rw [pd_eqv e1 e2]
        exact q
      · cases hb
  · exact hP.elim
theorem m_eq (hu : X.A.units + 64 < cLine) : OpM X W (compareOp .Eq) oEq := m_eqB (neg := id) op_eq (op_eqD hu) (fun x y H Q h q => ⟨h, q⟩) fun x y H Q d e h1 h2 h3 h4 q => ⟨d, e, h1, h2, h3, h4, q⟩
theorem m_ne (hu : X.A.units + 64 < cLine) : OpM X W (compareOp .NotEq) oNe := m_eqB (neg := Bool.not) op_ne (op_neD hu) (fun x y H Q h q => ⟨h, q⟩) fun x y H Q d e h1 h2 h3 h4 q => ⟨d, e, h1, h2, h3, h4, q⟩
/-! ### order of ints, is -/
def oCmp (g : Int → Int → Bool) : O2 := fun x y st => match x, y with
  | .int i, .int j => .ok (.bl (g i j)) st
  | _, _ => .bad
theorem m_cmp {f : Value → Value → Sem Value} {g : Int → Int → Bool} (h : OpR X f (rI0 fun i j => .bl (g i j))) : OpM X W f (oCmp g) := opm_of h fun m st H dx dy x y E Q hS r1 r2 hP => by
  unfold oCmp at hP
  split at hP
  · cases r1
    cases r2
    exact ⟨_, _, rfl, rfl, hP.now hS (.bl _)⟩
  · exact hP.elim
abbrev oLt : O2 := oCmp fun i j => decide (i < j)
abbrev oLe : O2 := oCmp fun i j => decide (i ≤ j)
abbrev oGt : O2 := oCmp fun i j => decide (j < i)
abbrev oGe : O2 := oCmp fun i j => decide (j ≤ i)
theorem m_lt : OpM X W (compareOp .Lt) oLt := m_cmp op_lt
theorem m_le : OpM X W (compareOp .LtE) oLe := m_cmp op_le
theorem m_gt : OpM X W (compareOp .Gt) oGt := m_cmp op_gt
theorem m_ge : OpM X W (compareOp .GtE) oGe := m_cmp op_ge
def dIs (x y : D) : Option Bool := match x, y with
  | .non, .non => some true
  | .bl _, .non | .int _, .non | .str _, .non | .tup _, .non | .ref _, .non | .rol _, .non => some false
  | .bl a, .bl b => some (decide (a = b))
  | _, _ => none
def oIs : O2 := fun x y st => match dIs x y with
  | some b => .ok (.bl b) st
  | none => .bad
def oIsNot : O2 := fun x y st => match dIs x y with
  | some b => .ok (.bl !b) st
  | none => .bad
theorem m_isB {op : CmpOp} {neg : Bool → Bool} {r1 r2 : R2} (h1 : OpR X (compareOp op) r1) (h2 : OpR X (compareOp op) r2) (s1 : ∀ x H (Q : VK), Q (.bl (neg (decide (x = .non)))) H → r1 x .non H Q)
    (s2 : ∀ a b H (Q : VK), Q (.bl (neg (decide (a = b)))) H → r2 (.bl a) (.bl b) H Q) : OpM X W (compareOp op) (fun x y st => match dIs x y with
    | some b => .ok (.bl (neg b)) st
    | none => .bad) := opm_of (h1.or h2) fun m st H dx dy x y E Q hS ra rb hP => by
  split at hP
  · rename_i b hb
    have q := hP.now hS (.bl _)
    unfold dIs at hb
    split at hb <;> cases hb <;> cases ra <;> cases rb <;> first | exact .inl (s1 _ _ _ q) | exact .inr (s2 _ _ _ _ q)
  · exact hP.elim
theorem m_is : OpM X W (compareOp .Is) oIs := m_isB (neg := id) op_isN op_is_bl (fun x H Q q => ⟨rfl, q⟩) fun a b H Q q => ⟨_, _, rfl, rfl, q⟩
theorem m_isnot : OpM X W (compareOp .IsNot) oIsNot := m_isB (neg := Bool.not) op_notN op_isnot_bl (fun x H Q q => ⟨rfl, q⟩) fun a b H Q q => ⟨_, _, rfl, rfl, q⟩
end
end HM

/-! HM, part 4: expressions. -/
namespace HM
open PySem PySem.Spec PyProof.Rows L2
section
variable {X : Cx} {W : WX} {e a b c : Expr} {es rest : List Expr} {pos : Pos} {f fa fb fc : EM D} {fs : EM (List D)} {g ga gb : EM Bool}

/-! ### unary, comparisons -/
def eUn (o : O1) (fa : EM D) : EM D := fun τ st => (fa τ st).bind o
def UnM (X : Cx) (W : WX) (F : Value → Sem Value) (g : O1) : Prop :=
  ∀ (m : List Addr) (st : Store) (σ : L2.St) (H : Hp) (dx : D) (x : V) (Q : VK), SS X.K m st H → RD X.K m H dx x → Pe X.K (fun c d H' => W c d σ H') (RD X.K) m H (g dx st) Q →
    ∀ (pins : List (Addr × Obj)) (s : Shared) (v : Value), Inv X pins σ H s → RelV x v → wpAny (model X.prog X.w) X.A (F v) (EP X pins σ Q) X.xe s
theorem ex_un {op : UnaryOp} {o : O1} (ho : UnM X W (unaryOp op) o) (ha : Ex X W a fa) : Ex X W (.UnaryOp op a pos) (eUn o fa) := by
  refine ⟨fun m τ st σ H Q hL hS hP pins s I => ?_⟩
  refine UnaryOp_ (thn (ha.run m τ st σ H (fun x H1 => ∀ (pins : List (Addr × Obj)) (s : Shared) (v : Value), Inv X pins σ H1 s → RelV x v → wpAny (model X.prog X.w) X.A (unaryOp op v) (EP X pins σ Q) X.xe s) hL hS (hP.bind fun dx s1 m1 H1 x e1 hS1 r1 hP1 pins s v I rx => ho m1 s1 σ H1 dx x Q hS1 r1 hP1 pins s v I rx) pins s I) fun v s1 ⟨x, H1, I1, r1, q1⟩ => q1 pins s1 v I1 r1)
def oNeg : O1 := fun x st => match x with
  | .int i => .ok (.int (-i)) st
  | _ => .bad
theorem m_neg : UnM X W (unaryOp .USub) oNeg := fun m st σ H dx x Q hS r hP pins s v I rx => by
  unfold oNeg at hP
  split at hP
  · cases r
    exact un_neg pins s σ H _ v Q I rx ⟨_, rfl, hP.now hS (.int _)⟩
  · exact hP.elim
theorem ex_cmp {op : CmpOp} {o : O2} (ho : OpM X W (compareOp op) o) (ha : Ex X W a fa) (hb : Ex X W b fb) (hm : behindInMarks op b = false) : Ex X W (.Compare a [op] [b] pos) (eBin o fa fb) := by
  refine ⟨fun m τ st σ H Q hL hS hP pins s I => ?_⟩
  exact wpAny_Compare1 (binT peW peW I (R := fun x y H2 => wR2 X (compareOp op) σ x y H2 Q) (two ha hb hL hS hP fun m2 st2 H2 dx dy x y e2 hS2 r1 r2 hP2 pins s v u I rx ry => ho m2 st2 σ H2 dx dy x y Q hS2 r1 r2 hP2 pins s v u I rx ry) fun v u s2 x y H2 I2 rx ry q => q pins s2 v u I2 rx ry) hm
/-- a bool as a test -/
def dBl (x : D) (st : Store) : ER Bool := match x with
  | .bl b => .ok b st
  | _ => .bad
def tBl (fa : EM D) : EM Bool := fun τ st => (fa τ st).bind dBl
theorem bl_post {K : PySem.W.Frag} {E : XK} {m : List Addr} {H : Hp} {dx : D} {s1 : Store} {x : V} {Q : Bool → Hp → Prop} (hS : SS K m s1 H) (r : RD K m H dx x) (hP : Pe K E RB m H (dBl dx s1) Q) : ∃ k, x = .bl k ∧ Q k H := by
  unfold dBl at hP
  split at hP
  · cases r
    exact ⟨_, rfl, hP.now hS rfl⟩
  · exact hP.elim
theorem et_cmp {op : CmpOp} {o : O2} (ho : OpM X W (compareOp op) o) (ha : Ex X W a fa) (hb : Ex X W b fb) (hm : behindInMarks op b = false) : Et X W (.Compare a [op] [b] pos) (tBl (eBin o fa fb)) := by
  refine ⟨fun m τ st σ H Q hL hS hP pins s I => ?_⟩
  have q : wE X (.Compare a [op] [b] pos) σ H fun x H1 => ∃ k, x = .bl k ∧ Q k H1 := (ex_cmp ho ha hb hm).run m τ st σ H _ hL hS (hP.bind fun dx s1 m1 H1 x e1 hS1 r1 hP1 => bl_post hS1 r1 hP1)
  refine wpAny_isTrue_Compare1 (binT peW peW I (R := fun x y H2 => wR2 X (compareOp op) σ x y H2 fun x H1 => ∃ k, x = .bl k ∧ Q k H1) ?_ fun v u s2 x y H2 I2 rx ry q => thn (q pins s2 v u I2 rx ry) fun c s3 ⟨x, H1, I1, r1, q1⟩ => ?_) hm
  · have hP' : Pe X.K (fun c d H' => W c d σ H') (RD X.K) m H (eBin o fa fb τ st) fun x H1 => ∃ k, x = .bl k ∧ Q k H1 := hP.bind fun dx s1 m1 H1 x e1 hS1 r1 hP1 => bl_post hS1 r1 hP1
    exact two ha hb hL hS hP' fun m2 st2 H2 dx dy x y e2 hS2 r1 r2 hP2 pins s v u I rx ry => ho m2 st2 σ H2 dx dy x y _ hS2 r1 r2 hP2 pins s v u I rx ry
  · obtain ⟨k, rfl, q1⟩ := q1
    cases r1
    exact wpAny_truthy_bool ⟨H1, I1, q1⟩
/-- a chain of two comparisons -/
def eChain (o o' : O2) (fa fb fc : EM D) : EM D := fun τ st => (fa τ st).bind fun x s1 => (fb τ s1).bind fun y s2 => (o x y s2).bind fun z s3 => match z with
  | .bl true => (fc τ s3).bind fun w s4 => o' y w s4
  | .bl false => .ok (.bl false) s3
  | _ => .bad
theorem chain_read {op op' : CmpOp} {o o' : O2} (ho : OpM X W (compareOp op) o) (ho' : OpM X W (compareOp op') o') (ha : Ex X W a fa) (hb : Ex X W b fb) (hc : Ex X W c fc) {m : List Addr} {τ : Sl} {st : Store} {σ : L2.St} {H : Hp} {Q : VK} (hL : SL X.K m H τ σ) (hS : SS X.K m st H)
    (hP : Pe X.K (fun c d H' => W c d σ H') (RD X.K) m H (eChain o o' fa fb fc τ st) Q) : tChain (fun x y H Q => wR2 X (compareOp op) σ x y H Q) (fun x y H Q => wR2 X (compareOp op') σ x y H Q) (wE X a) (wE X b) (wE X c) σ H Q := by
  refine two ha hb hL hS hP fun m2 st2 H2 dx dy x y e2 hS2 r1 r2 hP2 pins s v u I rx ry => ?_
  refine ho m2 st2 σ H2 dx dy x y _ hS2 r1 r2 (hP2.bind fun dz s3 m3 H3 z e3 hS3 r3 hP3 => ?_) pins s v u I rx ry
  split at hP3
  · cases r3
    refine ⟨true, rfl, ?_⟩
    rw [if_pos rfl]
    exact hc.run m3 τ s3 σ H3 _ (hL.mono (e2.trans e3)) hS3 (hP3.bind fun dw s4 m4 H4 w e4 hS4 r4 hP4 pins s v u I rx ry => ho' m4 s4 σ H4 dy dw y w Q hS4 ((r2.mono e3).mono e4) r4 hP4 pins s v u I rx ry)
  · cases r3
    refine ⟨false, rfl, ?_⟩
    rw [if_neg Bool.false_ne_true]
    exact hP3.now hS3 (.bl _)
  · exact hP3.elim
/-- a rule of the layer's whose premises may speak of the slots at hand -/
theorem oprS {F : Value → Value → Sem Value} {σ : L2.St} : ∀ (pins : List (Addr × Obj)) (s : Shared) (H : Hp) (x y : V) (v u : Value) (Q : VK), Inv X pins σ H s → RelV x v → RelV y u → wR2 X F σ x y H Q → wpAny (model X.prog X.w) X.A (F v u) (EP X pins σ Q) X.xe s :=
  fun pins s H x y v u Q I rx ry q => q pins s v u I rx ry
theorem ex_chain {op op' : CmpOp} {o o' : O2} (ho : OpM X W (compareOp op) o) (ho' : OpM X W (compareOp op') o') (ha : Ex X W a fa) (hb : Ex X W b fb) (hc : Ex X W c fc) (hm : lastMarks [op, op'] [b, c] = false := by with_unfolding_all rfl) : Ex X W (.Compare a [op, op'] [b, c] pos) (eChain o o' fa fb fc) := by
  refine ⟨fun m τ st σ H Q hL hS hP pins s I => ?_⟩
  have h := chain_read ho ho' ha hb hc hL hS hP
  refine Compare_chain (thn (peW.run pins s σ H _ I h) fun v s1 ⟨x, H1, I1, r1, q1⟩ => chain_link (thn (peW.run pins s1 σ H1 _ I1 q1) fun u s2 ⟨y, H2, I2, r2, q2⟩ =>
    thn (q2 pins s2 v u I2 r1 r2) fun d s3 ⟨z, H3, I3, r3, k, e, q3⟩ => ?_)) hm
  subst e
  cases r3
  refine wpAny_truthy_bool ?_
  cases k with
  | false => exact ite_ff ⟨.bl false, H3, I3, rfl, q3⟩
  | true => exact ite_tt (chain_last (thn (peW.run pins s3 σ H3 _ I3 q3) fun w' s4 ⟨z', H4, I4, r4, q4⟩ => q4 pins s4 u w' I4 r2 r4))
theorem et_chain {op op' : CmpOp} {o o' : O2} (ho : OpM X W (compareOp op) o) (ho' : OpM X W (compareOp op') o') (ha : Ex X W a fa) (hb : Ex X W b fb) (hc : Ex X W c fc) (hm : lastMarks [op, op'] [b, c] = false := by with_unfolding_all rfl) : Et X W (.Compare a [op, op'] [b, c] pos) (tBl (eChain o o' fa fb fc)) := by
  refine ⟨fun m τ st σ H Q hL hS hP pins s I => ?_⟩
  have hP' : Pe X.K (fun c d H' => W c d σ H') (RD X.K) m H (eChain o o' fa fb fc τ st) fun x H1 => ∃ k, x = .bl k ∧ Q k H1 := hP.bind fun dx s1 m1 H1 x e1 hS1 r1 hP1 => bl_post hS1 r1 hP1
  have h := chain_read ho ho' ha hb hc hL hS hP'
  refine isTrue_chain (thn (peW.run pins s σ H _ I h) fun v s1 ⟨x, H1, I1, r1, q1⟩ => test_link (thn (peW.run pins s1 σ H1 _ I1 q1) fun u s2 ⟨y, H2, I2, r2, q2⟩ =>
    thn (q2 pins s2 v u I2 r1 r2) fun d s3 ⟨z, H3, I3, r3, k, e, q3⟩ => ?_)) hm
  subst e
  cases r3
  refine wpAny_truthy_bool ?_
  cases k with
  | false =>
    obtain ⟨k', e', q'⟩ := q3
    cases e'
    exact ite_ff ⟨H3, I3, q'⟩
  | true =>
    refine ite_tt (test_last (thn (peW.run pins s3 σ H3 _ I3 q3) fun w' s4 ⟨z', H4, I4, r4, q4⟩ => thn (q4 pins s4 u w' I4 r2 r4) fun d' s5 ⟨z2, H5, I5, r5, k2, e2, q5⟩ => ?_))
    subst e2
    cases r5
    exact wpAny_truthy_bool ⟨H5, I5, q5⟩

/-! ### tests -/
/-- a value's truth -/
def dTru (st : Store) : D → Option Bool
  | .non => some false
  | .bl b => some b
  | .int i => some (i != 0)
  | .str x => if x.length ≤ 16777216 then some (!x.isEmpty) else none
  | .tup xs => some (!xs.isEmpty)
  | .rol xs => some (!xs.isEmpty)
  | .ref n => (lstAt st n).map fun xs => !xs.isEmpty
  | _ => none
def tVal (fa : EM D) : EM Bool := fun τ st => (fa τ st).bind fun x s1 => match dTru s1 x with
  | some b => .ok b s1
  | none => .bad
theorem empty_of {K : PySem.W.Frag} {m : List Addr} {H : Hp} {ds : List D} {vs : List V} (r : RDs K m H ds vs) : ds.isEmpty = vs.isEmpty := by
  cases r <;> rfl
theorem tru_read {K : PySem.W.Frag} {m : List Addr} {st : Store} {H : Hp} {d : D} {v : V} {b : Bool} (s : SS K m st H) (h : dTru st d = some b) (r : RD K m H d v) : TruV K v H b := by
  cases r with
  | non =>
    cases h
    exact rfl
  | bl b =>
    cases h
    exact rfl
  | int i =>
    cases h
    exact rfl
  | str x =>
    have h : (if x.length ≤ 16777216 then some (!x.isEmpty) else none) = some b := h
    split at h
    · rename_i hl
      cases h
      refine ⟨line_of (by simpa [PySem.Str.length] using hl), ?_⟩
      cases x with
      | nil => rfl
      | cons c x =>
        have e : ((⟨(c :: x).toArray⟩ : PySem.Str).length : Int) ≠ 0 := by
          show (((c :: x).toArray.size : Nat) : Int) ≠ 0
          rw [List.size_toArray, List.length_cons]
          omega
        simp [PySem.Str.length]
        omega
    · cases h
  | tup q rs =>
    cases h
    exact .inr (.inl ⟨_, q, by rw [empty_of rs]⟩)
  | rol q rs =>
    cases h
    exact .inl ⟨_, q.sq, by rw [empty_of rs]⟩
  | ref q =>
    unfold dTru at h
    simp only [Option.map_eq_some_iff] at h
    obtain ⟨xs, e, rfl⟩ := h
    obtain ⟨vs, h1, h2⟩ := s.list e q
    exact .inl ⟨vs, SqL.of h1, by rw [empty_of h2]⟩
  | _ => cases h
theorem et_val (ha : Ex X W a fa) (he : ∀ whole, isTrue a X.env whole = (do let v ← whole; standAt a.pos; holding [v] (truthy v)) := by intro _; rfl) : Et X W a (tVal fa) := by
  refine ⟨fun m τ st σ H Q hL hS hP pins s I => ?_⟩
  refine isTrue_plain (thn (ha.run m τ st σ H (fun x H' => ∃ k, TruV X.K x H' k ∧ Q k H') hL hS (hP.bind fun dx s1 m1 H1 x e1 hS1 r1 hP1 => ?_) pins s I) fun v s1 ⟨x, H1, I1, r1, q1⟩ => tru_ok pins s1 σ H1 x v Q I1 r1 q1) (he _)
  split at hP1
  · rename_i k hk
    exact ⟨k, tru_read hS1 hk r1, hP1.now hS1 rfl⟩
  · exact hP1.elim
def tAnd (ga gb : EM Bool) : EM Bool := fun τ st => (ga τ st).bind fun x s1 => if x then gb τ s1 else .ok false s1
def tOr (ga gb : EM Bool) : EM Bool := fun τ st => (ga τ st).bind fun x s1 => if x then .ok true s1 else gb τ s1
def tNot (ga : EM Bool) : EM Bool := fun τ st => (ga τ st).bind fun x s1 => .ok (!x) s1
theorem Ew.et (h : Ew X W e g) : Et X W e g := ⟨fun m τ st σ H Q hL hS hP pins s I => h.run m τ st σ H Q hL hS hP _ pins s I⟩
theorem ew_and1 (ha : Et X W a ga) : Ew X W (.BoolOp .And [a] pos) ga := ⟨fun m τ st σ H Q hL hS hP wh pins s I => (pw_and1 ptW).run wh pins s σ H Q I (ha.run m τ st σ H Q hL hS hP)⟩
theorem ew_or1 (ha : Et X W a ga) : Ew X W (.BoolOp .Or [a] pos) ga := ⟨fun m τ st σ H Q hL hS hP wh pins s I => (pw_or1 ptW).run wh pins s σ H Q I (ha.run m τ st σ H Q hL hS hP)⟩
theorem ew_and (ha : Et X W a ga) (hb : Ew X W (.BoolOp .And (b :: rest) pos) gb) : Ew X W (.BoolOp .And (a :: b :: rest) pos) (tAnd ga gb) := by
  refine ⟨fun m τ st σ H Q hL hS hP wh pins s I => (pw_and ptW pwW).run wh pins s σ H Q I ?_⟩
  refine ha.run m τ st σ H _ hL hS (hP.bind fun dx s1 m1 H1 x e1 hS1 r1 hP1 => ?_)
  subst r1
  cases dx with
  | true => exact iteT (hb.run m1 τ s1 σ H1 Q (hL.mono e1) hS1 hP1)
  | false => exact iteF (hP1.now hS1 rfl)
theorem ew_or (ha : Et X W a ga) (hb : Ew X W (.BoolOp .Or (b :: rest) pos) gb) : Ew X W (.BoolOp .Or (a :: b :: rest) pos) (tOr ga gb) := by
  refine ⟨fun m τ st σ H Q hL hS hP wh pins s I => (pw_or ptW pwW).run wh pins s σ H Q I ?_⟩
  refine ha.run m τ st σ H _ hL hS (hP.bind fun dx s1 m1 H1 x e1 hS1 r1 hP1 => ?_)
  subst r1
  cases dx with
  | true => exact iteT (hP1.now hS1 rfl)
  | false => exact iteF (hb.run m1 τ s1 σ H1 Q (hL.mono e1) hS1 hP1)
theorem et_not (ha : Et X W a ga) : Et X W (.UnaryOp .Not a pos) (tNot ga) := by
  refine ⟨fun m τ st σ H Q hL hS hP pins s I => (pt_not ptW).run pins s σ H Q I ?_⟩
  refine ha.run m τ st σ H _ hL hS (hP.bind fun dx s1 m1 H1 x e1 hS1 r1 hP1 => ?_)
  subst r1
  exact hP1.now hS1 rfl
/-! ### and, or, not as values -/
def eAnd (fa fb : EM D) : EM D := fun τ st => (fa τ st).bind fun x s1 => match dTru s1 x with
  | some true => fb τ s1
  | some false => .ok x s1
  | none => .bad
def eOr (fa fb : EM D) : EM D := fun τ st => (fa τ st).bind fun x s1 => match dTru s1 x with
  | some true => .ok x s1
  | some false => fb τ s1
  | none => .bad
def eNot (fa : EM D) : EM D := fun τ st => (fa τ st).bind fun x s1 => match dTru s1 x with
  | some b => .ok (.bl !b) s1
  | none => .bad
theorem ex_one {op} (h : Ex X W a fa) : Ex X W (.BoolOp op [a] pos) fa := ⟨fun m τ st σ H Q hL hS hP pins s I => BoolOp_one (h.run m τ st σ H Q hL hS hP pins s I)⟩
theorem ex_and (ha : Ex X W a fa) (hb : Ex X W (.BoolOp .And (b :: rest) pos) fb) : Ex X W (.BoolOp .And (a :: b :: rest) pos) (eAnd fa fb) := by
  refine ⟨fun m τ st σ H Q hL hS hP pins s I => (pe_andT peW peW).run pins s σ H Q I ?_⟩
  refine ha.run m τ st σ H _ hL hS (hP.bind fun dx s1 m1 H1 x e1 hS1 r1 hP1 => ?_)
  split at hP1
  · rename_i hk
    exact ⟨true, tru_read hS1 hk r1, iteT (hb.run m1 τ s1 σ H1 Q (hL.mono e1) hS1 hP1)⟩
  · rename_i hk
    exact ⟨false, tru_read hS1 hk r1, iteF (hP1.now hS1 r1)⟩
  · exact hP1.elim
theorem ex_or (ha : Ex X W a fa) (hb : Ex X W (.BoolOp .Or (b :: rest) pos) fb) : Ex X W (.BoolOp .Or (a :: b :: rest) pos) (eOr fa fb) := by
  refine ⟨fun m τ st σ H Q hL hS hP pins s I => (pe_orT peW peW).run pins s σ H Q I ?_⟩
  refine ha.run m τ st σ H _ hL hS (hP.bind fun dx s1 m1 H1 x e1 hS1 r1 hP1 => ?_)
  split at hP1
  · rename_i hk
    exact ⟨true, tru_read hS1 hk r1, iteT (hP1.now hS1 r1)⟩
  · rename_i hk
    exact ⟨false, tru_read hS1 hk r1, iteF (hb.run m1 τ s1 σ H1 Q (hL.mono e1) hS1 hP1)⟩
  · exact hP1.elim
theorem ex_not (ha : Ex X W a fa) : Ex X W (.UnaryOp .Not a pos) (eNot fa) := by
  refine ⟨fun m τ st σ H Q hL hS hP pins s I => (pe_notT peW).run pins s σ H Q I ?_⟩
  refine ha.run m τ st σ H _ hL hS (hP.bind fun dx s1 m1 H1 x e1 hS1 r1 hP1 => ?_)
  split at hP1
  · rename_i k hk
    exact ⟨k, tru_read hS1 hk r1, hP1.now hS1 (.bl _)⟩
  · exact hP1.elim
def eIf (g : EM Bool) (fa fb : EM D) : EM D := fun τ st => (g τ st).bind fun x s1 => if x then fa τ s1 else fb τ s1
theorem ex_if {c : Expr} (hc : Et X W c g) (ha : Ex X W a fa) (hb : Ex X W b fb) : Ex X W (.IfExp c a b pos) (eIf g fa fb) := by
  refine ⟨fun m τ st σ H Q hL hS hP pins s I => (pe_ifExp ptW peW peW).run pins s σ H Q I ?_⟩
  refine hc.run m τ st σ H _ hL hS (hP.bind fun dx s1 m1 H1 x e1 hS1 r1 hP1 => ?_)
  subst r1
  cases dx with
  | true => exact iteT (ha.run m1 τ s1 σ H1 Q (hL.mono e1) hS1 hP1)
  | false => exact iteF (hb.run m1 τ s1 σ H1 Q (hL.mono e1) hS1 hP1)

/-! ### arguments, displays -/
def aNil : EM (List D) := fun _ st => .ok [] st
def aCons (f : EM D) (fs : EM (List D)) : EM (List D) := fun τ st => (f τ st).bind fun x s1 => (fs τ s1).bind fun xs s2 => .ok (x :: xs) s2
theorem ea_nil : Ea X W [] aNil := ⟨fun m τ st σ H Q hL hS hP pos pins s I => pa_nil.run pos pins s σ H Q I (hP.now hS .nil)⟩
theorem ea_cons (ha : Ex X W e f) (hr : Ea X W es fs) (hs : starEach (e :: es) X.env = (false, eval e X.env) :: starEach es X.env := by rfl) : Ea X W (e :: es) (aCons f fs) := by
  refine ⟨fun m τ st σ H Q hL hS hP pos pins s I => (pa_cons peW paW hs).run pos pins s σ H Q I ?_⟩
  refine ha.run m τ st σ H _ hL hS (hP.bind fun dx s1 m1 H1 x e1 hS1 r1 hP1 => ?_)
  exact hr.run m1 τ s1 σ H1 _ (hL.mono e1) hS1 (hP1.bind fun ds s2 m2 H2 xs e2 hS2 r2 hP2 => hP2.now hS2 (.cons (r1.mono e2) r2))
def eTup (fs : EM (List D)) : EM D := fun τ st => (fs τ st).bind fun xs s1 => if xs.length ≤ 16777216 then .ok (.tup xs) s1 else .bad
def eLst (fs : EM (List D)) : EM D := fun τ st => (fs τ st).bind fun xs s1 => if xs.length ≤ 16777216 then .ok (.ref s1.length) (s1 ++ [.lst xs]) else .bad
theorem ex_tup {x1} (h : Ea X W es fs) : Ex X W (.Tuple es x1 pos) (eTup fs) := by
  refine ⟨fun m τ st σ H Q hL hS hP pins s I => (pe_tup paW).run pins s σ H Q I ?_⟩
  refine h.run m τ st σ H _ hL hS (hP.bind fun ds s1 m1 H1 vs e1 hS1 r1 hP1 => ?_)
  split at hP1
  · rename_i hl
    exact ⟨line_of (by rw [← r1.len]; exact hl), hP1.tup hS1 r1⟩
  · exact hP1.elim
theorem ex_lst (h : Ea X W es fs) : Ex X W (.List es pos) (eLst fs) := by
  refine ⟨fun m τ st σ H Q hL hS hP pins s I => (pe_lst paW).run pins s σ H Q I ?_⟩
  refine h.run m τ st σ H _ hL hS (hP.bind fun ds s1 m1 H1 vs e1 hS1 r1 hP1 => ?_)
  split at hP1
  · rename_i hl
    exact ⟨line_of (by rw [← r1.len]; exact hl), hP1.lst hS1 r1⟩
  · exact hP1.elim

/-! ### subscripts -/
def IxM (X : Cx) (W : WX) (g : O2) : Prop :=
  ∃ r : R2, IxR X r ∧ ∀ (m : List Addr) (st : Store) (H : Hp) (dx dy : D) (x y : V) (E : XK) (Q : VK), SS X.K m st H → RD X.K m H dx x → RD X.K m H dy y → Pe X.K E (RD X.K) m H (g dx dy st) Q → r x y H Q
theorem ex_ix {o : O2} (ho : IxM X W o) (ha : Ex X W a fa) (hb : Ex X W b fb) (hs : PlainIx b := by exact fun _ _ => rfl) : Ex X W (.Subscript a b pos) (eBin o fa fb) := by
  obtain ⟨r, hr, h⟩ := ho
  refine ⟨fun m τ st σ H Q hL hS hP pins s I => (pe_ix hr peW peW hs).run pins s σ H Q I ?_⟩
  exact two ha hb hL hS hP fun m2 st2 H2 dx dy x y e2 hS2 r1 r2 hP2 => h m2 st2 H2 dx dy x y _ Q hS2 r1 r2 hP2
def oIx : O2 := fun x y st => match x, y with
  | .tup xs, .int i => match atI xs i with
    | some d => .ok d st
    | none => .bad
  | .rol xs, .int i => match atI xs i with
    | some d => .ok d st
    | none => .bad
  | .ref n, .int i => match lstAt st n with
    | some xs => match atI xs i with
      | some d => .ok d st
      | none => .bad
    | none => .bad
  | .str x, .int i => if x.length ≤ 16777216 then match atI x i with
      | some c => .ok (.str [c]) st
      | none => .bad
    else .bad
  | _, _ => .bad
theorem atI_rds {K : PySem.W.Frag} {m : List Addr} {H : Hp} {ds : List D} {vs : List V} {i : Int} {d : D} (r : RDs K m H ds vs) (h : atI ds i = some d) : ∃ v, atI vs i = some v ∧ RD K m H d v := by
  unfold atI at h ⊢
  rw [← r.len]
  cases e : ixN ds.length i with
  | none =>
    rw [e] at h
    cases h
  | some j =>
    rw [e] at h
    exact r.get h
theorem m_ix : IxM X W oIx := ⟨_, ix_seq, fun m st H dx dy x y E Q hS r1 r2 hP => by
  unfold oIx at hP
  split at hP
  · split at hP
    · rename_i d e
      cases r1 with
      | tup q rs =>
        cases r2
        obtain ⟨v, h1, h2⟩ := atI_rds rs e
        exact .inr (.inl ⟨_, _, _, v, rfl, rfl, q, h1, hP.now hS h2⟩)
    · exact hP.elim
  · split at hP
    · rename_i d e
      cases r1 with
      | rol q rs =>
        cases r2
        obtain ⟨v, h1, h2⟩ := atI_rds rs e
        exact .inl ⟨_, _, _, v, rfl, rfl, q.sq, h1, hP.now hS h2⟩
    · exact hP.elim
  · split at hP
    · split at hP
      · rename_i ex _ _ e
        cases r1 with
        | ref q =>
          cases r2
          obtain ⟨vs, h1, h2⟩ := hS.list ex q
          obtain ⟨v, h3, h4⟩ := atI_rds h2 e
          exact .inl ⟨_, _, _, v, rfl, rfl, SqL.of h1, h3, hP.now hS h4⟩
      · exact hP.elim
    · exact hP.elim
  · split at hP
    · split at hP
      · rename_i hl _ c e
        cases r1
        cases r2
        exact .inr (.inr ⟨_, _, c, rfl, rfl, line_of (by simpa [PySem.Str.length] using hl), by simpa using e, hP.now hS (.str [c])⟩)
      · exact hP.elim
    · exact hP.elim
  · exact hP.elim⟩
end
end HM

/-! HM, part 5: calls, what is walked, comprehensions. -/
namespace HM
open PySem PySem.Spec PyProof.Rows L2

/-! ### defs -/
abbrev FM := List D → Store → ER D
/-- a def's promise by its mirror -/
def spM (K : PySem.W.Frag) (n : Nat) (mf : FM) : Sp := fun vs H Q E => ∃ (m : List Addr) (st : Store) (ds : List D), ds.length = n ∧ SS K m st H ∧ RDs K m H ds vs ∧ Pe K E (RD K) m H (mf ds st) Q
/-- the def f keeps the mirror -/
abbrev FnM (P : Program) (w : World) (K : PySem.W.Frag) (mg : Str → Option Value) (base : Heap) (k : Nat) (f : Addr) (fd : FuncData) (ps : List Str) (mf : FM) : Prop :=
  FnOk P w K mg base (L2.CX P w) k f fd ps (spM K ps.length mf)
section
variable {X : Cx} {W : WX} {e a b c : Expr} {es rest : List Expr} {pos p : Pos} {f fa fb fc : EM D} {fs : EM (List D)} {g ga gb : EM Bool}
def eCall (n : Nat) (mf : FM) (fs : EM (List D)) : EM D := fun τ st => (fs τ st).bind fun ds s1 => if ds.length = n then mf ds s1 else .bad
theorem ex_call {k : Nat} {fa : Addr} {fd : FuncData} {ps : List Str} {mf : FM} {x : Str} (tk : Takes X W) (F : FnM X.prog X.w X.K X.mg X.base k fa fd ps mf) (hr : Room k X.A) (hg : Gl X x) (hm : X.mg x = some (.ref fa)) (hk : PySem.W.keepIn X.K (.ref fa) = true) (hb : Binds X.K fd ps [])
    (ha : Ea X W (e :: es) fs) (hdb : (x == ("__debug__" : Str)) = false := by decide) (he : starEach (e :: es) X.env = (false, eval e X.env) :: starEach es X.env := by rfl) (hpl : (backTo pos (starEach es X.env)).any (·.1) = false := by rfl) :
    Ex X W (.Call (.Name x p) (e :: es) [] pos) (eCall ps.length mf fs) := by
  refine ⟨fun m τ st σ H Q hL hS hP pins s I => ?_⟩
  refine wpAny_Call_Name_kw (ld_glob I hg hm ?_ hdb)
  have q : wA X (e :: es) σ H fun vs H1 => spM X.K ps.length mf (vs ++ []) H1 Q (WE W σ) := ha.run m τ st σ H _ hL hS (hP.bind fun ds s1 m1 H1 vs e1 hS1 r1 hP1 => by
    split at hP1
    · rename_i hl
      rw [List.append_nil]
      exact ⟨m1, s1, ds, hl, hS1, r1, hP1⟩
    · exact hP1.elim)
  refine PySem.W.callWith_K (h₀ := X.base) I.ok.mod.kin hk (thn (q pos pins s I) fun us s1 ⟨vs, H1, I1, r, q⟩ => ⟨I1.kIn, ?_⟩) he hpl
  exact run_fnSD (E := WE W) F hr hb .nil (passAt tk σ) I1 r q
theorem ex_call0 {k : Nat} {fa : Addr} {fd : FuncData} {ps : List Str} {mf : FM} {x : Str} (tk : Takes X W) (F : FnM X.prog X.w X.K X.mg X.base k fa fd ps mf) (hr : Room k X.A) (hg : Gl X x) (hm : X.mg x = some (.ref fa)) (hk : PySem.W.keepIn X.K (.ref fa) = true) (hb : Binds X.K fd ps [])
    (hdb : (x == ("__debug__" : Str)) = false := by decide) : Ex X W (.Call (.Name x p) [] [] pos) (eCall ps.length mf aNil) := by
  refine ⟨fun m τ st σ H Q hL hS hP pins s I => ?_⟩
  refine wpAny_Call_Name_kw (ld_glob I hg hm ?_ hdb)
  refine PySem.W.callWith_K0 I.kIn hk (run_fnSD (E := WE W) (us := []) (vs := []) F hr hb .nil (passAt tk σ) I .nil ?_)
  have hP : Pe X.K (fun c d H' => W c d σ H') (RD X.K) m H (if ([] : List D).length = ps.length then mf [] st else .bad) Q := hP
  split at hP
  · rename_i hl
    exact ⟨m, st, [], hl, hS, .nil, hP⟩
  · exact hP.elim

/-! ### built-ins by values -/
def CallM (X : Cx) (fv : Value) (g : FM) : Prop :=
  ∃ r, CallR X fv r ∧ ∀ (m : List Addr) (st : Store) (H : Hp) (ds : List D) (vs : List V) (E : XK) (Q : VK), SS X.K m st H → RDs X.K m H ds vs → Pe X.K E (RD X.K) m H (g ds st) Q → r vs H Q
def eCB (mf : FM) (fs : EM (List D)) : EM D := fun τ st => (fs τ st).bind mf
theorem ex_callB {x : Str} {id : String} {mf : FM} (hc : CallM X (.builtin id) mf) (hg : Gl X x) (hm : X.mg x = none) (hv : bootBuiltins x = some (.builtin id)) (ha : Ea X W (e :: es) fs) (hn : x ≠ "__name__" := by decide) (hdb : (x == ("__debug__" : Str)) = false := by decide)
    (he : starEach (e :: es) X.env = (false, eval e X.env) :: starEach es X.env := by rfl) (hpl : (backTo pos (starEach es X.env)).any (·.1) = false := by rfl) : Ex X W (.Call (.Name x p) (e :: es) [] pos) (eCB mf fs) := by
  obtain ⟨r, hr, h⟩ := hc
  refine ⟨fun m τ st σ H Q hL hS hP pins s I => (pe_callB hr hg hm hv paW hn hdb he hpl).run pins s σ H Q I ?_⟩
  exact ha.run m τ st σ H _ hL hS (hP.bind fun ds s1 m1 H1 vs e1 hS1 r1 hP1 => h m1 s1 H1 ds vs _ Q hS1 r1 hP1)
theorem ex_callT {x : Str} {T : String} {mf : FM} (hc : CallM X (.type T) mf) (hg : Gl X x) (hm : X.mg x = none) (hv : bootBuiltins x = some (.type T)) (ha : Ea X W (e :: es) fs) (hn : x ≠ "__name__" := by decide) (hdb : (x == ("__debug__" : Str)) = false := by decide)
    (he : starEach (e :: es) X.env = (false, eval e X.env) :: starEach es X.env := by rfl) (hpl : (backTo pos (starEach es X.env)).any (·.1) = false := by rfl) : Ex X W (.Call (.Name x p) (e :: es) [] pos) (eCB mf fs) := by
  obtain ⟨r, hr, h⟩ := hc
  refine ⟨fun m τ st σ H Q hL hS hP pins s I => (pe_callTy hr hg hm hv paW hn hdb he hpl).run pins s σ H Q I ?_⟩
  exact ha.run m τ st σ H _ hL hS (hP.bind fun ds s1 m1 H1 vs e1 hS1 r1 hP1 => h m1 s1 H1 ds vs _ Q hS1 r1 hP1)
theorem ex_callF {x : Str} {id : String} {mf : FM} (hc : CallM X (.builtin id) mf) (hg : Gl X x) (hm : X.mg x = some (.builtin id)) (ha : Ea X W (e :: es) fs) (hdb : (x == ("__debug__" : Str)) = false := by decide)
    (he : starEach (e :: es) X.env = (false, eval e X.env) :: starEach es X.env := by rfl) (hpl : (backTo pos (starEach es X.env)).any (·.1) = false := by rfl) : Ex X W (.Call (.Name x p) (e :: es) [] pos) (eCB mf fs) := by
  obtain ⟨r, hr, h⟩ := hc
  refine ⟨fun m τ st σ H Q hL hS hP pins s I => (pe_callBfun hr hg hm paW hdb he hpl).run pins s σ H Q I ?_⟩
  exact ha.run m τ st σ H _ hL hS (hP.bind fun ds s1 m1 H1 vs e1 hS1 r1 hP1 => h m1 s1 H1 ds vs _ Q hS1 r1 hP1)
/-- the items of what is a list or a tuple -/
def dSeq (st : Store) : D → Option (List D)
  | .tup xs => some xs
  | .rol xs => some xs
  | .ref n => lstAt st n
  | _ => none
def SqV (K : PySem.W.Frag) (m : List Addr) (H : Hp) (ds : List D) (v : V) : Prop := ∃ a vs, v = .ref a ∧ (SqL K H a vs ∨ SqT K H a vs) ∧ RDs K m H ds vs
theorem dSeq_read {K : PySem.W.Frag} {m : List Addr} {st : Store} {H : Hp} {d : D} {v : V} {xs : List D} (s : SS K m st H) (h : dSeq st d = some xs) (r : RD K m H d v) : SqV K m H xs v := by
  cases r with
  | tup q rs =>
    cases h
    exact ⟨_, _, rfl, .inr q, rs⟩
  | rol q rs =>
    cases h
    exact ⟨_, _, rfl, .inl q.sq, rs⟩
  | ref q =>
    obtain ⟨vs, h1, h2⟩ := s.list h q
    exact ⟨_, vs, rfl, .inl (SqL.of h1), h2⟩
  | _ => cases h
def fLen : FM := fun ds st => match ds with
  | [.str x] => if x.length ≤ 16777216 then .ok (.int x.length) st else .bad
  | [d] => match dSeq st d with
    | some xs => .ok (.int xs.length) st
    | none => .bad
  | _ => .bad
theorem c_len : CallM X (.builtin "len") fLen := ⟨_, call_len_seq.or call_len_str, fun m st H ds vs E Q hS r hP => by
  unfold fLen at hP
  split at hP
  · split at hP
    · rename_i x hl
      obtain ⟨v, rfl, r1⟩ := r.one
      cases r1
      refine .inr ⟨_, rfl, line_of (by simpa [PySem.Str.length] using hl), ?_⟩
      have e : (((⟨x.toArray⟩ : PySem.Str).length : Nat) : Int) = (x.length : Int) := by simp [PySem.Str.length]
      rw [e]
      exact hP.now hS (.int _)
    · exact hP.elim
  · split at hP
    · rename_i xs hx
      obtain ⟨v, rfl, r1⟩ := r.one
      obtain ⟨a, vs, rfl, q, rs⟩ := dSeq_read hS hx r1
      refine .inl ⟨a, vs, rfl, q, ?_⟩
      rw [← rs.len]
      exact hP.now hS (.int _)
    · exact hP.elim
  · exact hP.elim⟩
def fInt : FM := fun ds st => match ds with
  | [.int i] => .ok (.int i) st
  | [.bl b] => .ok (.int (if b then 1 else 0)) st
  | _ => .bad
theorem c_int : CallM X (.type "int") fInt := ⟨_, call_int1, fun m st H ds vs E Q hS r hP => by
  unfold fInt at hP
  split at hP
  · obtain ⟨v, rfl, r1⟩ := r.one
    cases r1
    exact .inl ⟨_, rfl, hP.now hS (.int _)⟩
  · obtain ⟨v, rfl, r1⟩ := r.one
    cases r1
    exact .inr ⟨_, rfl, hP.now hS (.int _)⟩
  · exact hP.elim⟩
def fAbs : FM := fun ds st => match ds with
  | [.int i] => .ok (.int (i.natAbs : Nat)) st
  | _ => .bad
theorem c_abs : CallM X (.builtin "abs") fAbs := ⟨_, call_abs, fun m st H ds vs E Q hS r hP => by
  unfold fAbs at hP
  split at hP
  · rename_i i
    obtain ⟨v, rfl, r1⟩ := r.one
    cases r1
    refine ⟨_, rfl, ?_⟩
    have e : (if i < 0 then -i else i) = ((i.natAbs : Nat) : Int) := by split <;> omega
    rw [e]
    exact hP.now hS (.int _)
  · exact hP.elim⟩
def fGcd : FM := fun ds st => match ds with
  | [.int i, .int j] => .ok (.int (Nat.gcd i.natAbs j.natAbs : Nat)) st
  | _ => .bad
theorem c_gcd : CallM X (.builtin "math.gcd") fGcd := ⟨_, cr_gcd, fun m st H ds vs E Q hS r hP => by
  unfold fGcd at hP
  split at hP
  · obtain ⟨v, u, rfl, r1, r2⟩ := r.two
    cases r1
    cases r2
    exact ⟨_, _, rfl, hP.now hS (.int _)⟩
  · exact hP.elim⟩
def fTuple : FM := fun ds st => match ds with
  | [d] => match dSeq st d with
    | some xs => .ok (.tup xs) st
    | none => .bad
  | _ => .bad
theorem c_tuple : CallM X (.type "tuple") fTuple := ⟨_, call_tuple_of, fun m st H ds vs E Q hS r hP => by
  unfold fTuple at hP
  split at hP
  · split at hP
    · rename_i xs hx
      obtain ⟨v, rfl, r1⟩ := r.one
      obtain ⟨a, vs, rfl, q, rs⟩ := dSeq_read hS hx r1
      rcases q with q | q
      · exact ⟨a, vs, rfl, .inl ⟨q, hP.tup hS rs⟩⟩
      · exact ⟨a, vs, rfl, .inr ⟨q, hP.now hS (.tup q rs)⟩⟩
    · exact hP.elim
  · exact hP.elim⟩
def fList : FM := fun ds st => match ds with
  | [d] => match dSeq st d with
    | some xs => .ok (.ref st.length) (st ++ [.lst xs])
    | none => .bad
  | _ => .bad
theorem c_list : CallM X (.type "list") fList := ⟨_, call_list_of, fun m st H ds vs E Q hS r hP => by
  unfold fList at hP
  split at hP
  · split at hP
    · rename_i xs hx
      obtain ⟨v, rfl, r1⟩ := r.one
      obtain ⟨a, vs, rfl, q, rs⟩ := dSeq_read hS hx r1
      exact ⟨a, vs, rfl, q, hP.lst hS rs⟩
    · exact hP.elim
  · exact hP.elim⟩
def fMin2 : FM := fun ds st => match ds with
  | [.int i, .int j] => .ok (.int (if j < i then j else i)) st
  | _ => .bad
theorem c_min2 (hc : X.calm = true) : CallM X (.builtin "min") fMin2 := ⟨_, call_min2 hc, fun m st H ds vs E Q hS r hP => by
  unfold fMin2 at hP
  split at hP
  · obtain ⟨v, u, rfl, r1, r2⟩ := r.two
    cases r1
    cases r2
    exact ⟨_, _, rfl, hP.now hS (.int _)⟩
  · exact hP.elim⟩
def fMax2 : FM := fun ds st => match ds with
  | [.int i, .int j] => .ok (.int (if j > i then j else i)) st
  | _ => .bad
theorem c_max2 (hc : X.calm = true) : CallM X (.builtin "max") fMax2 := ⟨_, call_max2 hc, fun m st H ds vs E Q hS r hP => by
  unfold fMax2 at hP
  split at hP
  · obtain ⟨v, u, rfl, r1, r2⟩ := r.two
    cases r1
    cases r2
    exact ⟨_, _, rfl, hP.now hS (.int _)⟩
  · exact hP.elim⟩
/-! ### isinstance -/
def dTy (st : Store) : D → Option String
  | .non => some "NoneType"
  | .bl _ => some "bool"
  | .int _ => some "int"
  | .str _ => some "str"
  | .tup _ => some "tuple"
  | .rol _ => some "list"
  | .ref n => (lstAt st n).map fun _ => "list"
  | _ => none
def isiT (a b : String) : Option Bool :=
  if (["NoneType", "bool", "int", "str", "tuple", "list"].contains a && ["bool", "int", "str", "tuple", "list"].contains b) = true then some (decide (a = b) || (decide (a = "bool") && decide (b = "int"))) else none
theorem isiT_ok {a b : String} {r : Bool} (h : isiT a b = some r) : kitB a b = some r := by
  have all : (["NoneType", "bool", "int", "str", "tuple", "list"].all fun a => ["bool", "int", "str", "tuple", "list"].all fun b => decide (kitB a b = some (decide (a = b) || (decide (a = "bool") && decide (b = "int"))))) = true := by decide +kernel
  unfold isiT at h
  split at h
  · rename_i c
    rw [Bool.and_eq_true] at c
    have z := List.all_eq_true.mp (List.all_eq_true.mp all a (List.contains_iff_mem.mp c.1)) b (List.contains_iff_mem.mp c.2)
    rw [of_decide_eq_true z]
    exact h
  · cases h
theorem ty_read {K : PySem.W.Frag} {m : List Addr} {st : Store} {H : Hp} {d : D} {v : V} {t : String} (s : SS K m st H) (h : dTy st d = some t) (r : RD K m H d v) : TyX K H v (.type t) := by
  cases r with
  | non => cases h; exact .base .non
  | bl b => cases h; exact .base (.bl b)
  | int i => cases h; exact .base (.int i)
  | str x => cases h; exact .base (.str _)
  | tup q rs =>
    cases h
    rcases q with (q | ⟨o, q⟩) | ⟨o, its, n, q1, q2, _⟩
    · exact .base (.tup q)
    · exact .fTuple q
    · exact .kTuple q1 q2
  | rol q rs =>
    cases h
    rcases q with ⟨o, q⟩ | ⟨o, its, n, q1, q2, _⟩
    · exact .base (.frz q)
    · exact .kList q1 q2
  | ref q =>
    have h : (lstAt st _).map (fun _ => "list") = some t := h
    simp only [Option.map_eq_some_iff] at h
    obtain ⟨xs, e, rfl⟩ := h
    obtain ⟨vs, h1, h2⟩ := s.list e q
    exact .base (.lst h1)
  | _ => cases h
def fIsi : FM := fun ds st => match ds with
  | [d, .ty c] => match dTy st d with
    | some t => match isiT t c with
      | some b => .ok (.bl b) st
      | none => .bad
    | none => .bad
  | _ => .bad
theorem c_isi : CallM X (.builtin "isinstance") fIsi := ⟨_, call_isi, fun m st H ds vs E Q hS r hP => by
  unfold fIsi at hP
  split at hP
  · split at hP
    · rename_i t ht
      split at hP
      · rename_i b hb
        obtain ⟨v, u, rfl, r1, r2⟩ := r.two
        cases r2
        exact ⟨_, _, _, _, b, rfl, by constructor, ty_read hS ht r1, kit_ty (isiT_ok hb), hP.now hS (.bl _)⟩
      · exact hP.elim
    · exact hP.elim
  · exact hP.elim⟩

/-! ### fresh lists, sequences as arguments -/
/-- an expression that makes a list that nobody else has -/
structure El (X : Cx) (W : WX) (e : Expr) (f : EM (List D)) : Prop where
  run : ∀ (m : List Addr) (τ : Sl) (st : Store) (σ : L2.St) (H : Hp) (Q : VK), SL X.K m H τ σ → SS X.K m st H →
    Pe X.K (fun c d H' => W c d σ H') (fun m' H' ds v => ∃ a vs, v = .ref a ∧ H' a = some (.lst vs) ∧ a ∉ m' ∧ H a = none ∧ RDs X.K m' H' ds vs) m H (f τ st) Q → wE X e σ H Q
def eEl (f : EM (List D)) : EM D := fun τ st => (f τ st).bind fun ds s1 => .ok (.ref s1.length) (s1 ++ [.lst ds])
theorem Ext.back {K : PySem.W.Frag} {m m1 : List Addr} {H H1 : Hp} {s1 : Store} {a : Addr} (e : Ext K m H m1 H1) (s : SS K m1 s1 H1) (h : H1 a = none) : H a = none := by
  cases q : H a with
  | none => rfl
  | some o =>
    by_cases hm : a ∈ m
    · exact absurd (e.mem hm) (s.notin h)
    · rw [e.frm a o hm q] at h
      cases h
theorem Ext.own {K : PySem.W.Frag} {m m1 : List Addr} {H H1 : Hp} {a : Addr} (e : Ext K m H m1 H1) (h : H a = none) : Ext K m H (m1 ++ [a]) H1 where
  pre := fun n b q => by
    have z := e.pre n b q
    rw [List.getElem?_append_left (List.getElem?_eq_some_iff.mp z).1]
    exact z
  tup := e.tup
  fzl := e.fzl
  frm := e.frm
  new := fun b q n => by
    rcases List.mem_append.mp q with q | q
    · exact e.new b q n
    · have z : b = a := by simpa using q
      rw [z]
      exact h
theorem ex_el {fl : EM (List D)} (h : El X W e fl) : Ex X W e (eEl fl) := by
  refine ⟨fun m τ st σ H Q hL hS hP => h.run m τ st σ H Q hL hS ?_⟩
  unfold eEl at hP
  cases hq : fl τ st with
  | ok ds s1 =>
    rw [hq] at hP
    intro m1 H1 v e1 hS1 ⟨a, vs, e, ha, na, hn, rs⟩
    subst e
    refine hP (m1 ++ [a]) H1 (.ref a) (e1.own hn) (hS1.grow na ⟨vs, ha, rs.kp Kp.grow⟩) (.ref ?_)
    rw [← hS1.len]
    simp
  | exc x st' =>
    rw [hq] at hP
    exact hP
  | bad =>
    rw [hq] at hP
    exact hP.elim
/-- the items of an expression's list or tuple -/
structure Es (X : Cx) (W : WX) (e : Expr) (f : EM (List D)) : Prop where
  run : ∀ (m : List Addr) (τ : Sl) (st : Store) (σ : L2.St) (H : Hp) (Q : VK), SL X.K m H τ σ → SS X.K m st H → Pe X.K (fun c d H' => W c d σ H') (SqV X.K) m H (f τ st) Q → wE X e σ H Q
theorem es_el {fl : EM (List D)} (h : El X W e fl) : Es X W e fl := by
  refine ⟨fun m τ st σ H Q hL hS hP => h.run m τ st σ H Q hL hS ?_⟩
  cases hq : fl τ st with
  | ok ds s1 =>
    rw [hq] at hP
    intro m1 H1 v e1 hS1 ⟨a, vs, e, ha, na, hn, rs⟩
    exact hP m1 H1 v e1 hS1 ⟨a, vs, e, .inl (SqL.of ha), rs⟩
  | exc x st' =>
    rw [hq] at hP
    exact hP
  | bad =>
    rw [hq] at hP
    exact hP.elim
def sEx (f : EM D) : EM (List D) := fun τ st => (f τ st).bind fun d s1 => match dSeq s1 d with
  | some xs => .ok xs s1
  | none => .bad
theorem es_ex (h : Ex X W e f) : Es X W e (sEx f) := by
  refine ⟨fun m τ st σ H Q hL hS hP => h.run m τ st σ H Q hL hS (hP.bind fun d s1 m1 H1 v e1 hS1 r1 hP1 => ?_)⟩
  split at hP1
  · rename_i xs hx
    exact hP1.now hS1 (dSeq_read hS1 hx r1)
  · exact hP1.elim
/-- a built-in of one argument, by its items -/
abbrev SM1 := List D → Store → ER D
def CallS (X : Cx) (fv : Value) (g : SM1) : Prop :=
  ∃ r, CallR X fv r ∧ ∀ (m : List Addr) (st : Store) (H : Hp) (ds : List D) (v : V) (E : XK) (Q : VK), SS X.K m st H → SqV X.K m H ds v → Pe X.K E (RD X.K) m H (g ds st) Q → r [v] H Q
def eCS (g : SM1) (f : EM (List D)) : EM D := fun τ st => (f τ st).bind g
theorem ex_callBs {x : Str} {id : String} {g : SM1} {fl : EM (List D)} (hc : CallS X (.builtin id) g) (hg : Gl X x) (hm : X.mg x = none) (hv : bootBuiltins x = some (.builtin id)) (ha : Es X W e fl) (hn : x ≠ "__name__" := by decide) (hdb : (x == ("__debug__" : Str)) = false := by decide)
    (he : starEach [e] X.env = (false, eval e X.env) :: starEach [] X.env := by rfl) (hpl : (backTo pos (starEach [] X.env)).any (·.1) = false := by rfl) : Ex X W (.Call (.Name x p) [e] [] pos) (eCS g fl) := by
  obtain ⟨r, hr, h⟩ := hc
  refine ⟨fun m τ st σ H Q hL hS hP pins s I => (pe_callB hr hg hm hv (pa_cons peW pa_nil he) hn hdb he hpl).run pins s σ H Q I ?_⟩
  exact ha.run m τ st σ H _ hL hS (hP.bind fun ds s1 m1 H1 v e1 hS1 r1 hP1 => h m1 s1 H1 ds v _ Q hS1 r1 hP1)
theorem ex_callTs {x : Str} {T : String} {g : SM1} {fl : EM (List D)} (hc : CallS X (.type T) g) (hg : Gl X x) (hm : X.mg x = none) (hv : bootBuiltins x = some (.type T)) (ha : Es X W e fl) (hn : x ≠ "__name__" := by decide) (hdb : (x == ("__debug__" : Str)) = false := by decide)
    (he : starEach [e] X.env = (false, eval e X.env) :: starEach [] X.env := by rfl) (hpl : (backTo pos (starEach [] X.env)).any (·.1) = false := by rfl) : Ex X W (.Call (.Name x p) [e] [] pos) (eCS g fl) := by
  obtain ⟨r, hr, h⟩ := hc
  refine ⟨fun m τ st σ H Q hL hS hP pins s I => (pe_callTy hr hg hm hv (pa_cons peW pa_nil he) hn hdb he hpl).run pins s σ H Q I ?_⟩
  exact ha.run m τ st σ H _ hL hS (hP.bind fun ds s1 m1 H1 v e1 hS1 r1 hP1 => h m1 s1 H1 ds v _ Q hS1 r1 hP1)
def gTuple : SM1 := fun xs st => .ok (.tup xs) st
theorem s_tuple : CallS X (.type "tuple") gTuple := ⟨_, call_tuple_of, fun m st H ds v E Q hS r hP => by
  obtain ⟨a, vs, rfl, q, rs⟩ := r
  rcases q with q | q
  · exact ⟨a, vs, rfl, .inl ⟨q, hP.tup hS rs⟩⟩
  · exact ⟨a, vs, rfl, .inr ⟨q, hP.now hS (.tup q rs)⟩⟩⟩
def gLen : SM1 := fun xs st => .ok (.int xs.length) st
theorem s_len : CallS X (.builtin "len") gLen := ⟨_, call_len_seq, fun m st H ds v E Q hS r hP => by
  obtain ⟨a, vs, rfl, q, rs⟩ := r
  refine ⟨a, vs, rfl, q, ?_⟩
  rw [← rs.len]
  exact hP.now hS (.int _)⟩

/-! ### targets -/
def wG (X : Cx) (tg : Expr) : TG := fun v σ H Q => ∀ (pins : List (Addr × Obj)) (s : Shared) (u : Value), Inv X pins σ H s → RelV v u → wpAny (model X.prog X.w) X.A (assign tg X.env u) (fun _ s' => ∃ σ' H', Inv X pins σ' H' s' ∧ Q σ' H') X.xe s
theorem pgW {X : Cx} {tg : Expr} : PG X tg (wG X tg) := ⟨fun pins s σ H v u Q I r h => h pins s u I r⟩
/-- a target: the slots at ix are set -/
structure Eg (X : Cx) (tg : Expr) (ix : List Nat) (set : D → Sl → Option Sl) : Prop where
  run : ∀ (m : List Addr) (τ τ' : Sl) (st : Store) (σ : L2.St) (H : Hp) (d : D) (v : V) (Q : L2.St → Hp → Prop), SL X.K m H τ σ → SS X.K m st H → RD X.K m H d v → set d τ = some τ' →
    (∀ σ', σ'.length = σ.length → (∀ j, j ∉ ix → σ'[j]? = σ[j]?) → SL X.K m H τ' σ' → Q σ' H) → wG X tg v σ H Q
def gN (i : Nat) : D → Sl → Option Sl := fun d τ => some (τ.set i (some d))
theorem eg_name {i : Nat} {x : Str} (hN : X.N.Nodup) (hi : X.N[i]? = some x := by rfl) (hx : Loc X.env.scope x := by first | exact Or.inl rfl | exact Or.inr rfl) (hf : X.fn x = true ∨ X.env.scope.names.lookup x = some .local := by first | exact .inl rfl | exact .inr rfl) : Eg X (.Name x pos) [i] (gN i) := by
  refine ⟨fun m τ τ' st σ H d v Q hL hS r e k pins s u I ru => (pg_name hN hi hx hf).run pins s σ H v u Q I ru ?_⟩
  cases e
  exact k _ (by simp) (fun j hj => List.getElem?_set_ne (fun z => hj (by simp [z]))) (hL.set i r)
/-- several names, one after another -/
structure Egs (X : Cx) (ts : List Expr) (ix : List Nat) (set : List D → Sl → Option Sl) : Prop where
  run : ∃ t : TGs, PGs X ts t ∧ ∀ (m : List Addr) (τ τ' : Sl) (σ : L2.St) (H : Hp) (ds : List D) (vs : List V) (Q : L2.St → Hp → Prop), SL X.K m H τ σ → RDs X.K m H ds vs → set ds τ = some τ' →
    (∀ σ', σ'.length = σ.length → (∀ j, j ∉ ix → σ'[j]? = σ[j]?) → SL X.K m H τ' σ' → Q σ' H) → t vs σ H Q
def gNil0 : List D → Sl → Option Sl := fun ds τ => match ds with
  | [] => some τ
  | _ => none
theorem egs_nil : Egs X [] [] gNil0 := ⟨_, pgs_nil, fun m τ τ' σ H ds vs Q hL r e k => by
    cases r with
    | nil =>
      cases e
      exact ⟨rfl, k σ rfl (fun _ _ => rfl) hL⟩
    | cons _ _ => cases e⟩
def gCs (i : Nat) (set : List D → Sl → Option Sl) : List D → Sl → Option Sl := fun ds τ => match ds with
  | d :: r => set r (τ.set i (some d))
  | [] => none
theorem egs_cons {i : Nat} {ix : List Nat} {x : Str} {ts : List Expr} {set : List D → Sl → Option Sl} (hN : X.N.Nodup) (hr : Egs X ts ix set) (hi : X.N[i]? = some x := by rfl) (hx : Loc X.env.scope x := by first | exact Or.inl rfl | exact Or.inr rfl) (hf : X.fn x = true ∨ X.env.scope.names.lookup x = some .local := by first | exact .inl rfl | exact .inr rfl)
    (hs : (assignEach (.Name x pos :: ts) X.env).map (·.2) = assign (.Name x pos) X.env :: (assignEach ts X.env).map (·.2) := by rfl) : Egs X (.Name x pos :: ts) (i :: ix) (gCs i set) := by
  obtain ⟨t, ht, h⟩ := hr
  refine ⟨_, pgs_cons (pg_name hN hi hx hf) ht hs, fun m τ τ' σ H ds vs Q hL r e k => ?_⟩
  cases r with
  | nil => cases e
  | cons r1 r2 =>
    refine ⟨_, _, rfl, h m _ τ' _ H _ _ Q (hL.set i r1) r2 e fun σ' l q s => k σ' (by rw [l, List.length_set]) (fun j hj => ?_) s⟩
    rw [q j fun z => hj (List.mem_cons_of_mem _ z)]
    exact List.getElem?_set_ne (fun z => hj (by simp [z]))
def gT (n : Nat) (set : List D → Sl → Option Sl) : D → Sl → Option Sl := fun d τ => match d with
  | .tup ds => if ds.length = n then set ds τ else none
  | _ => none
theorem eg_tup {ts : List Expr} {kk : Nat} {ix : List Nat} {set : List D → Sl → Option Sl} {n : Nat} (hc : X.calm = true) (h : Egs X ts ix set) (hn : (assignEach ts X.env).length = n := by rfl) (hst : (assignEach ts X.env).findIdx? (·.1) = none := by rfl) : Eg X (.Tuple ts kk pos) ix (gT n set) := by
  obtain ⟨t, ht, h⟩ := h
  refine ⟨fun m τ τ' st σ H d v Q hL hS r e k pins s u I ru => (pg_tup hc ht hn hst).run pins s σ H v u Q I ru ?_⟩
  unfold gT at e
  split at e
  · split at e
    · rename_i hl
      cases r with
      | tup q rs => exact ⟨_, _, rfl, q, by rw [← rs.len]; exact hl, h m τ τ' σ H _ _ Q hL rs e k⟩
    · cases e
  · cases e

/-! ### what is walked -/
inductive Sq where
  /-- items that stay -/
  | fix (xs : List D)
  /-- the items of a list of the store's, which must stay as long as it is walked -/
  | cell (n : Nat) (xs : List D)
  /-- pairs of the items of two lists of the store's -/
  | two (n k : Nat) (xs ys : List D)
/-- pairs -/
def zipD (xs ys : List D) : List D := (List.zip xs ys).map fun p => .tup [p.1, p.2]
def Sq.items : Sq → List D
  | .fix xs => xs
  | .cell _ xs => xs
  | .two _ _ xs ys => zipD xs ys
def Sq.chk (q : Sq) (st : Store) : Bool := match q with
  | .fix _ => true
  | .cell n xs => decide (lstAt st n = some xs)
  | .two n k xs ys => decide (lstAt st n = some xs) && decide (lstAt st k = some ys)
def JOk (K : PySem.W.Frag) (m0 : List Addr) (H0 : Hp) (q : Sq) (J : It) : Prop :=
  ∀ (m : List Addr) (H : Hp) (st : Store), Ext K m0 H0 m H → SS K m st H → q.chk st = true →
    (∀ (i : Nat) (d : D), q.items[i]? = some d → J.go i H ∧ ∀ x H', J.yld i H x H' → Ext K m H m H' ∧ SS K m st H' ∧ RD K m H' d x) ∧ J.stop q.items.length H
def wI (X : Cx) (tg iter : Expr) : TI := fun σ H R => ∀ (pins : List (Addr × Obj)) (s : Shared), Inv X pins σ H s → wpAny (model X.prog X.w) X.A (eval iter X.env) (fun v s1 => wpAny (model X.prog X.w) X.A (pyIter v) (PIE X pins σ tg R) X.xe s1) X.xe s
theorem piW {X : Cx} {tg iter : Expr} : PI X tg iter (wI X tg iter) := ⟨fun pins s σ H R I h => h pins s I⟩
structure Ei (X : Cx) (W : WX) (tg iter : Expr) (f : EM Sq) : Prop where
  run : ∀ (m : List Addr) (τ : Sl) (st : Store) (σ : L2.St) (H : Hp) (R : It → Hp → Prop), SL X.K m H τ σ → SS X.K m st H → Pe X.K (fun c d H' => W c d σ H') (JOk X.K) m H (f τ st) R → wI X tg iter σ H R
theorem j_list {K : PySem.W.Frag} {m0 : List Addr} {H0 : Hp} {a : Addr} {q : Sq} (h : ∀ (m : List Addr) (H : Hp) (st : Store), Ext K m0 H0 m H → SS K m st H → q.chk st = true → ∃ vs, SqL K H a vs ∧ RDs K m H q.items vs) : JOk K m0 H0 q (Itl K a) := fun m H st e s hc => by
  obtain ⟨vs, hq, rs⟩ := h m H st e s hc
  refine ⟨fun i d hd => ?_, ⟨vs, hq, by rw [rs.len]; exact Nat.le_refl _⟩⟩
  obtain ⟨v, hv, r⟩ := rs.get hd
  refine ⟨⟨vs, v, hq, hv⟩, fun x H' hy => ?_⟩
  obtain ⟨rfl, y⟩ := hy
  have z := y vs hq
  rw [hv] at z
  cases z
  exact ⟨.refl, s, r⟩
theorem j_tup {K : PySem.W.Frag} {m0 : List Addr} {H0 : Hp} {a : Addr} {vs : List V} {xs : List D} (hq : SqT K H0 a vs) (rs : RDs K m0 H0 xs vs) : JOk K m0 H0 (.fix xs) (Itt K a) := fun m H st e s _ => by
  have hq' := e.tup a vs hq
  have rs' := rs.mono e
  refine ⟨fun i d hd => ?_, ⟨vs, hq', by show vs.length ≤ xs.length; rw [← rs.len]; exact Nat.le_refl _⟩⟩
  obtain ⟨v, hv, r⟩ := rs'.get (show xs[i]? = some d from hd)
  refine ⟨⟨vs, v, hq', hv⟩, fun x H' hy => ?_⟩
  obtain ⟨rfl, y⟩ := hy
  have z := y vs hq'
  rw [hv] at z
  cases z
  exact ⟨.refl, s, r⟩
def dSq (st : Store) : D → Option Sq
  | .tup xs => some (.fix xs)
  | .rol xs => some (.fix xs)
  | .ref n => (lstAt st n).map (.cell n)
  | .str x => some (.fix (x.map fun c => .str [c]))
  | _ => none
def iEx (f : EM D) : EM Sq := fun τ st => (f τ st).bind fun d s1 => match dSq s1 d with
  | some q => .ok q s1
  | none => .bad
theorem j_str {K : PySem.W.Frag} {m0 : List Addr} {H0 : Hp} (x : List Nat) : JOk K m0 H0 (.fix (x.map fun c => .str [c])) (Its ⟨x.toArray⟩) := fun m H st e s _ => by
  refine ⟨fun i d hd => ?_, ?_⟩
  · have hd : (x.map fun c => D.str [c])[i]? = some d := hd
    rw [List.getElem?_map] at hd
    cases hx : x[i]? with
    | none =>
      rw [hx] at hd
      cases hd
    | some c =>
      rw [hx] at hd
      cases hd
      refine ⟨(List.getElem?_eq_some_iff.mp hx).1, fun y H' hy => ?_⟩
      obtain ⟨e, c', h1, h2⟩ := hy
      subst e
      have h3 : x[i]? = some c' := by simpa using h1
      rw [hx] at h3
      cases h3
      subst h2
      exact ⟨.refl, s, .str [c]⟩
  · show (⟨x.toArray⟩ : PySem.Str).cps.size ≤ (x.map fun c => D.str [c]).length
    simp
theorem ei_ex {tg : Expr} (h : Ex X W e f) : Ei X W tg e (iEx f) := by
  refine ⟨fun m τ st σ H R hL hS hP pins s I => ?_⟩
  unfold iEx at hP
  have hrun := h.run m τ st σ H
  cases hq : f τ st with
  | bad =>
    rw [hq] at hP
    exact hP.elim
  | exc x s1 =>
    rw [hq] at hP
    refine (pi_list (tg := tg) peW).run pins s σ H R I (hrun _ hL hS ?_)
    rw [hq]
    exact hP
  | ok d s1 =>
    rw [hq] at hP
    have hP : Pe X.K (fun c d H' => W c d σ H') (JOk X.K) m H (match dSq s1 d with
      | some q => .ok q s1
      | none => .bad) R := hP
    cases hd : dSq s1 d with
    | none =>
      rw [hd] at hP
      exact hP.elim
    | some q =>
      rw [hd] at hP
      cases d with
      | tup xs =>
        cases hd
        refine (pi_tup (tg := tg) peW).run pins s σ H R I (hrun _ hL hS ?_)
        rw [hq]
        intro m1 H1 v e1 hS1 r1
        cases r1 with
        | tup sq rs => exact ⟨_, rfl, ⟨_, sq⟩, hP m1 H1 _ e1 hS1 (j_tup sq rs)⟩
      | rol xs =>
        cases hd
        refine (pi_list (tg := tg) peW).run pins s σ H R I (hrun _ hL hS ?_)
        rw [hq]
        intro m1 H1 v e1 hS1 r1
        cases r1 with
        | rol sq rs => exact ⟨_, rfl, ⟨_, sq.sq⟩, hP m1 H1 _ e1 hS1 (j_list fun m H st e s _ => ⟨_, (e.fzl _ _ sq).sq, rs.mono e⟩)⟩
      | ref n =>
        have hd : (lstAt s1 n).map (Sq.cell n) = some q := hd
        simp only [Option.map_eq_some_iff] at hd
        obtain ⟨xs, hx, rfl⟩ := hd
        refine (pi_list (tg := tg) peW).run pins s σ H R I (hrun _ hL hS ?_)
        rw [hq]
        intro m1 H1 v e1 hS1 r1
        cases r1 with
        | ref z =>
          obtain ⟨vs, h1, h2⟩ := hS1.list hx z
          refine ⟨_, rfl, ⟨vs, SqL.of h1⟩, hP m1 H1 _ e1 hS1 (j_list fun m H st e s hc => ?_)⟩
          obtain ⟨us, h3, h4⟩ := s.list (of_decide_eq_true hc) (e.pre _ _ z)
          exact ⟨us, SqL.of h3, h4⟩
      | str x =>
        cases hd
        refine (pi_str (tg := tg) peW).run pins s σ H R I (hrun _ hL hS ?_)
        rw [hq]
        intro m1 H1 v e1 hS1 r1
        cases r1
        exact ⟨_, rfl, hP m1 H1 _ e1 hS1 (j_str x)⟩
      | _ => cases hd
def iEl (f : EM (List D)) : EM Sq := fun τ st => (f τ st).bind fun xs s1 => .ok (.fix xs) s1
theorem ei_el {tg : Expr} {fl : EM (List D)} (h : El X W e fl) : Ei X W tg e (iEl fl) := by
  refine ⟨fun m τ st σ H R hL hS hP pins s I => (pi_list (tg := tg) peW).run pins s σ H R I (h.run m τ st σ H _ hL hS ?_)⟩
  unfold iEl at hP
  cases hq : fl τ st with
  | ok ds s1 =>
    rw [hq] at hP
    intro m1 H1 v e1 hS1 ⟨a, vs, e, ha, na, hn, rs⟩
    exact ⟨a, e, ⟨vs, SqL.of ha⟩, hP m1 H1 _ e1 hS1 (j_list fun m H st e s _ => ⟨vs, SqL.of (e.frm _ _ na ha), rs.mono e⟩)⟩
  | exc x st' =>
    rw [hq] at hP
    exact hP
  | bad =>
    rw [hq] at hP
    exact hP.elim
/-- lo, lo + 1, .. below hi -/
def rng (lo hi : Int) : List D := (List.range (hi - lo).toNat).map fun k => D.int (lo + (k : Nat))
theorem j_rng {K : PySem.W.Frag} {m0 : List Addr} {H0 : Hp} (lo hi : Int) : JOk K m0 H0 (.fix (rng lo hi)) (Itr lo (hi - lo).toNat) := fun m H st e s _ => by
  refine ⟨fun i d hd => ?_, ?_⟩
  · have hd : (rng lo hi)[i]? = some d := hd
    unfold rng at hd
    rw [List.getElem?_map] at hd
    cases hx : (List.range (hi - lo).toNat)[i]? with
    | none =>
      rw [hx] at hd
      cases hd
    | some k =>
      rw [hx] at hd
      cases hd
      obtain ⟨h1, h2⟩ := List.getElem?_eq_some_iff.mp hx
      rw [List.length_range] at h1
      rw [List.getElem_range] at h2
      subst h2
      refine ⟨h1, fun y H' hy => ?_⟩
      obtain ⟨rfl, rfl⟩ := hy
      exact ⟨.refl, s, .int _⟩
  · show (hi - lo).toNat ≤ (rng lo hi).length
    simp [rng]
def okRng (j : Int) : Bool := decide (j.natAbs < 4611686018427387904)
theorem okRng_ok {j : Int} (h : okRng j = true) : -(2 ^ 62) ≤ j ∧ j < 2 ^ 62 := by
  have q : j.natAbs < 4611686018427387904 := of_decide_eq_true h
  have q' : -4611686018427387904 ≤ j ∧ j < 4611686018427387904 := by omega
  exact q'
def iRg1 (f : EM D) : EM Sq := fun τ st => (f τ st).bind fun d s1 => match d with
  | .int j => if okRng j then .ok (.fix (rng 0 j)) s1 else .bad
  | _ => .bad
def iRg2 (fa fb : EM D) : EM Sq := fun τ st => (fa τ st).bind fun d s1 => (fb τ s1).bind fun e s2 => match d, e with
  | .int i, .int j => if okRng i && okRng j then .ok (.fix (rng i j)) s2 else .bad
  | _, _ => .bad
theorem ei_range1 {tg : Expr} (hg : Gl X "range") (hm : X.mg "range" = none) (ha : Ex X W a fa) (hs : starEach [a] X.env = [(false, eval a X.env)] := by rfl) : Ei X W tg (.Call (.Name "range" p) [a] [] pos) (iRg1 fa) := by
  refine ⟨fun m τ st σ H R hL hS hP pins s I => (pi_range1 (tg := tg) hg hm (pa_cons peW pa_nil (by rw [hs]; rfl)) hs).run pins s σ H R I (ha.run m τ st σ H _ hL hS (hP.bind fun d s1 m1 H1 v e1 hS1 r1 hP1 => ?_))⟩
  split at hP1
  · split at hP1
    · rename_i j hj
      cases r1
      obtain ⟨q1, q2⟩ := okRng_ok hj
      refine ⟨j, rfl, q1, q2, hP1.now hS1 ?_⟩
      have z := j_rng (K := X.K) (m0 := m1) (H0 := H1) 0 j
      rw [Int.sub_zero] at z
      exact z
    · exact hP1.elim
  · exact hP1.elim
theorem ei_range2 {tg : Expr} (hg : Gl X "range") (hm : X.mg "range" = none) (ha : Ex X W a fa) (hb : Ex X W b fb) (hs : starEach [a, b] X.env = [(false, eval a X.env), (false, eval b X.env)] := by rfl) (hs2 : starEach [b] X.env = [(false, eval b X.env)] := by rfl) :
    Ei X W tg (.Call (.Name "range" p) [a, b] [] pos) (iRg2 fa fb) := by
  refine ⟨fun m τ st σ H R hL hS hP pins s I => (pi_range2 (tg := tg) hg hm (pa_cons peW (pa_cons peW pa_nil (by rw [hs2]; rfl)) (by rw [hs, hs2])) hs hs2).run pins s σ H R I ?_⟩
  refine two ha hb hL hS hP fun m2 st2 H2 dx dy x y e2 hS2 r1 r2 hP2 => ?_
  split at hP2
  · split at hP2
    · rename_i i j hij
      cases r1
      cases r2
      rw [Bool.and_eq_true] at hij
      obtain ⟨q1, q2⟩ := okRng_ok hij.1
      obtain ⟨q3, q4⟩ := okRng_ok hij.2
      exact ⟨i, j, rfl, ⟨q1, q2, q3, q4⟩, hP2.now hS2 (j_rng i j)⟩
    · exact hP2.elim
  · exact hP2.elim

/-! ### comprehensions -/
def wipeD (τ : Sl) : List Nat → Sl
  | [] => τ
  | v :: vs => (wipeD τ vs).set v none
theorem wipeD_some {τ : Sl} {i : Nat} {d : D} : ∀ {vs : List Nat}, (wipeD τ vs)[i]? = some (some d) → τ[i]? = some (some d) ∧ i ∉ vs
  | [], h => ⟨h, by simp⟩
  | v :: vs, h => by
    unfold wipeD at h
    by_cases hi : v = i
    · subst hi
      by_cases hv : v < (wipeD τ vs).length
      · rw [List.getElem?_set_self hv] at h
        cases h
      · rw [List.getElem?_eq_none (by simpa using hv)] at h
        cases h
    · rw [List.getElem?_set_ne hi] at h
      obtain ⟨h1, h2⟩ := wipeD_some h
      exact ⟨h1, by simp only [List.mem_cons, not_or]; exact ⟨fun e => hi e.symm, h2⟩⟩
theorem wipeD_len (τ : Sl) : ∀ vs : List Nat, (wipeD τ vs).length = τ.length
  | [] => rfl
  | v :: vs => by unfold wipeD; rw [List.length_set, wipeD_len τ vs]
theorem SL.wipe {K : PySem.W.Frag} {m : List Addr} {H : Hp} {τ : Sl} {σ : L2.St} (s : SL K m H τ σ) (vs : List Nat) : SL K m H (wipeD τ vs) (L2.wipe σ vs) :=
  ⟨by rw [wipeD_len, wipe_length, s.len], fun i d h => by
    obtain ⟨h1, h2⟩ := wipeD_some h
    obtain ⟨v, h3, h4⟩ := s.get i d h1
    exact ⟨v, by rw [wipe_out h2]; exact h3, h4⟩⟩
theorem wipe_same {σ σ' : L2.St} {vs : List Nat} (hl : σ'.length = σ.length) (h : ∀ j, j ∉ vs → σ'[j]? = σ[j]?) : L2.wipe σ' vs = L2.wipe σ vs := by
  apply List.ext_getElem?
  intro i
  by_cases hi : i ∈ vs
  · have z : ∀ (τ : L2.St) (us : List Nat), i ∈ us → (L2.wipe τ us)[i]? = if i < τ.length then some none else none := by
      intro τ us
      induction us with
      | nil => intro q; cases q
      | cons u us ih =>
        intro q
        unfold L2.wipe
        by_cases hu : u = i
        · subst hu
          split
          · rename_i hlt
            rw [List.getElem?_set_self (by rw [wipe_length]; exact hlt)]
          · rename_i hlt
            exact List.getElem?_eq_none (by rw [List.length_set, wipe_length]; omega)
        · rw [List.getElem?_set_ne hu]
          exact ih ((List.mem_cons.mp q).resolve_left fun e => hu e.symm)
    rw [z σ' vs hi, z σ vs hi, hl]
  · rw [wipe_out hi, wipe_out hi, h i hi]
/-- no exception leaves here -/
def _root_.HM.ER.bindN {α β : Type} (r : ER α) (k : α → Store → ER β) : ER β := match r with
  | .ok a st => k a st
  | _ => .bad
@[simp] theorem _root_.HM.ER.bindN_ok {α β : Type} (a : α) (st : Store) (k : α → Store → ER β) : (ER.ok a st).bindN k = k a st := rfl
theorem Pe.bindN {α β γ δ : Type} {K : PySem.W.Frag} {E E' : XK} {R : List Addr → Hp → α → β → Prop} {S : List Addr → Hp → γ → δ → Prop} {m : List Addr} {H : Hp} {r : ER α} {Q : β → Hp → Prop} {k : α → Store → ER γ} {Q' : δ → Hp → Prop} (h : Pe K E S m H (r.bindN k) Q')
    (hk : ∀ a st m' H' b, Ext K m H m' H' → SS K m' st H' → R m' H' a b → Pe K E S m' H' (k a st) Q' → Q b H') : Pe K E' R m H r Q := by
  cases r with
  | ok a st => exact fun m' H' b e s q => hk a st m' H' b e s q (Pe.up h e)
  | exc x st => exact h.elim
  | bad => exact h
/-- .. read from an earlier heap -/
theorem Pe.from {α β γ δ : Type} {K : PySem.W.Frag} {E E' : XK} {R : List Addr → Hp → α → β → Prop} {S : List Addr → Hp → γ → δ → Prop} {m m1 : List Addr} {H H1 : Hp} {r : ER α} {Q : β → Hp → Prop} {k : α → Store → ER γ} {Q' : δ → Hp → Prop} (h : Pe K E S m1 H1 (r.bindN k) Q')
    (hk : ∀ a st m' H' b, Ext K m H m' H' → SS K m' st H' → R m' H' a b → Pe K E S m1 H1 (k a st) Q' → Q b H') : Pe K E' R m H r Q := by
  cases r with
  | ok a st => exact fun m' H' b e s q => hk a st m' H' b e s q h
  | exc x st => exact h.elim
  | bad => exact h
/-- the turns of a comprehension -/
def compL (q : Sq) (set : D → Sl → Option Sl) (ft : EM Bool) (fe : EM D) (τ : Sl) : List D → List D → Store → ER (List D)
  | [], acc => fun st => if q.chk st then .ok acc st else .bad
  | d :: ds, acc => fun st => if q.chk st then match set d τ with
    | some τ1 => (ft τ1 st).bindN fun b s1 => if b then (fe τ1 s1).bindN fun x s2 => compL q set ft fe τ ds (acc ++ [x]) s2 else compL q set ft fe τ ds acc s1
    | none => .bad
  else .bad
def lComp (own : List Nat) (fi : EM Sq) (set : D → Sl → Option Sl) (ft : EM Bool) (fe : EM D) : EM (List D) := fun τ st => (fi τ st).bind fun q s1 =>
  if q.items.length ≤ 16777216 then compL q set ft fe (wipeD τ own) q.items [] s1 else .bad
/-- tests of a comprehension -/
def wTs (X : Cx) (ifs : List Expr) : TT := fun σ H Q => ∀ (pins : List (Addr × Obj)) (s : Shared), Inv X pins σ H s → wpAny (model X.prog X.w) X.A (forIn ifs true fun c r => if r = true then do let ok ← isTrue c X.env (eval c X.env); pure (ForInStep.yield ok) else pure (ForInStep.yield r)) (TP X pins σ Q) X.xe s
theorem ptsW {X : Cx} {ifs : List Expr} : PTs X ifs (wTs X ifs) := ⟨fun pins s σ H Q I h => h pins s I⟩
structure Ets (X : Cx) (W : WX) (ifs : List Expr) (f : EM Bool) : Prop where
  run : ∀ (m : List Addr) (τ : Sl) (st : Store) (σ : L2.St) (H : Hp) (Q : Bool → Hp → Prop), SL X.K m H τ σ → SS X.K m st H → Pe X.K (fun c d H' => W c d σ H') RB m H (f τ st) Q → wTs X ifs σ H Q
def tYes : EM Bool := fun _ st => .ok true st
theorem ets_nil : Ets X W [] tYes := ⟨fun m τ st σ H Q hL hS hP pins s I => pts_nil.run pins s σ H Q I (hP.now hS rfl)⟩
theorem ets_one (h : Et X W e g) : Ets X W [e] g := ⟨fun m τ st σ H Q hL hS hP pins s I => (pts_one ptW).run pins s σ H Q I (h.run m τ st σ H Q hL hS hP)⟩
abbrev W0 : WX := fun _ _ _ _ => False
/-- the context of a block, whatever it starts at -/
abbrev Blk (X : Cx) (scope : Scope) (P : Cx → Prop) : Prop := ∀ (s : Shared) (H : Hp) (C : Addr) (cl : List (Str × Addr)) (fp : List Addr), P (X.blk s H scope (compEnvC scope cl C X.env) fp)
abbrev BEx (X : Cx) (scope : Scope) (elt : Expr) (fe : EM D) : Prop := ∀ (s : Shared) (H : Hp) (C : Addr) (cl : List (Str × Addr)) (fp : List Addr), Ex (X.blk s H scope (compEnvC scope cl C X.env) fp) W0 elt fe
abbrev BEt (X : Cx) (scope : Scope) (ifs : List Expr) (ft : EM Bool) : Prop := ∀ (s : Shared) (H : Hp) (C : Addr) (cl : List (Str × Addr)) (fp : List Addr), Ets (X.blk s H scope (compEnvC scope cl C X.env) fp) W0 ifs ft
abbrev BEg (X : Cx) (scope : Scope) (tg : Expr) (ix : List Nat) (set : D → Sl → Option Sl) : Prop := ∀ (s : Shared) (H : Hp) (C : Addr) (cl : List (Str × Addr)) (fp : List Addr), Eg (X.blk s H scope (compEnvC scope cl C X.env) fp) tg ix set
def gAll (X : Cx) (scope : Scope) (tg : Expr) : TG := fun v σ H Q => Blk X scope fun Y => wG Y tg v σ H Q
def tAll (X : Cx) (scope : Scope) (ifs : List Expr) : TT := fun σ H Q => Blk X scope fun Y => wTs Y ifs σ H Q
def eAll (X : Cx) (scope : Scope) (e : Expr) : TE := fun σ H Q => Blk X scope fun Y => wE Y e σ H Q
/-- one turn after another -/
theorem comp_read {tg elt : Expr} {ifs : List Expr} {scope : Scope} {ix own : List Nat} {set : D → Sl → Option Sl} {ft : EM Bool} {fe : EM D} (hown : ∀ i ∈ ix, i ∈ own) (hg : BEg X scope tg ix set) (ht : BEt X scope ifs ft) (he : BEx X scope elt fe)
    {m0 : List Addr} {τ : Sl} {σ : L2.St} {H0 H1 : Hp} {st0 : Store} {m1 : List Addr} {q : Sq} {J : It} {Q : VK} {E : XK} (e1 : Ext X.K m0 H0 m1 H1) (hL : SL X.K m1 H1 τ σ) (hS : SS X.K m1 st0 H1) (hJ : JOk X.K m1 H1 q J) (hz : q.items.length ≤ 16777216)
    (hP : Pe X.K E (fun m' H' ds v => ∃ a vs, v = .ref a ∧ H' a = some (.lst vs) ∧ a ∉ m' ∧ H0 a = none ∧ RDs X.K m' H' ds vs) m1 H1 (compL q set ft fe (wipeD τ own) q.items [] st0) Q) (D' : Addr) (hD : H1 D' = none) :
    ∃ W : Nat → Nat → Hp → Prop, (∃ m, W 0 m (upd H1 D' (.lst []))) ∧ ∀ i m H, W i m H →
      (J.stop i H ∧ Q (.ref D') H) ∨ (J.go i H ∧ ∃ Nx : Hp → Prop, (∀ H', Nx H' → ∃ m', m' < m ∧ W (i + 1) m' H') ∧ ∀ x H', J.yld i H x H' → gAll X scope tg x (L2.wipe σ own) H' fun σ2 H2 => L2.wipe σ2 own = L2.wipe σ own ∧ tAll X scope ifs σ2 H2 fun b H3 =>
        if b = true then eAll X scope elt σ2 H3 fun y H4 => ∃ acc, H4 D' = some (.lst acc) ∧ acc.length < sizeLine ∧ Nx (upd H4 D' (.lst (acc ++ [y]))) else Nx H3) := by
  have hD0 : H0 D' = none := e1.back hS hD
  have hn : D' ∉ m1 := hS.notin hD
  obtain ⟨Z, hZ⟩ : ∃ Z : Nat → Hp → Prop, Z = fun i H => i ≤ q.items.length ∧ ∃ (m : List Addr) (st : Store) (acc : List D) (vs : List V), Ext X.K m1 H1 m H ∧ D' ∉ m ∧ SS X.K m st H ∧ H D' = some (.lst vs) ∧ RDs X.K m H acc vs ∧ acc.length ≤ i ∧
    Pe X.K E (fun m' H' ds v => ∃ a vs, v = .ref a ∧ H' a = some (.lst vs) ∧ a ∉ m' ∧ H0 a = none ∧ RDs X.K m' H' ds vs) m1 H1 (compL q set ft fe (wipeD τ own) (q.items.drop i) acc st) Q := ⟨_, rfl⟩
  refine ⟨fun i k H => k = q.items.length - i ∧ Z i H, ⟨_, rfl, ?_⟩, ?_⟩
  · rw [hZ]
    refine ⟨Nat.zero_le _, m1, st0, [], [], Ext.fresh hD, hn, hS.fresh hD, upd_same, .nil, Nat.le_refl _, ?_⟩
    rw [List.drop_zero]
    exact hP
  · rintro i k H ⟨rfl, hZi⟩
    rw [hZ] at hZi
    obtain ⟨hi, m, st, acc, vs, e, hm, s, hd, rs, hacc, hP⟩ := hZi
    by_cases hlt : i < q.items.length
    · rw [List.drop_eq_getElem_cons hlt] at hP
      unfold compL at hP
      split at hP
      · rename_i hc
        obtain ⟨hgo, _⟩ := hJ m H st e s hc
        obtain ⟨go, yl⟩ := hgo i q.items[i] (by simp [hlt])
        split at hP
        · rename_i τ1 hset
          refine .inr ⟨go, Z (i + 1), fun H' h => ⟨q.items.length - (i + 1), by omega, rfl, h⟩, fun x H' hy s0 H0' C cl fp => ?_⟩
          obtain ⟨e2, s2, r2⟩ := yl x H' hy
          refine (hg s0 H0' C cl fp).run m _ τ1 st _ H' _ x _ ((hL.mono (e.trans e2)).wipe own) s2 r2 hset fun σ2 l1 l2 hL2 => ?_
          have l3 : σ2.length = σ.length := by rw [l1, wipe_length]
          have l4 : ∀ j, j ∉ own → σ2[j]? = σ[j]? := fun j hj => by rw [l2 j fun z => hj (hown j z), wipe_out hj]
          refine ⟨wipe_same l3 l4, fun s0 H0' C cl fp => ?_⟩
          have keep : ∀ {m' : List Addr} {H' : Hp}, Ext X.K m H m' H' → H' D' = some (.lst vs) ∧ D' ∉ m' := fun {m' H'} e => by
            refine ⟨e.frm D' _ hm hd, fun z => ?_⟩
            have q := e.new D' z hm
            rw [hd] at q
            cases q
          refine (ht s0 H0' C cl fp).run m τ1 st σ2 H' _ hL2 s2 (Pe.from (m := m) (H := H') hP fun b s3 m3 H3 b' e3 hS3 r3 hP3 => ?_)
          subst r3
          cases b with
          | false =>
            refine iteF ?_
            rw [hZ]
            obtain ⟨k1, k2⟩ := keep (e2.trans e3)
            exact ⟨by omega, m3, s3, acc, vs, e.trans (e2.trans e3), k2, hS3, k1, rs.mono (e2.trans e3), by omega, hP3⟩
          | true =>
            refine iteT fun s0 H0' C cl fp => (he s0 H0' C cl fp).run m3 τ1 s3 σ2 H3 _ (hL2.mono e3) hS3 (Pe.from (m := m3) (H := H3) (k := fun x s2 => compL q set ft fe (wipeD τ own) (List.drop (i + 1) q.items) (acc ++ [x]) s2) hP3 fun y s4 m4 H4 y' e4 hS4 r4 hP4 => ?_)
            obtain ⟨k1, k2⟩ := keep ((e2.trans e3).trans e4)
            have rs4 := rs.mono ((e2.trans e3).trans e4)
            have hz' : vs.length < sizeLine := by
              rw [← rs.len, PySem.sizeLine_eq]
              omega
            have e5 : Ext X.K m1 H1 m4 H4 := e.trans ((e2.trans e3).trans e4)
            have e6 : Ext X.K m1 H1 m4 (upd H4 D' (.lst (vs ++ [y']))) := {
              pre := e5.pre
              tup := fun a us h => (Kp.write (K := X.K) (m := m4) k1).tup a us (e5.tup a us h)
              fzl := fun a us h => (Kp.write (K := X.K) (m := m4) k1).fzl a us (e5.fzl a us h)
              frm := fun a o q h => by
                rw [upd_ne (ne_of_none h hD)]
                exact e5.frm a o q h
              new := e5.new }
            refine ⟨vs, k1, hz', ?_⟩
            rw [hZ]
            refine ⟨by omega, m4, s4, acc ++ [y], vs ++ [y'], e6, k2, hS4.other k1 k2, upd_same, (rs4.append (.cons r4 .nil)).kp (Kp.write k1), by rw [List.length_append, List.length_singleton]; omega, ?_⟩
            exact hP4
        · exact hP.elim
      · exact hP.elim
    · have e0 : i = q.items.length := by omega
      subst e0
      rw [List.drop_length] at hP
      unfold compL at hP
      split at hP
      · rename_i hc
        obtain ⟨_, stop⟩ := hJ m H st e s hc
        exact .inl ⟨stop, hP m H (.ref D') e s ⟨D', vs, rfl, hd, hm, hD0, rs⟩⟩
      · exact hP.elim
end
end HM

/-! HM, part 6: list comprehensions, statements. -/
namespace HM
open PySem PySem.Spec PyProof.Rows L2
section
variable {X : Cx} {W : WX} {e a b c : Expr} {es rest : List Expr} {pos p : Pos} {f fa fb fc : EM D} {fs : EM (List D)} {g ga gb : EM Bool}
theorem comp_post {tg elt iter : Expr} {ifs : List Expr} {scope : Scope} {own : List (Str × Nat)} {ix : List Nat} {set : D → Sl → Option Sl} {ft : EM Bool} {fe : EM D} {fi : EM Sq} (hi : Ei X W tg iter fi) (hown : ∀ i ∈ ix, i ∈ own.map (·.2))
    (hg : BEg X scope tg ix set) (ht : BEt X scope ifs ft) (he : BEx X scope elt fe) {m : List Addr} {τ : Sl} {st : Store} {σ : L2.St} {H : Hp} {Q : VK} (hL : SL X.K m H τ σ) (hS : SS X.K m st H)
    (hP : Pe X.K (fun c d H' => W c d σ H') (fun m' H' ds v => ∃ a vs, v = .ref a ∧ H' a = some (.lst vs) ∧ a ∉ m' ∧ H a = none ∧ RDs X.K m' H' ds vs) m H (lComp (own.map (·.2)) fi set ft fe τ st) Q) :
    tLc (wI X tg iter) (gAll X scope tg) (tAll X scope ifs) (eAll X scope elt) (own.map (·.2)) σ H Q := by
  unfold lComp at hP
  refine hi.run m τ st σ H _ hL hS ?_
  cases hq : fi τ st with
  | bad =>
    rw [hq] at hP
    exact hP.elim
  | exc x s1 =>
    rw [hq] at hP
    exact hP
  | ok q s1 =>
    rw [hq] at hP
    intro m1 H1 J e1 hS1 hJ D' hD
    have hP : Pe X.K (fun c d H' => W c d σ H') (fun m' H' ds v => ∃ a vs, v = .ref a ∧ H' a = some (.lst vs) ∧ a ∉ m' ∧ H a = none ∧ RDs X.K m' H' ds vs) m H (if q.items.length ≤ 16777216 then compL q set ft fe (wipeD τ (own.map (·.2))) q.items [] s1 else .bad) Q := hP
    split at hP
    · rename_i hz
      exact comp_read (E := fun c d H' => W c d σ H') hown hg ht he e1 (hL.mono e1) hS1 hJ hz (hP.up e1) D' hD
    · exact hP.elim
theorem el_comp {tg elt iter : Expr} {ifs : List Expr} {scope : Scope} {own : List (Str × Nat)} {ix : List Nat} {set : D → Sl → Option Sl} {ft : EM Bool} {fe : EM D} {fi : EM Sq} (hc : X.calm = true) (hN : X.N.Nodup) (hi : Ei X W tg iter fi) (ok : BlkOk X.N X.env.scope scope own)
    (hg : BEg X scope tg ix set) (ht : BEt X scope ifs ft) (he : BEx X scope elt fe) (hown : ∀ i ∈ ix, i ∈ own.map (·.2) := by decide) (hs : ∀ x, foldedSetIterable iter X.env x = pure x := by intro _; rfl) :
    El X W (.ListComp elt [⟨tg, iter, ifs, 0⟩] scope pos) (lComp (own.map (·.2)) fi set ft fe) := by
  refine ⟨fun m τ st σ H Q hL hS hP pins s I => ?_⟩
  refine (pe_lc (g := gAll X scope tg) (tt := tAll X scope ifs) (te := eAll X scope elt) hc hN piW ok ?_ ?_ ?_ hs).run pins s σ H Q I (comp_post hi hown hg ht he hL hS hP)
  · exact fun s H C cl fp => ⟨fun pins s' σ H' v u Q I r h => h s H C cl fp pins s' u I r⟩
  · exact fun s H C cl fp => ⟨fun pins s' σ H' Q I h => h s H C cl fp pins s' I⟩
  · exact fun s H C cl fp => ⟨fun pins s' σ H' Q I h => h s H C cl fp pins s' I⟩
end

/-! ### statements -/
/-- behind a statement -/
def Ps (K : PySem.W.Frag) (W : WX) (m : List Addr) (H : Hp) (r : SR) (D : Ends) : Prop := match r with
  | .nx τ st => ∀ m' H' σ, Ext K m H m' H' → SS K m' st H' → SL K m' H' τ σ → D.nx σ H'
  | .bk τ st => ∀ m' H' σ, Ext K m H m' H' → SS K m' st H' → SL K m' H' τ σ → D.bk σ H'
  | .ct τ st => ∀ m' H' σ, Ext K m H m' H' → SS K m' st H' → SL K m' H' τ σ → D.ct σ H'
  | .rt d st => ∀ m' H' v, Ext K m H m' H' → SS K m' st H' → RD K m' H' d v → D.rt v H'
  | .exc x τ st => ∀ m' H' σ c d, Ext K m H m' H' → SS K m' st H' → SL K m' H' τ σ → XR K m' H' x c d → W c d σ H'
  | .bad => False
theorem Ps.up {K : PySem.W.Frag} {W : WX} {m m1 : List Addr} {H H1 : Hp} {r : SR} {D : Ends} (h : Ps K W m H r D) (e : Ext K m H m1 H1) : Ps K W m1 H1 r D := by
  cases r with
  | nx τ st => exact fun m' H' σ e' => h m' H' σ (e.trans e')
  | bk τ st => exact fun m' H' σ e' => h m' H' σ (e.trans e')
  | ct τ st => exact fun m' H' σ e' => h m' H' σ (e.trans e')
  | rt d st => exact fun m' H' σ e' => h m' H' σ (e.trans e')
  | exc x τ st => exact fun m' H' σ c d e' => h m' H' σ c d (e.trans e')
  | bad => exact h
def wS (X : Cx) (st : Stmt) : TS := fun D σ H => ∀ (pins : List (Addr × Obj)) (s : Shared), Inv X pins σ H s → wpAny (model X.prog X.w) X.A (exec st X.env) (SP X pins D) X.xe s
def wSs (X : Cx) (st : List Stmt) : TS := fun D σ H => ∀ (pins : List (Addr × Obj)) (s : Shared), Inv X pins σ H s → wpAny (model X.prog X.w) X.A (execs st X.env) (SP X pins D) X.xe s
theorem psW {X : Cx} {st : Stmt} : PS X st (wS X st) := ⟨fun pins s σ H D I h => h pins s I⟩
theorem pssW {X : Cx} {st : List Stmt} : PSs X st (wSs X st) := ⟨fun pins s σ H D I h => h pins s I⟩
structure Sx (X : Cx) (W : WX) (st : Stmt) (f : SM) : Prop where
  run : ∀ (m : List Addr) (τ : Sl) (s : Store) (σ : L2.St) (H : Hp) (D : Ends), SL X.K m H τ σ → SS X.K m s H → Ps X.K W m H (f τ s) D → wS X st D σ H
structure Sxs (X : Cx) (W : WX) (st : List Stmt) (f : SM) : Prop where
  run : ∀ (m : List Addr) (τ : Sl) (s : Store) (σ : L2.St) (H : Hp) (D : Ends), SL X.K m H τ σ → SS X.K m s H → Ps X.K W m H (f τ s) D → wSs X st D σ H
/-- an expression, then the rest of a statement -/
def bindE {α : Type} (r : ER α) (τ : Sl) (k : α → Store → SR) : SR := match r with
  | .ok a st => k a st
  | .exc x st => .exc x τ st
  | .bad => .bad
@[simp] theorem bindE_ok {α : Type} (a : α) (st : Store) (τ : Sl) (k : α → Store → SR) : bindE (.ok a st) τ k = k a st := rfl
@[simp] theorem bindE_exc {α : Type} (x : Xc) (st : Store) (τ : Sl) (k : α → Store → SR) : bindE (.exc x st : ER α) τ k = .exc x τ st := rfl
@[simp] theorem bindE_bad {α : Type} (τ : Sl) (k : α → Store → SR) : bindE (.bad : ER α) τ k = .bad := rfl
theorem Ps.bind {α β : Type} {K : PySem.W.Frag} {W : WX} {R : List Addr → Hp → α → β → Prop} {m : List Addr} {H : Hp} {r : ER α} {τ : Sl} {σ : L2.St} {k : α → Store → SR} {D : Ends} {Q : β → Hp → Prop} (hL : SL K m H τ σ) (h : Ps K W m H (bindE r τ k) D)
    (hk : ∀ a st m' H' b, Ext K m H m' H' → SS K m' st H' → R m' H' a b → Ps K W m' H' (k a st) D → Q b H') : Pe K (fun c d H' => W c d σ H') R m H r Q := by
  cases r with
  | ok a st => exact fun m' H' b e s q => hk a st m' H' b e s q (Ps.up h e)
  | exc x st => exact fun m' H' c d e s q => h m' H' σ c d e s (hL.mono e) q
  | bad => exact h
def sSeq (f g : SM) : SM := fun τ st => match f τ st with
  | .nx τ1 s1 => g τ1 s1
  | r => r
def sNil : SM := fun τ st => .nx τ st
section
variable {X : Cx} {W : WX} {e a b c : Expr} {es rest : List Expr} {pos p : Pos} {fa fb fc fe : EM D} {fs : EM (List D)} {g ga gb : EM Bool} {s1 : Stmt} {ss body : List Stmt} {f h k : SM}
theorem sx_nil : Sxs X W [] sNil := ⟨fun m τ s σ H D hL hS hP pins sh I => pss_nil.run pins sh σ H D I (hP m H σ .refl hS hL)⟩
theorem sx_cons (h1 : Sx X W s1 f) (h2 : Sxs X W ss h) : Sxs X W (s1 :: ss) (sSeq f h) := by
  refine ⟨fun m τ s σ H D hL hS hP pins sh I => (pss_cons psW pssW).run pins sh σ H D I (h1.run m τ s σ H _ hL hS ?_)⟩
  unfold sSeq at hP
  cases hq : f τ s with
  | nx τ1 s1 =>
    rw [hq] at hP
    exact fun m1 H1 σ1 e1 hS1 hL1 => h2.run m1 τ1 s1 σ1 H1 D hL1 hS1 (hP.up e1)
  | bk τ1 s1 =>
    rw [hq] at hP
    exact hP
  | ct τ1 s1 =>
    rw [hq] at hP
    exact hP
  | rt d s1 =>
    rw [hq] at hP
    exact hP
  | exc x τ1 s1 =>
    rw [hq] at hP
    exact hP
  | bad =>
    rw [hq] at hP
    exact hP
theorem sx_one (h1 : Sx X W s1 f) : Sxs X W [s1] f := by
  refine ⟨fun m τ s σ H D hL hS hP pins sh I => (pss_one psW).run pins sh σ H D I (h1.run m τ s σ H _ hL hS hP)⟩
theorem sx_pass : Sx X W (.Pass pos) sNil := ⟨fun m τ s σ H D hL hS hP pins sh I => ps_pass.run pins sh σ H D I (hP m H σ .refl hS hL)⟩
def sBrk : SM := fun τ st => .bk τ st
def sCnt : SM := fun τ st => .ct τ st
theorem sx_break : Sx X W (.Break pos) sBrk := ⟨fun m τ s σ H D hL hS hP pins sh I => ps_break.run pins sh σ H D I (hP m H σ .refl hS hL)⟩
theorem sx_continue : Sx X W (.Continue pos) sCnt := ⟨fun m τ s σ H D hL hS hP pins sh I => ps_continue.run pins sh σ H D I (hP m H σ .refl hS hL)⟩
def sRet (fe : EM D) : SM := fun τ st => bindE (fe τ st) τ fun d s1 => .rt d s1
theorem sx_ret (he : Ex X W e fe) : Sx X W (.Return (some e) pos) (sRet fe) := by
  refine ⟨fun m τ s σ H D hL hS hP pins sh I => (ps_ret peW).run pins sh σ H D I ?_⟩
  exact he.run m τ s σ H _ hL hS (hP.bind hL fun d s1 m1 H1 v e1 hS1 r1 hP1 => hP1 m1 H1 v .refl hS1 r1)
def sRetN : SM := fun _ st => .rt .non st
theorem sx_retN : Sx X W (.Return none pos) sRetN := ⟨fun m τ s σ H D hL hS hP pins sh I => ps_retN.run pins sh σ H D I (hP m H .non .refl hS .non)⟩
def sExpr (fe : EM D) : SM := fun τ st => bindE (fe τ st) τ fun _ s1 => .nx τ s1
theorem sx_expr (he : Ex X W e fe) (hs : swapsWith e none pos.line X.env = pure false := by rfl) : Sx X W (.Expr e pos) (sExpr fe) := by
  refine ⟨fun m τ s σ H D hL hS hP pins sh I => (ps_expr peW hs).run pins sh σ H D I ?_⟩
  exact he.run m τ s σ H _ hL hS (hP.bind hL fun d s1 m1 H1 v e1 hS1 r1 hP1 => hP1 m1 H1 σ .refl hS1 (hL.mono e1))
def sIf (g : EM Bool) (f h : SM) : SM := fun τ st => bindE (g τ st) τ fun b s1 => if b then f τ s1 else h τ s1
theorem sx_if {sa sb : List Stmt} (hc : Et X W c g) (ha : Sxs X W sa f) (hb : Sxs X W sb h) : Sx X W (.If c sa sb pos) (sIf g f h) := by
  refine ⟨fun m τ s σ H D hL hS hP pins sh I => (ps_if ptW pssW pssW).run pins sh σ H D I ?_⟩
  refine hc.run m τ s σ H _ hL hS (hP.bind hL fun d s1 m1 H1 v e1 hS1 r1 hP1 => ?_)
  subst r1
  cases d with
  | true => exact iteT (ha.run m1 τ s1 σ H1 D (hL.mono e1) hS1 hP1)
  | false => exact iteF (hb.run m1 τ s1 σ H1 D (hL.mono e1) hS1 hP1)
/-- name = e -/
def sSet (i : Nat) (fe : EM D) : SM := fun τ st => bindE (fe τ st) τ fun d s1 => .nx (τ.set i (some d)) s1
theorem sx_set {i : Nat} {x : Str} {pos' : Pos} (hN : X.N.Nodup) (he : Ex X W e fe) (hi : X.N[i]? = some x := by rfl) (hx : Loc X.env.scope x := by first | exact Or.inl rfl | exact Or.inr rfl) (hs : swapsWith e (some (.Name x pos')) pos.line X.env = pure false := by rfl)
    (hf : X.fn x = true ∨ X.env.scope.names.lookup x = some .local := by first | exact .inl rfl | exact .inr rfl) : Sx X W (.Assign [.Name x pos'] e pos) (sSet i fe) := by
  refine ⟨fun m τ s σ H D hL hS hP pins sh I => (ps_set hN hi hx peW hs hf).run pins sh σ H D I ?_⟩
  exact he.run m τ s σ H _ hL hS (hP.bind hL fun d s1 m1 H1 v e1 hS1 r1 hP1 => hP1 m1 H1 _ .refl hS1 ((hL.mono e1).set i r1))
/-- target = e -/
def sAsg (set : D → Sl → Option Sl) (fe : EM D) : SM := fun τ st => bindE (fe τ st) τ fun d s1 => match set d τ with
  | some τ1 => .nx τ1 s1
  | none => .bad
theorem sx_asg {tg : Expr} {ix : List Nat} {set : D → Sl → Option Sl} (he : Ex X W e fe) (hg : Eg X tg ix set) (hs : swapsWithSole [tg] e pos.line X.env = pure false := by rfl) (hw : swappedStores [tg] e X.env = pure none := by rfl) (h1 : (assignEach [tg] X.env).map (·.2) = [assign tg X.env] := by rfl) : Sx X W (.Assign [tg] e pos) (sAsg set fe) := by
  refine ⟨fun m τ s σ H D hL hS hP pins sh I => (ps_asg peW pgW hs hw h1).run pins sh σ H D I ?_⟩
  refine he.run m τ s σ H _ hL hS (hP.bind hL fun d s1 m1 H1 v e1 hS1 r1 hP1 => ?_)
  split at hP1
  · rename_i τ1 hset
    exact hg.run m1 τ τ1 s1 σ H1 d v _ (hL.mono e1) hS1 r1 hset fun σ2 _ _ hL2 => hP1 m1 H1 σ2 .refl hS1 hL2
  · exact hP1.elim
/-- name op= e -/
def sAug (i : Nat) (o : O2) (fe : EM D) : SM := fun τ st => match τ[i]? with
  | some (some x) => bindE (fe τ st) τ fun y s1 => bindE (o x y s1) τ fun z s2 => .nx (τ.set i (some z)) s2
  | _ => .bad
theorem sx_aug {i : Nat} {x : Str} {pos' : Pos} {op : Operator} {o : O2} (hN : X.N.Nodup) (he : Ex X W e fe) (ho : OpM X W (inplaceOp op) o) (hi : X.N[i]? = some x := by rfl) (hx : Loc X.env.scope x := by first | exact Or.inl rfl | exact Or.inr rfl)
    (hf : X.fn x = true ∨ X.env.scope.names.lookup x = some .local := by first | exact .inl rfl | exact .inr rfl) : Sx X W (.AugAssign (.Name x pos') op e pos) (sAug i o fe) := by
  refine ⟨fun m τ s σ H D hL hS hP pins sh I => ?_⟩
  unfold sAug at hP
  split at hP
  · rename_i d0 hd0
    obtain ⟨v0, h1, h2⟩ := hL.get i d0 hd0
    obtain ⟨mm, hn, hl⟩ := I.loc
    have vis : Vis X.env.scope x := by
      rcases hx with k | k
      · exact .inl k
      · exact .inr (.inl k)
    obtain ⟨u0, r0, l⟩ := hl i x v0 hi h1 vis
    refine wpAny_AugAssign_Name ?_
    have go : wpAny (model X.prog X.w) X.A (eval e X.env) (fun w s₂ => wpAny (model X.prog X.w) X.A (inplaceOp op u0 w) (fun r s₃ => wpAny (model X.prog X.w) X.A (storeName X.env x r) (fun _ => SP X pins D .next) X.xe s₃) X.xe s₂) X.xe sh := by
      refine thn (he.run m τ s σ H (fun y H1 => wR2 X (inplaceOp op) σ v0 y H1 fun z H2 => D.nx (σ.set i (some z)) H2) hL hS (hP.bind hL fun dy s1 m1 H1 y e1 hS1 r1 hP1 pins s v u I rx ry => ?_) pins sh I) fun w s1 ⟨y, H1, I1, r1, q1⟩ => ?_
      · exact ho m1 s1 σ H1 d0 dy v0 y _ hS1 (h2.mono e1) r1 (hP1.bind (hL.mono e1) fun dz s2 m2 H2 z e2 hS2 r2 hP2 => hP2 m2 H2 _ .refl hS2 (((hL.mono e1).mono e2).set i r2)) pins s v u I rx ry
      · refine thn (q1 pins s1 u0 w I1 r0 r1) fun z s2 ⟨zv, H2, I2, r2, q2⟩ => ?_
        exact store_ok I2 hN hi hx r2 (fun s3 I3 => ⟨_, H2, I3, q2⟩) hf
    rcases l with ⟨hk, hm⟩ | ⟨hk, c, hc, hcell⟩
    · exact wpAny_loadName_local I.ok.kind hk hn hm go
    · rcases hk with hk | hk
      · exact wpAny_loadName_cell I.ok.kind hk hc hcell go
      · rcases hx with k | k
        · have : X.env.scope.names.lookup x = some .free := hk
          rw [k] at this
          cases this
        · have : X.env.scope.names.lookup x = some .free := hk
          rw [k] at this
          cases this
  · exact hP.elim
/-- o[i] = e (a list) -/
def oSet : D → D → D → Store → Option Store := fun o i v st => match o, i with
  | .ref n, .int k => match lstAt st n with
    | some xs => match ixN xs.length k with
      | some j => some (st.set n (.lst (xs.set j v)))
      | none => none
    | none => none
  | _, _ => none
/-- the order: the value, then the object, then the index -/
def sSub (fo fi fe : EM D) : SM := fun τ st => bindE (fe τ st) τ fun v s1 => bindE (fo τ s1) τ fun o s2 => bindE (fi τ s2) τ fun i s3 => match oSet o i v s3 with
  | some s4 => .nx τ s4
  | none => .bad
theorem set_read {K : PySem.W.Frag} {m : List Addr} {st st' : Store} {H : Hp} {o i v : D} {vo vi vv : V} (hS : SS K m st H) (ro : RD K m H o vo) (ri : RD K m H i vi) (rv : RD K m H v vv) (h : oSet o i v st = some st') :
    ∃ p xs k j, vo = .ref p ∧ vi = .int k ∧ H p = some (.lst xs) ∧ ixN xs.length k = some j ∧ Ext K m H m (upd H p (.lst (xs.set j vv))) ∧ SS K m st' (upd H p (.lst (xs.set j vv))) := by
  unfold oSet at h
  split at h
  · split at h
    · rename_i xs hx
      split at h
      · rename_i j hj
        cases h
        cases ro with
        | ref q =>
          cases ri
          obtain ⟨vs, h1, h2⟩ := hS.list hx q
          exact ⟨_, vs, _, j, rfl, rfl, h1, by rw [← h2.len]; exact hj, Ext.write h1 q, hS.write h1 q (h2.set rv j)⟩
      · cases h
    · cases h
  · cases h
theorem sx_sub {o i : Expr} {p' : Pos} {fo fi : EM D} (he : Ex X W e fe) (ho : Ex X W o fo) (hi : Ex X W i fi)
    (ha : ∀ v, assign (.Subscript o i p') X.env v = (do
      let ov ← holding [v] (eval o X.env)
      let iv ← holding [v, ov] (eval i X.env)
      standAt p'
      holding [v, ov, iv] (setItem ov iv v)
      release [v, ov, iv] []) := by intro _; rfl)
    (hs : swapsWithSole [.Subscript o i p'] e pos.line X.env = pure false := by rfl) (hw : swappedStores [.Subscript o i p'] e X.env = pure none := by rfl) (h1 : (assignEach [.Subscript o i p'] X.env).map (·.2) = [assign (.Subscript o i p') X.env] := by rfl) : Sx X W (.Assign [.Subscript o i p'] e pos) (sSub fo fi fe) := by
  refine ⟨fun m τ s σ H D hL hS hP pins sh I => (ps_asg peW (pg_sub peW peW set_list ha) hs hw h1).run pins sh σ H D I ?_⟩
  refine he.run m τ s σ H _ hL hS (hP.bind hL fun v s1 m1 H1 vv e1 hS1 r1 hP1 => ?_)
  refine ho.run m1 τ s1 σ H1 _ (hL.mono e1) hS1 (hP1.bind (hL.mono e1) fun o s2 m2 H2 vo e2 hS2 r2 hP2 => ?_)
  refine hi.run m2 τ s2 σ H2 _ ((hL.mono e1).mono e2) hS2 (hP2.bind ((hL.mono e1).mono e2) fun i s3 m3 H3 vi e3 hS3 r3 hP3 => ?_)
  split at hP3
  · rename_i s4 h4
    obtain ⟨p, xs, k, j, q1, q2, q3, q4, q5, q6⟩ := set_read hS3 (r2.mono e3) r3 ((r1.mono e2).mono e3) h4
    exact ⟨p, xs, k, j, q1, q2, q3, q4, hP3 m3 _ σ q5 q6 ((((hL.mono e1).mono e2).mono e3).mono q5)⟩
  · exact hP3.elim
/-- o[i] op= e -/
def oGetL : O2 := fun x i st => match x, i with
  | .ref n, .int k => match lstAt st n with
    | some xs => match atI xs k with
      | some d => .ok d st
      | none => .bad
    | none => .bad
  | _, _ => .bad
def sAugS (o : O2) (fo fi fe : EM D) : SM := fun τ st => bindE (fo τ st) τ fun x s1 => bindE (fi τ s1) τ fun i s2 => bindE (oGetL x i s2) τ fun y s3 => bindE (fe τ s3) τ fun z s4 => bindE (o y z s4) τ fun v s5 => match oSet x i v s5 with
  | some s6 => .nx τ s6
  | none => .bad
theorem get_list : PGet X (rIxL X.K) := by
  intro pins s σ H x y v u Q I rx ry h
  obtain ⟨p, xs, i, z, rfl, rfl, hq, he, q⟩ := h
  cases rx
  obtain ⟨t, rfl⟩ := ry
  obtain ⟨its, r, pl, hz⟩ := I.list hq
  obtain ⟨j, h1, h2, h3, h4, h5⟩ := atI_get he
  obtain ⟨w, ew, rw'⟩ := r.get h2
  have hl := r.length
  have hn := line63
  have fin : EP X pins σ Q w s := ⟨z, H, I, rw', q⟩
  by_cases h0 : 0 ≤ i
  · have hj : i.toNat = j := by
      rw [seqIndex_of h0 h5] at h1
      exact Option.some.inj h1
    exact wpAny_getItem_list pl.isList h0 (by omega) (by rw [hj]; simpa using ew) fin
  · have hj : (i + (its.toArray.size : Int)).toNat = j := by
      rw [seqIndex_neg (by omega) h4] at h1
      rw [List.size_toArray, ← hl]
      exact Option.some.inj h1
    exact wpAny_getItem_list_neg pl.isList (by omega) (by rw [List.size_toArray] <;> omega) (by omega) (by rw [hj]; simpa using ew) fin
theorem getL_read {K : PySem.W.Frag} {E : XK} {m : List Addr} {st : Store} {H : Hp} {x i : D} {vx vi : V} {Q : VK} (hS : SS K m st H) (rx : RD K m H x vx) (ri : RD K m H i vi) (h : Pe K E (RD K) m H (oGetL x i st) Q) : rIxL K vx vi H Q := by
  unfold oGetL at h
  split at h
  · split at h
    · split at h
      · rename_i xs hx _ d hd
        cases rx with
        | ref q =>
          cases ri
          obtain ⟨vs, h1, h2⟩ := hS.list hx q
          obtain ⟨v, h3, h4⟩ := atI_rds h2 hd
          exact ⟨_, vs, _, v, rfl, rfl, SqL.of h1, h3, h.now hS h4⟩
      · exact h.elim
    · exact h.elim
  · exact h.elim
theorem sx_augS {o i : Expr} {p' : Pos} {fo fi : EM D} {op : Operator} {op2 : O2} (ho : Ex X W o fo) (hi : Ex X W i fi) (he : Ex X W e fe) (hop : OpM X W (inplaceOp op) op2)
    (ha : ∀ ov iv new, augStore i ov iv new = (do holding [new, ov, iv] (setItem ov iv new); release [new, ov, iv] []; pure .next) := by intros; rfl) : Sx X W (.AugAssign (.Subscript o i p') op e pos) (sAugS op2 fo fi fe) := by
  refine ⟨fun m τ s σ H D hL hS hP pins sh I => ?_⟩
  have read : wE X o σ H fun vo H1 => wE X i σ H1 fun vi H2 => rIxL X.K vo vi H2 fun vy H3 => wE X e σ H3 fun vz H4 => wR2 X (inplaceOp op) σ vy vz H4 fun vv H5 => rSetL vo vi vv H5 fun H6 => D.nx σ H6 := by
    refine ho.run m τ s σ H _ hL hS (hP.bind hL fun dx s1 m1 H1 vx e1 hS1 r1 hP1 => ?_)
    have hL1 := hL.mono e1
    refine hi.run m1 τ s1 σ H1 _ hL1 hS1 (hP1.bind hL1 fun di s2 m2 H2 vi e2 hS2 r2 hP2 => ?_)
    have hL2 := hL1.mono e2
    refine getL_read hS2 (r1.mono e2) r2 (hP2.bind hL2 fun dy s3 m3 H3 vy e3 hS3 r3 hP3 => ?_)
    have hL3 := hL2.mono e3
    refine he.run m3 τ s3 σ H3 _ hL3 hS3 (hP3.bind hL3 fun dz s4 m4 H4 vz e4 hS4 r4 hP4 => ?_)
    have hL4 := hL3.mono e4
    intro pins s v u I rv ru
    refine hop m4 s4 σ H4 dy dz vy vz _ hS4 (r3.mono e4) r4 (hP4.bind hL4 fun dv s5 m5 H5 vv e5 hS5 r5 hP5 => ?_) pins s v u I rv ru
    have hL5 := hL4.mono e5
    split at hP5
    · rename_i s6 h6
      have e25 := ((e3.trans e4).trans e5)
      obtain ⟨p, xs, k, j, q1, q2, q3, q4, q5, q6⟩ := set_read hS5 ((r1.mono e2).mono e25) (r2.mono e25) r5 h6
      exact ⟨p, xs, k, j, q1, q2, q3, q4, hP5 m5 _ σ q5 q6 (hL5.mono q5)⟩
    · exact hP5.elim
  refine wpAny_AugAssign_SubscriptAny (thn (read pins sh I) fun ov s1 ⟨x1, H1, I1, r1, q1⟩ => ?_) ha
  refine thn (q1 pins s1 I1) fun iv s2 ⟨x2, H2, I2, r2, q2⟩ => ?_
  refine thn (get_list pins s2 σ H2 x1 x2 ov iv _ I2 r1 r2 q2) fun old s3 ⟨x3, H3, I3, r3, q3⟩ => ?_
  refine thn (q3 pins s3 I3) fun v s4 ⟨x4, H4, I4, r4, q4⟩ => ?_
  refine thn (q4 pins s4 old v I4 r3 r4) fun new s5 ⟨x5, H5, I5, r5, q5⟩ => ?_
  exact thn (set_list pins s5 σ H5 x1 x2 x5 ov iv new _ I5 r1 r2 r5 q5) fun _ s6 ⟨H6, I6, q6⟩ => ⟨σ, H6, I6, q6⟩
/-! ### loops -/
def forL (q : Sq) (set : D → Sl → Option Sl) (body : SM) : List D → SM
  | [], τ, st => if q.chk st then .nx τ st else .bad
  | d :: ds, τ, st => if q.chk st then match set d τ with
    | some τ1 => match body τ1 st with
      | .nx τ2 s2 => forL q set body ds τ2 s2
      | .ct τ2 s2 => forL q set body ds τ2 s2
      | .bk τ2 s2 => .nx τ2 s2
      | r => r
    | none => .bad
  else .bad
def sFor (fi : EM Sq) (set : D → Sl → Option Sl) (body : SM) : SM := fun τ st => bindE (fi τ st) τ fun q s1 => forL q set body q.items τ s1
theorem sx_for {tg iter : Expr} {ix : List Nat} {set : D → Sl → Option Sl} {fi : EM Sq} (hp : PassesOwn (model X.prog X.w) X.A X.env X.xe) (hc : X.calm = true) (hi : Ei X W tg iter fi) (hg : Eg X tg ix set) (hb : Sxs X W body f) (hs : ∀ x, foldedSetIterable iter X.env x = pure x := by intro _; rfl) : Sx X W (.For tg iter body [] pos) (sFor fi set f) := by
  refine ⟨fun m τ s σ H D hL hS hP pins sh I => (ps_for hp hc piW pgW pssW hs).run pins sh σ H D I ?_⟩
  refine hi.run m τ s σ H _ hL hS (hP.bind hL fun q s1 m1 H1 J e1 hS1 hJ hP1 => ?_)
  refine ⟨fun i k σ H => k = q.items.length - i ∧ i ≤ q.items.length ∧ ∃ (m : List Addr) (τ : Sl) (st : Store), Ext X.K m1 H1 m H ∧ SS X.K m st H ∧ SL X.K m H τ σ ∧ Ps X.K W m H (forL q set f (q.items.drop i) τ st) D, ⟨_, rfl, Nat.zero_le _, m1, τ, s1, .refl, hS1, hL.mono e1, by rw [List.drop_zero]; exact hP1⟩, ?_⟩
  rintro i k σ H ⟨rfl, hi, m, τ, st, e, hS, hL, hP⟩
  by_cases hlt : i < q.items.length
  · rw [List.drop_eq_getElem_cons hlt] at hP
    unfold forL at hP
    split at hP
    · rename_i hc
      obtain ⟨hgo, _⟩ := hJ m H st e hS hc
      obtain ⟨go, yl⟩ := hgo i q.items[i] (by simp [hlt])
      split at hP
      · rename_i τ1 hset
        refine .inr ⟨go, fun σ' H' => i + 1 ≤ q.items.length ∧ ∃ (m : List Addr) (τ : Sl) (st : Store), Ext X.K m1 H1 m H' ∧ SS X.K m st H' ∧ SL X.K m H' τ σ' ∧ Ps X.K W m H' (forL q set f (q.items.drop (i + 1)) τ st) D, fun σ' H' h => ⟨q.items.length - (i + 1), by omega, rfl, h⟩, fun x H' hy => ?_⟩
        obtain ⟨e2, s2, r2⟩ := yl x H' hy
        refine hg.run m τ τ1 st σ H' _ x _ (hL.mono e2) s2 r2 hset fun σ2 _ _ hL2 => ?_
        refine hb.run m τ1 st σ2 H' _ hL2 s2 ?_
        have hP := hP.up e2
        cases hq : f τ1 st with
        | nx τ2 s3 =>
          rw [hq] at hP
          exact fun m3 H3 σ3 e3 hS3 hL3 => ⟨by omega, m3, τ2, s3, e.trans (e2.trans e3), hS3, hL3, hP.up e3⟩
        | ct τ2 s3 =>
          rw [hq] at hP
          exact fun m3 H3 σ3 e3 hS3 hL3 => ⟨by omega, m3, τ2, s3, e.trans (e2.trans e3), hS3, hL3, hP.up e3⟩
        | bk τ2 s3 =>
          rw [hq] at hP
          exact hP
        | rt d s3 =>
          rw [hq] at hP
          exact hP
        | exc x τ2 s3 =>
          rw [hq] at hP
          exact hP
        | bad =>
          rw [hq] at hP
          exact hP
      · exact hP.elim
    · exact hP.elim
  · have e0 : i = q.items.length := by omega
    subst e0
    rw [List.drop_length] at hP
    unfold forL at hP
    split at hP
    · rename_i hc
      obtain ⟨_, stop⟩ := hJ m H st e hS hc
      exact .inl ⟨stop, hP m H σ .refl hS hL⟩
    · exact hP.elim
/-- more turns than any loop here takes -/
@[irreducible] def big : Nat := 2 ^ 20000
theorem le_big {k n : Nat} (hk : k ≤ 20000) (h : n ≤ 2 ^ k) : n ≤ big := by
  unfold big
  exact Nat.le_trans h (Nat.pow_le_pow_right (by decide) hk)
/-- while, at most n turns -/
def whileN (g : EM Bool) (body : SM) : Nat → SM
  | 0, _, _ => .bad
  | n + 1, τ, st => bindE (g τ st) τ fun b s1 => if b then match body τ s1 with
      | .nx τ2 s2 => whileN g body n τ2 s2
      | .ct τ2 s2 => whileN g body n τ2 s2
      | .bk τ2 s2 => .nx τ2 s2
      | r => r
    else .nx τ s1
theorem sx_while {c : Expr} (n : Nat) (hp : PassesOwn (model X.prog X.w) X.A X.env X.xe) (hc : Et X W c g) (hb : Sxs X W body f) : Sx X W (.While c body [] pos) (whileN g f n) := by
  refine ⟨fun m τ s σ H D hL hS hP pins sh I => (ps_while hp ptW pssW).run pins sh σ H D I ?_⟩
  refine ⟨fun k σ H => ∃ (m : List Addr) (τ : Sl) (st : Store), SS X.K m st H ∧ SL X.K m H τ σ ∧ Ps X.K W m H (whileN g f k τ st) D, ⟨n, m, τ, s, hS, hL, hP⟩, ?_⟩
  rintro k σ H ⟨m, τ, st, hS, hL, hP⟩
  cases k with
  | zero => exact hP.elim
  | succ k =>
    refine hc.run m τ st σ H _ hL hS (hP.bind hL fun b s1 m1 H1 b' e1 hS1 r1 hP1 => ?_)
    subst r1
    cases b with
    | false => exact iteF (hP1 m1 H1 σ .refl hS1 (hL.mono e1))
    | true =>
      refine iteT ⟨fun σ' H' => ∃ (m : List Addr) (τ : Sl) (st : Store), SS X.K m st H' ∧ SL X.K m H' τ σ' ∧ Ps X.K W m H' (whileN g f k τ st) D, fun σ' H' h => ⟨k, Nat.lt_succ_self k, h⟩, ?_⟩
      refine hb.run m1 τ s1 σ H1 _ (hL.mono e1) hS1 ?_
      have hP1 : Ps X.K W m1 H1 (match f τ s1 with
        | .nx τ2 s2 => whileN g f k τ2 s2
        | .ct τ2 s2 => whileN g f k τ2 s2
        | .bk τ2 s2 => .nx τ2 s2
        | r => r) D := hP1
      cases hq : f τ s1 with
      | nx τ2 s3 =>
        rw [hq] at hP1
        exact fun m3 H3 σ3 e3 hS3 hL3 => ⟨m3, τ2, s3, hS3, hL3, hP1.up e3⟩
      | ct τ2 s3 =>
        rw [hq] at hP1
        exact fun m3 H3 σ3 e3 hS3 hL3 => ⟨m3, τ2, s3, hS3, hL3, hP1.up e3⟩
      | bk τ2 s3 =>
        rw [hq] at hP1
        exact hP1
      | rt d s3 =>
        rw [hq] at hP1
        exact hP1
      | exc x τ2 s3 =>
        rw [hq] at hP1
        exact hP1
      | bad =>
        rw [hq] at hP1
        exact hP1
end
end HM

/-! HM, part 7: raise, try; defs; the law's end. -/
namespace HM
open PySem PySem.Spec PyProof.Rows L2
section
variable {X : Cx} {W : WX} {e a b c : Expr} {es rest : List Expr} {pos p : Pos} {fa fb fc fe : EM D} {fs : EM (List D)} {g ga gb : EM Bool} {s1 : Stmt} {ss body suite : List Stmt} {f h k : SM}
def sRaise (x : Xc) : SM := fun τ st => .exc x τ st
theorem sx_raiseB {T N I : String} {x : Str} {m : Str} {j : Nat} {p2 pos' : Pos} (hc : X.calm = true) (tk : Takes X W) (F : ExcB T N I) (hg : Gl X x) (hm : X.mg x = none) (hv : bootBuiltins x = some (.type T)) (hn : x ≠ "__name__" := by decide) (hdb : (x == ("__debug__" : Str)) = false := by decide) :
    Sx X W (.Raise (some (.Call (.Name x p) [.Constant (.str m) j p2] [] pos)) none pos') (sRaise ⟨.ty T, []⟩) :=
  ⟨fun m τ s σ H D hL hS hP pins sh I => (ps_raiseB hc tk F hg hm hv hn hdb).run pins sh σ H D I (hP m H σ _ _ .refl hS hL ⟨rfl, rfl⟩)⟩
def sTry (f : SM) (mt : D → Option Bool) (h : SM) : SM := fun τ st => match f τ st with
  | .exc x τ1 s1 => match mt x.cls with
    | some true => h τ1 s1
    | some false => .exc x τ1 s1
    | none => .bad
  | r => r
theorem sx_try {x : Str} {c : Value} {b₀ : Stmt} {np pos' : Pos} {mt : D → Option Bool} (hs : X.stack = X.env :: X.outer) (hf : X.env.frame = some X.env.locals) (hc : Names X x c) (tk : Takes X W) (hmt : ∀ (m : List Addr) (H : Hp) (y : Xc) (cls : Value) (d : Option Addr) (b : Bool), XR X.K m H y cls d → mt y.cls = some b → PySem.W.exmOne X.K cls c = some b)
    (hb : ∀ (W : WX) (pn : List (Addr × Obj)) (xe : Value → Shared → Prop), Takes (X.tr pn xe) W → PassesOwn (model X.prog X.w) X.A X.env xe → Sxs (X.tr pn xe) W body f)
    (hsu : ∀ (a : Addr) (oe : Obj) (pn : List (Addr × Obj)), Sxs (X.suite a ((a, oe) :: pn)) (fun _ _ _ _ => False) (b₀ :: suite) h)
    (hno : ∀ τ st x τ1 s1, h τ st ≠ .exc x τ1 s1) : Sx X W (.Try body [.ExceptHandler (some (.Name x np)) none (b₀ :: suite) pos'] [] [] pos) (sTry f mt h) := by
  refine ⟨fun m τ s σ H D hL hS hP pins sh I => ?_⟩
  refine (ps_try_only (tb := fun W => fun D σ H => ∀ (pn : List (Addr × Obj)) (xe : Value → Shared → Prop), Takes (X.tr pn xe) W → PassesOwn (model X.prog X.w) X.A X.env xe → wSs (X.tr pn xe) body D σ H)
    (ts := fun a cls d => fun D σ H => ∀ (oe : Obj) (pn : List (Addr × Obj)), wSs (X.suite a ((a, oe) :: pn)) (b₀ :: suite) D σ H) hs hf hc tk (fun W pn xe t1 t2 => ⟨fun pins s σ H D I h => h pn xe t1 t2 pins s I⟩) (fun a oe cls d pn _ _ => ⟨fun pins s σ H D I h => h oe pn pins s I⟩)).run pins sh σ H D I ?_
  intro pn xe t1 t2
  refine (hb _ pn xe t1 t2).run m τ s σ H D hL hS ?_
  unfold sTry at hP
  cases hq : f τ s with
  | exc y τ1 s1 =>
    rw [hq] at hP
    intro m1 H1 σ1 cls d e1 hS1 hL1 hX
    have hP : Ps X.K W m H (match mt y.cls with
      | some true => h τ1 s1
      | some false => .exc y τ1 s1
      | none => .bad) D := hP
    cases hm : mt y.cls with
    | none =>
      rw [hm] at hP
      exact hP.elim
    | some b =>
      rw [hm] at hP
      refine ⟨b, hmt m1 H1 y cls d b hX hm, fun hb' a na oe pn => ?_, fun hb' => ?_⟩
      · subst hb'
        refine (hsu a oe pn).run m1 τ1 s1 σ1 H1 D hL1 hS1 ?_
        have hP := hP.up e1
        cases hh : h τ1 s1 with
        | exc x τ2 s2 => exact absurd hh (hno _ _ _ _ _)
        | nx _ _ =>
          have hP : Ps X.K W m1 H1 (h τ1 s1) D := hP
          rw [hh] at hP
          exact hP
        | bk _ _ =>
          have hP : Ps X.K W m1 H1 (h τ1 s1) D := hP
          rw [hh] at hP
          exact hP
        | ct _ _ =>
          have hP : Ps X.K W m1 H1 (h τ1 s1) D := hP
          rw [hh] at hP
          exact hP
        | rt _ _ =>
          have hP : Ps X.K W m1 H1 (h τ1 s1) D := hP
          rw [hh] at hP
          exact hP
        | bad =>
          have hP : Ps X.K W m1 H1 (h τ1 s1) D := hP
          rw [hh] at hP
          exact hP
      · subst hb'
        exact hP m1 H1 σ1 cls d e1 hS1 hL1 hX
  | nx _ _ =>
    rw [hq] at hP
    exact hP
  | bk _ _ =>
    rw [hq] at hP
    exact hP
  | ct _ _ =>
    rw [hq] at hP
    exact hP
  | rt _ _ =>
    rw [hq] at hP
    exact hP
  | bad =>
    rw [hq] at hP
    exact hP
end

/-- does a built-in class catch -/
def mtB (T : String) : D → Option Bool
  | .ty n => if n = T then some true else none
  | _ => none
theorem mtB_of {K : PySem.W.Frag} {T : String} (h : PySem.W.exmOne K (.type T) (.type T) = some true) (m : List Addr) (H : Hp) (y : Xc) (cls : Value) (d : Option Addr) (b : Bool) (hx : XR K m H y cls d) (hm : mtB T y.cls = some b) : PySem.W.exmOne K cls (.type T) = some b := by
  unfold mtB at hm
  split at hm
  · rename_i n e
    split at hm
    · rename_i hn
      subst hn
      cases hm
      unfold XR at hx
      rw [e] at hx
      obtain ⟨rfl, _⟩ := hx
      exact h
    · cases hm
  · cases hm
theorem mtB_ZeroDivisionError {K : PySem.W.Frag} : ∀ (m : List Addr) (H : Hp) (y : Xc) (cls : Value) (d : Option Addr) (b : Bool), XR K m H y cls d → mtB "ZeroDivisionError" y.cls = some b → PySem.W.exmOne K cls (.type "ZeroDivisionError") = some b := mtB_of (by kernel_rfl)
/-! ### defs -/
/-- the slots at a def's entry -/
def ent (n : Nat) (ds : List D) : Sl := ds.map some ++ List.replicate (n - ds.length) none
def runB (n : Nat) (fb : SM) : FM := fun ds st => match fb (ent n ds) st with
  | .nx _ s => .ok .non s
  | .rt d s => .ok d s
  | .exc x _ s => .exc x s
  | _ => .bad
theorem SL.start {K : PySem.W.Frag} {m : List Addr} {H : Hp} {N : List Str} {ds : List D} {vs : List V} (r : RDs K m H ds vs) : SL K m H (ent N.length ds) (L2.start N vs) where
  len := by simp [ent, L2.start, r.len]
  get := fun i d h => by
    unfold ent at h
    by_cases hi : i < ds.length
    · rw [List.getElem?_append_left (by simpa using hi), List.getElem?_map] at h
      cases hd : ds[i]? with
      | none =>
        rw [hd] at h
        cases h
      | some d' =>
        rw [hd] at h
        simp only [Option.map_some, Option.some.injEq] at h
        subst h
        obtain ⟨v, h1, h2⟩ := r.get hd
        refine ⟨v, ?_, h2⟩
        unfold L2.start
        rw [List.getElem?_append_left (by simpa [← r.len] using hi), List.getElem?_map, h1]
        rfl
    · rw [List.getElem?_append_right (by simpa using hi)] at h
      have z := List.mem_of_getElem? h
      have z2 := List.eq_of_mem_replicate z
      cases z2
section
variable {P : Program} {w : World} {K : PySem.W.Frag} {mg : Str → Option Value} {base : Heap} {x qual : Str} {params : Arguments} {body : List Stmt} {scope : Scope} {dvs : List V} {kws : List (Str × V)} {f : Addr} {fd : FuncData} {N ps : List Str} {k : Nat} {fb : SM}
/-- the context of a def's body -/
abbrev Cd (P : Program) (w : World) (K : PySem.W.Frag) (mg : Str → Option Value) (base : Heap) (N : List Str) (qual : Str) (scope : Scope) (f : Addr) (k : Nat) (B : Cx → WX → Prop) : Prop :=
  ∀ (cdv : Value) (A : Around) (outer : List Env) (s : Shared) (H : Hp) (E : XK), Room k (A.deeper (envOfC qual scope s.heap.objs.size f cdv)) → B (cxOf (L2.CX P w) P w K mg base N qual scope f cdv A outer s H E) (fun c d _ H => E c d H)
theorem fn_def (F : FunD K x qual params body scope dvs kws f fd) (S : FnScope N ps scope)
    (hb : ∀ (cdv : Value) (A : Around) (outer : List Env) (s : Shared) (H : Hp) (E : XK), Room k (A.deeper (envOfC qual scope s.heap.objs.size f cdv)) → Takes (cxOf (L2.CX P w) P w K mg base N qual scope f cdv A outer s H E) (fun c d _ H => E c d H) →
      PassesOwn (model P w) (A.deeper (envOfC qual scope s.heap.objs.size f cdv)) (envOfC qual scope s.heap.objs.size f cdv) (cxOf (L2.CX P w) P w K mg base N qual scope f cdv A outer s H E).xe →
      Sxs (cxOf (L2.CX P w) P w K mg base N qual scope f cdv A outer s H E) (fun c d _ H => E c d H) body fb) : FnM P w K mg base (k + 1) f fd ps (runB N.length fb) := by
  refine F.ok S (fun vs H Q E ⟨m, st, ds, hl, hS, r, _⟩ => by rw [← r.len, hl]) (fun cdv A outer s H vs Q E hr ⟨m, st, ds, hl, hS, r, hP⟩ => ?_)
  refine ⟨_, pssW, (hb cdv A outer s H E hr (takes_of rfl rfl rfl rfl) (passes_of rfl)).run m (ent N.length ds) st (L2.start N vs) H _ (SL.start r) hS ?_⟩
  unfold runB at hP
  cases hq : fb (ent N.length ds) st with
  | nx τ s1 =>
    rw [hq] at hP
    exact fun m1 H1 σ e1 hS1 hL1 => hP m1 H1 .non e1 hS1 .non
  | rt d s1 =>
    rw [hq] at hP
    exact hP
  | exc x τ s1 =>
    rw [hq] at hP
    exact fun m1 H1 σ c d e1 hS1 hL1 hX => hP m1 H1 c d e1 hS1 hX
  | bk τ s1 =>
    rw [hq] at hP
    exact hP.elim
  | ct τ s1 =>
    rw [hq] at hP
    exact hP.elim
  | bad =>
    rw [hq] at hP
    exact hP.elim
end

/-! ### what a def leaves behind may be forgotten -/
mutual
def D.lo (k : Nat) : D → Bool
  | .ref n => decide (n < k)
  | .tup xs => D.loAll k xs
  | .rol xs => D.loAll k xs
  | _ => true
def D.loAll (k : Nat) : List D → Bool
  | [] => true
  | d :: ds => D.lo k d && D.loAll k ds
end
def Cell.lo (k : Nat) : Cell → Bool
  | .lst xs => D.loAll k xs
section
variable {K : PySem.W.Frag} {m : List Addr} {H : Hp}
mutual
theorem RD.take {k : Nat} : ∀ {d : D} {v : V}, RD K m H d v → d.lo k = true → RD K (m.take k) H d v
  | _, _, .non, _ => .non
  | _, _, .bl b, _ => .bl b
  | _, _, .int i, _ => .int i
  | _, _, .str x, _ => .str x
  | _, _, .ty n, _ => .ty n
  | _, _, .adr a, _ => .adr a
  | _, _, .tup h r, q => .tup h (RDs.takeA r (by simpa only [D.lo] using q))
  | _, _, .rol h r, q => .rol h (RDs.takeA r (by simpa only [D.lo] using q))
  | _, _, .ref (n := n) h, q => .ref (by
    have z : n < k := of_decide_eq_true (by simpa only [D.lo] using q)
    rw [List.getElem?_take_of_lt z]
    exact h)
theorem RDs.takeA {k : Nat} : ∀ {ds : List D} {vs : List V}, RDs K m H ds vs → D.loAll k ds = true → RDs K (m.take k) H ds vs
  | _, _, .nil, _ => .nil
  | _, _, .cons h r, q => by
    simp only [D.loAll, Bool.and_eq_true] at q
    exact .cons (RD.take h q.1) (RDs.takeA r q.2)
end
mutual
theorem RD.is_lo {k : Nat} (hk : m.length ≤ k) : ∀ {d : D} {v : V}, RD K m H d v → d.lo k = true
  | _, _, .non => rfl
  | _, _, .bl b => rfl
  | _, _, .int i => rfl
  | _, _, .str x => rfl
  | _, _, .ty n => rfl
  | _, _, .adr a => rfl
  | _, _, .tup h r => by simpa only [D.lo] using RDs.is_lo hk r
  | _, _, .rol h r => by simpa only [D.lo] using RDs.is_lo hk r
  | _, _, .ref h => by
    simp only [D.lo, decide_eq_true_eq]
    exact Nat.lt_of_lt_of_le (List.getElem?_eq_some_iff.mp h).1 hk
theorem RDs.is_lo {k : Nat} (hk : m.length ≤ k) : ∀ {ds : List D} {vs : List V}, RDs K m H ds vs → D.loAll k ds = true
  | _, _, .nil => rfl
  | _, _, .cons h r => by simp only [D.loAll, RD.is_lo hk h, RDs.is_lo hk r, Bool.and_self]
end
theorem RC.is_lo {k : Nat} {a : Addr} {c : Cell} (hk : m.length ≤ k) (r : RC K m H a c) : c.lo k = true := by
  cases c with
  | lst ds =>
    obtain ⟨vs, _, r⟩ := r
    exact r.is_lo hk
theorem RC.take {k : Nat} {a : Addr} {c : Cell} (r : RC K m H a c) (h : c.lo k = true) : RC K (m.take k) H a c := by
  cases c with
  | lst ds =>
    obtain ⟨vs, q, r⟩ := r
    exact ⟨vs, q, r.takeA h⟩
/-- r' says no more than r, or the same with a shorter store -/
inductive Le (st : Store) : ER D → ER D → Prop
  | bad (r : ER D) : Le st r .bad
  | refl (r : ER D) : Le st r r
  | gc {v : D} {s1 : Store} (k : Nat) (hk : st.length ≤ k) (hv : v.lo k = true) (hc : ∀ (i : Nat) (c : Cell), i < k → s1[i]? = some c → st[i]? = some c ∨ c.lo k = true) : Le st (.ok v s1) (.ok v (s1.take k))
theorem Le.pe {E : XK} {st : Store} {r r' : ER D} {Q : VK} (l : Le st r r') (s : SS K m st H) (h : Pe K E (RD K) m H r' Q) : Pe K E (RD K) m H r Q := by
  cases l with
  | bad r => exact h.elim
  | refl r => exact h
  | @gc v s1 k hk hv hc =>
    intro m1 H1 b e1 hS1 r1
    refine h (m1.take k) H1 b ⟨⟨fun n a q => ?_, e1.tup, e1.fzl⟩, e1.frm, fun a q n => e1.new a (List.mem_of_mem_take q) n⟩ ⟨?_, ?_, fun n c a q1 q2 => ?_⟩ (r1.take hv)
    · have hl : n < m.length := (List.getElem?_eq_some_iff.mp q).1
      rw [s.len] at hl
      rw [List.getElem?_take_of_lt (Nat.lt_of_lt_of_le hl hk)]
      exact e1.pre n a q
    · rw [List.length_take, List.length_take, hS1.len]
    · exact hS1.nd.sublist (List.take_sublist _ _)
    · have hn : n < k := by
        have z := (List.getElem?_eq_some_iff.mp q1).1
        rw [List.length_take] at z
        omega
      rw [List.getElem?_take_of_lt hn] at q1 q2
      refine (hS1.cel n c a q1 q2).take ?_
      rcases hc n c hn q1 with z | z
      · obtain ⟨a0, _, r0⟩ := s.at z
        exact r0.is_lo (by rw [s.len]; exact hk)
      · exact z
theorem FnM.le {P : Program} {w : World} {mg : Str → Option Value} {base : Heap} {k : Nat} {f : Addr} {fd : FuncData} {ps : List Str} {mf sf : FM} (F : FnM P w K mg base k f fd ps mf) (h : ∀ ds st, Le st (mf ds st) (sf ds st)) : FnM P w K mg base k f fd ps sf :=
  FnOk.imp F fun vs H Q E ⟨m, st, ds, hl, hS, r, hP⟩ => ⟨m, st, ds, hl, hS, r, (h ds st).pe hS hP⟩
/-- a value without the store, the store but for what was laid on it -/
theorem Le.app {st more : Store} {v : D} (hv : v.lo st.length = true) : Le st (.ok v (st ++ more)) (.ok v st) := by
  have z := Le.gc (st := st) (v := v) (s1 := st ++ more) st.length (Nat.le_refl _) hv fun i c hi h => by
    rw [List.getElem?_append_left hi] at h
    exact .inl h
  rw [List.take_left] at z
  exact z
end

/-! ### the law -/
theorem law_sp {K : PySem.W.Frag} {mf : FM} {n : Nat} (h : ∀ ns : List Int, ns.length ≤ n → ∃ st, mf [.rol (ns.map D.int)] [] = .ok (.bl true) st) (H : Hp) (a : Addr) (ns : List Int) (hl : ns.length ≤ n) (ho : Only H) (hS : SqL K H a (ns.map V.int)) :
    spM K 1 mf [V.ref a] H (fun v _ => v = .bl true) (fun _ _ _ => False) := by
  obtain ⟨st, e⟩ := h ns hl
  refine ⟨[], [], [.rol (ns.map D.int)], rfl, ⟨rfl, .nil, fun n c a q => by simp at q⟩, .cons (.rol (FzL.of hS fun ys z => ?_) (RDs.ints ns)) .nil, ?_⟩
  · rcases ho a with q | ⟨o, xs, q⟩
    · rw [q] at z
      cases z
    · rw [q] at z
      cases z
  · rw [e]
    intro m' H' b _ _ r
    cases r
    rfl
end HM

/-! HM, part 8: defs as they are called; what a text is put together of. -/
namespace HM
open PySem PySem.Spec PyProof.Rows L2
section
variable {X : Cx} {W : WX} {e a b c : Expr} {es rest : List Expr} {pos p : Pos} {fa fb fc fe : EM D} {fs : EM (List D)} {g ga gb : EM Bool} {s1 : Stmt} {ss body suite : List Stmt} {f h k : SM}
/-- a name = [..] on one line -/
theorem sx_setLc {i : Nat} {y : Str} {py spos : Pos} {tg elt iter : Expr} {ifs : List Expr} {scope : Scope} {own : List (Str × Nat)} {ix : List Nat} {set : D → Sl → Option Sl} {ft : EM Bool} {fe : EM D} {fi : EM Sq} (hc : X.calm = true) (hN : X.N.Nodup) (hi : Ei X W tg iter fi) (ok : BlkOk X.N X.env.scope scope own)
    (hg : BEg X scope tg ix set) (ht : BEt X scope ifs ft) (he : BEx X scope elt fe) (hy : X.N[i]? = some y := by rfl) (hyl : X.env.scope.names.lookup y = some .local := by rfl)
    (hsw : swapsWith (.ListComp elt [⟨tg, iter, ifs, 0⟩] scope pos) (some (.Name y py)) spos.line X.env = pure true := by exact sw_true rfl rfl rfl (by decide +kernel)) (hown : ∀ i ∈ ix, i ∈ own.map (·.2) := by decide) (hs : ∀ x, foldedSetIterable iter X.env x = pure x := by intro _; rfl) :
    Sx X W (.Assign [.Name y py] (.ListComp elt [⟨tg, iter, ifs, 0⟩] scope pos) spos) (sSet i (eEl (lComp (own.map (·.2)) fi set ft fe))) := by
  refine ⟨fun m τ st σ H D hL hS hP pins s I => ?_⟩
  refine (ps_setLc (g := gAll X scope tg) (tt := tAll X scope ifs) (te := eAll X scope elt) hc hN hy hyl hsw piW ok ?_ ?_ ?_ hs).run pins s σ H D I (comp_post hi hown hg ht he hL hS ?_)
  · exact fun s H C cl fp => ⟨fun pins s' σ H' v u Q I r h => h s H C cl fp pins s' u I r⟩
  · exact fun s H C cl fp => ⟨fun pins s' σ H' Q I h => h s H C cl fp pins s' I⟩
  · exact fun s H C cl fp => ⟨fun pins s' σ H' Q I h => h s H C cl fp pins s' I⟩
  · unfold sSet eEl at hP
    cases hq : lComp (own.map (·.2)) fi set ft fe τ st with
    | ok ds s1 =>
      rw [hq] at hP
      intro m1 H1 v e1 hS1 ⟨a, vs, e, ha, na, hn, rs⟩
      subst e
      have e2 := e1.own hn
      have r2 : RD X.K (m1 ++ [a]) H1 (.ref s1.length) (.ref a) := .ref (by
        rw [← hS1.len]
        simp)
      exact hP (m1 ++ [a]) H1 _ e2 (hS1.grow na ⟨vs, ha, rs.kp Kp.grow⟩) ((hL.mono e2).set i r2)
    | exc x st' =>
      rw [hq] at hP
      exact fun m' H' c d e s q => hP m' H' σ c d e s (hL.mono e) q
    | bad =>
      rw [hq] at hP
      exact hP.elim

/-! ### defs by name -/
structure Cal (P : Program) (w : World) (K : PySem.W.Frag) (mg : Str → Option Value) (base : Heap) (x : Str) (k : Nat) (ps : List Str) (mf : FM) : Prop where
  ex : ∃ (f : Addr) (fd : FuncData), FnM P w K mg base k f fd ps mf ∧ mg x = some (.ref f) ∧ PySem.W.keepIn K (.ref f) = true ∧ Binds K fd ps [] ∧ ∃ oc od osl, K.lookup f = some ⟨oc, od, .func fd, osl⟩
theorem Cal.le {P : Program} {w : World} {K : PySem.W.Frag} {mg : Str → Option Value} {base : Heap} {x : Str} {k : Nat} {ps : List Str} {mf sf : FM} (c : Cal P w K mg base x k ps mf) (h : ∀ ds st, Le st (mf ds st) (sf ds st)) : Cal P w K mg base x k ps sf := by
  obtain ⟨f, fd, F, r⟩ := c.ex
  exact ⟨f, fd, F.le h, r⟩
theorem Cal.mono {P : Program} {w : World} {K : PySem.W.Frag} {mg : Str → Option Value} {base : Heap} {x : Str} {j k : Nat} {ps : List Str} {mf : FM} (c : Cal P w K mg base x j ps mf) (h : j ≤ k) : Cal P w K mg base x k ps mf := by
  obtain ⟨f, fd, F, r⟩ := c.ex
  exact ⟨f, fd, FnOk.mono F h, r⟩
theorem ex_c1 {P : Program} {w : World} {K : PySem.W.Frag} {mg : Str → Option Value} {base : Heap} {A : Around} {j k : Nat} {ps : List Str} {mf : FM} {x : Str} (c : Cal P w K mg base x j ps mf) (tk : Takes X W) (hr : Room k A) (hj : j ≤ k) (ha : Ea X W (e :: es) fs)
    (h1 : X.prog = P := by rfl) (h2 : X.w = w := by rfl) (h3 : X.K = K := by rfl) (h4 : X.mg = mg := by rfl) (h5 : X.base = base := by rfl) (h6 : X.A = A := by rfl) (hg : Gl X x := by rfl) (hdb : (x == ("__debug__" : Str)) = false := by decide) (he : starEach (e :: es) X.env = (false, eval e X.env) :: starEach es X.env := by rfl)
    (hpl : (backTo pos (starEach es X.env)).any (·.1) = false := by rfl) : Ex X W (.Call (.Name x p) (e :: es) [] pos) (eCall ps.length mf fs) := by
  subst h1 h2 h3 h4 h5 h6
  obtain ⟨f, fd, F, hm, hk, hb, _⟩ := c.ex
  exact ex_call tk F (hr.mono hj) hg hm hk hb ha hdb he hpl
theorem ex_c0 {P : Program} {w : World} {K : PySem.W.Frag} {mg : Str → Option Value} {base : Heap} {A : Around} {j k : Nat} {ps : List Str} {mf : FM} {x : Str} (c : Cal P w K mg base x j ps mf) (tk : Takes X W) (hr : Room k A) (hj : j ≤ k)
    (h1 : X.prog = P := by rfl) (h2 : X.w = w := by rfl) (h3 : X.K = K := by rfl) (h4 : X.mg = mg := by rfl) (h5 : X.base = base := by rfl) (h6 : X.A = A := by rfl) (hg : Gl X x := by rfl) (hdb : (x == ("__debug__" : Str)) = false := by decide) : Ex X W (.Call (.Name x p) [] [] pos) (eCall ps.length mf aNil) := by
  subst h1 h2 h3 h4 h5 h6
  obtain ⟨f, fd, F, hm, hk, hb, _⟩ := c.ex
  exact ex_call0 tk F (hr.mono hj) hg hm hk hb hdb
/-- in a comprehension nothing is let out -/
theorem tk0 : Takes X (fun _ _ _ _ => False) := takes0
end
/-- a def of the text -/
abbrev FnP (K : PySem.W.Frag) (x : Str) (st : Stmt) (f : Addr) (fd : FuncData) : Prop := FunD K x x (defArgs st) (defBody st) (defScope st) [] [] f fd
section
variable {P : Program} {w : World} {K : PySem.W.Frag} {mg : Str → Option Value} {base : Heap}
theorem cal_mk {x : Str} {st : Stmt} {f : Addr} {fd : FuncData} {N ps : List Str} {k : Nat} {fb : SM} (F : FnP K x st f fd) (S : FnScope N ps (defScope st)) (gx : mg x = some (.ref f))
    (bn : ∀ (kV doc pm : Value) (an : Option Addr) (cdv ct : Value) (us : List Value), us.length = ps.length → bindArgs (PySem.W.fnOf x x (defArgs st) (defBody st) (defScope st) .none kV doc pm an cdv ct) ⟨us, []⟩ = pure (ps.zip us))
    (hb : ∀ (cdv : Value) (A : Around) (outer : List Env) (s : Shared) (H : Hp) (E : XK), Room k (A.deeper (envOfC x (defScope st) s.heap.objs.size f cdv)) → Takes (cxOf (L2.CX P w) P w K mg base N x (defScope st) f cdv A outer s H E) (fun c d _ H => E c d H) →
      PassesOwn (model P w) (A.deeper (envOfC x (defScope st) s.heap.objs.size f cdv)) (envOfC x (defScope st) s.heap.objs.size f cdv) (cxOf (L2.CX P w) P w K mg base N x (defScope st) f cdv A outer s H E).xe →
      Sxs (cxOf (L2.CX P w) P w K mg base N x (defScope st) f cdv A outer s H E) (fun c d _ H => E c d H) (defBody st) fb) : Cal P w K mg base x (k + 1) ps (runB N.length fb) :=
  ⟨f, fd, fn_def F S hb, gx, F.kp, F.bindsN bn, let ⟨oc, od, _, _, _, _, _, _, _, osl, e, lk, _⟩ := F.ex; ⟨oc, od, osl, e ▸ lk⟩⟩
end
/-! ### what the built-in names hold -/
theorem bt_len : bootBuiltins "len" = some (.builtin "len") := by decide +kernel
theorem bt_abs : bootBuiltins "abs" = some (.builtin "abs") := by decide +kernel
theorem bt_isinstance : bootBuiltins "isinstance" = some (.builtin "isinstance") := by decide +kernel
theorem bt_min : bootBuiltins "min" = some (.builtin "min") := by decide +kernel
theorem bt_max : bootBuiltins "max" = some (.builtin "max") := by decide +kernel
theorem bt_sum : bootBuiltins "sum" = some (.builtin "sum") := by decide +kernel
theorem bt_all : bootBuiltins "all" = some (.builtin "all") := by decide +kernel
theorem bt_any : bootBuiltins "any" = some (.builtin "any") := by decide +kernel
theorem bt_sorted : bootBuiltins "sorted" = some (.builtin "sorted") := by decide +kernel
theorem bt_int : bootBuiltins "int" = some (.type "int") := by decide +kernel
theorem bt_bool : bootBuiltins "bool" = some (.type "bool") := by decide +kernel
theorem bt_str : bootBuiltins "str" = some (.type "str") := by decide +kernel
theorem bt_tuple : bootBuiltins "tuple" = some (.type "tuple") := by decide +kernel
theorem bt_list : bootBuiltins "list" = some (.type "list") := by decide +kernel
end HM

/-! HM, part 9: what the top leaves. -/
namespace HM
open PySem PySem.Spec PyProof.Rows L2
mutual
def conB (K : PySem.W.Frag) : D → Value → Bool
  | .non, .none => true
  | .bl a, .bool b => a == b
  | .int i, .int j _ => decide (i = j)
  | .str x, .str y _ => decide (y.cps.toList = x)
  | .tup ds, .ref a => match K.lookup a with
    | some ⟨.type c, _, .seq its _, _⟩ => decide (c = "tuple") && (decide (its.size ≤ sizeLine) && conAll K ds its.toList)
    | _ => false
  | _, _ => false
def conAll (K : PySem.W.Frag) : List D → List Value → Bool
  | [], [] => true
  | d :: ds, u :: us => conB K d u && conAll K ds us
  | _, _ => false
end
mutual
theorem conB_ok {K : PySem.W.Frag} : ∀ (d : D) (u : Value), conB K d u = true → ∃ v, RelV v u ∧ ∀ m H, RD K m H d v
  | .non, u, h => by
    cases u <;> simp [conB] at h
    exact ⟨.non, rfl, fun _ _ => .non⟩
  | .bl a, u, h => by
    cases u <;> simp [conB] at h
    subst h
    exact ⟨.bl _, rfl, fun _ _ => .bl _⟩
  | .int i, u, h => by
    cases u <;> simp [conB] at h
    subst h
    exact ⟨.int _, ⟨_, rfl⟩, fun _ _ => .int _⟩
  | .str x, u, h => by
    cases u <;> simp [conB] at h
    rename_i y t
    subst h
    refine ⟨.str y, ⟨_, rfl⟩, fun _ _ => ?_⟩
    have e : (⟨y.cps.toList.toArray⟩ : PySem.Str) = y := by simp
    have z := RD.str (K := K) (m := ‹_›) (H := ‹_›) y.cps.toList
    rw [e] at z
    exact z
  | .tup ds, u, h => by
    cases u with
    | ref a =>
      have h1 : (match K.lookup a with
        | some ⟨.type c, _, .seq its _, _⟩ => decide (c = "tuple") && (decide (its.size ≤ sizeLine) && conAll K ds its.toList)
        | _ => false) = true := by
        simpa only [conB] using h
      split at h1
      · rename_i c od its n osl e
        simp only [Bool.and_eq_true, decide_eq_true_eq] at h1
        obtain ⟨h2, h3, h4⟩ := h1
        subst h2
        obtain ⟨vs, r, q⟩ := conAll_ok ds its.toList h4
        exact ⟨.ref a, rfl, fun m H => .tup (.inr ⟨_, its, n, e, rfl, rfl, h3, r⟩) (q m H)⟩
      · cases h1
    | _ => simp [conB] at h
  | .ref _, u, h => by simp [conB] at h
  | .ty _, u, h => by simp [conB] at h
  | .adr _, u, h => by simp [conB] at h
  | .rol _, u, h => by simp [conB] at h
theorem conAll_ok {K : PySem.W.Frag} : ∀ (ds : List D) (us : List Value), conAll K ds us = true → ∃ vs, Vals vs us ∧ ∀ m H, RDs K m H ds vs
  | [], [], _ => ⟨[], .nil, fun _ _ => .nil⟩
  | [], _ :: _, h => by simp [conAll] at h
  | _ :: _, [], h => by simp [conAll] at h
  | d :: ds, u :: us, h => by
    simp only [conAll, Bool.and_eq_true] at h
    obtain ⟨v, r1, q1⟩ := conB_ok d u h.1
    obtain ⟨vs, r2, q2⟩ := conAll_ok ds us h.2
    exact ⟨v :: vs, .cons r1 r2, fun m H => .cons (q1 m H) (q2 m H)⟩
end
/-- a module's name holds a constant -/
structure Con (K : PySem.W.Frag) (mg : Str → Option Value) (x : Str) (d : D) : Prop where
  ex : ∃ u v, mg x = some u ∧ RelV v u ∧ ∀ m H, RD K m H d v
theorem ex_con {X : Cx} {W : WX} {x : Str} {d : D} {pos : Pos} (c : Con X.K X.mg x d) (hg : Gl X x := by rfl) (hd : (x == ("__debug__" : Str)) = false := by decide) : Ex X W (.Name x pos) (eC d) := by
  obtain ⟨u, v, hm, r, rd⟩ := c.ex
  exact ex_glob hg hm r rd hd
/-- further facts of the top -/
inductive Fx where
  /-- a built-in function by a name of the module's -/
  | blt (x : Str) (id : String)
  /-- a constant -/
  | con (x : Str) (d : D)
def Fx.ok (K : PySem.W.Frag) : Fx → Bool
  | .blt x id => (match PySem.W.nsIn K mainGlobals x with
    | some (some (.builtin j)) => decide (j = id)
    | _ => false)
  | .con x d => (match PySem.W.nsIn K mainGlobals x with
    | some (some u) => conB K d u
    | _ => false)
section
variable {K : PySem.W.Frag} {h : Heap} {mg : Str → Option Value}
theorem blt_ok (X : K.In h) (G : h.Ns mainGlobals mg) {x : Str} {id : String} (c : (Fx.blt x id).ok K = true) : mg x = some (.builtin id) := by
  have c : (match PySem.W.nsIn K mainGlobals x with
    | some (some (.builtin j)) => decide (j = id)
    | _ => false) = true := c
  split at c
  · rename_i j e
    rw [PySem.W.mg_of X G e, of_decide_eq_true c]
  · cases c
theorem con_ok (X : K.In h) (G : h.Ns mainGlobals mg) {x : Str} {d : D} (c : (Fx.con x d).ok K = true) : Con K mg x d := by
  have c : (match PySem.W.nsIn K mainGlobals x with
    | some (some u) => conB K d u
    | _ => false) = true := c
  split at c
  · rename_i u e
    obtain ⟨v, r, q⟩ := conB_ok d u c
    exact ⟨u, v, PySem.W.mg_of X G e, r, q⟩
  · cases c
end
/-! ### the Hook -/
def obsM (fa : List He.Fa) (fx : List Fx) (fn : List He.DefD) (K : PySem.W.Frag) : He.AlD := (((fa.all fun f => f.ok K) && fx.all fun f => f.ok K) && fn.all fun d => d.ok K, fn.map fun d => He.fnW K d.at_)
def SaysM (fa : List He.Fa) (fx : List Fx) (fn : List He.DefD) (K : PySem.W.Frag) : Prop := obsM fa fx fn K = He.valD fn
def obsMG (n : Nat) (fa : List He.Fa) (fx : List Fx) (fn : List He.DefD) (g : Addr → Option Obj) : He.AlD := obsM fa fx fn (He.frG g (He.asD g n))
def hookM (n : Nat) (fa : List He.Fa) (fx : List Fx) (fn : List He.DefD) : PySem.W.Hook where
  α := He.AlD
  obs := fun s => obsMG n fa fx fn s.heap.get?
  val := fun _ => He.valD fn
  says := fun _ h => ∃ K : PySem.W.Frag, K.In h ∧ SaysM fa fx fn K
  of := fun _ _ e => ⟨_, He.frG_in, e⟩
  keeps := fun _ _ _ ⟨K, hK, c⟩ k => ⟨K, PySem.W.Frag.In.keeps hK k, c⟩
theorem obsMG_eq {n : Nat} {fa : List He.Fa} {fx : List Fx} {fn : List He.DefD} {g : Addr → Option Obj} {s : Shared} (h : ∀ a, g a = s.heap.get? a) : obsMG n fa fx fn g = (hookM n fa fx fn).obs s := by
  have e : g = s.heap.get? := funext h
  rw [e] <;> rfl
section
variable {fa : List He.Fa} {fx : List Fx} {fn : List He.DefD} {K : PySem.W.Frag}
theorem SaysM.fact (c : SaysM fa fx fn K) (i : Nat) {f : He.Fa} (h : fa[i]? = some f := by rfl) : f.ok K = true := by
  have c1 := (He.ba (He.ba (show (((fa.all fun f => f.ok K) && fx.all fun f => f.ok K) && fn.all fun d => d.ok K) = true from congrArg (fun z : He.AlD => z.1) c)).1).1
  exact List.all_eq_true.mp c1 f (List.mem_of_getElem? h)
theorem SaysM.more (c : SaysM fa fx fn K) (i : Nat) {f : Fx} (h : fx[i]? = some f := by rfl) : f.ok K = true := by
  have c1 := (He.ba (He.ba (show (((fa.all fun f => f.ok K) && fx.all fun f => f.ok K) && fn.all fun d => d.ok K) = true from congrArg (fun z : He.AlD => z.1) c)).1).2
  exact List.all_eq_true.mp c1 f (List.mem_of_getElem? h)
theorem SaysM.def_ (c : SaysM fa fx fn K) (i : Nat) {d : He.DefD} (h : fn[i]? = some d := by rfl) : ∃ fd, FunD K d.name d.qual d.params d.body d.scope (d.dvs K) (d.kws K) (He.fAd K d.at_) fd := by
  have c2 := (He.ba (show (((fa.all fun f => f.ok K) && fx.all fun f => f.ok K) && fn.all fun d => d.ok K) = true from congrArg (fun z : He.AlD => z.1) c)).2
  have e : fn.map (fun d => He.fnW K d.at_) = fn.map He.DefD.val := congrArg (fun z : He.AlD => z.2) c
  have e2 : (fn.map fun d => He.fnW K d.at_)[i]? = (fn.map He.DefD.val)[i]? := by rw [e]
  rw [List.getElem?_map, List.getElem?_map, h] at e2
  exact He.DefD.funD (Option.some.inj e2) (List.all_eq_true.mp c2 d (List.mem_of_getElem? h))
end
/-! ### the law's end -/
/-- where nothing may be let out -/
theorem FnM.shut {P : Program} {w : World} {K : PySem.W.Frag} {mg : Str → Option Value} {base : Heap} {k : Nat} {f : Addr} {fd : FuncData} {ps : List Str} {mf : FM} (F : FnM P w K mg base k f fd ps mf) :
    FnOk P w K mg base CX0 k f fd ps (fun vs H Q _ => spM K ps.length mf vs H Q fun _ _ _ => False) where
  len := fun vs H Q E h => F.len vs H Q _ h
  run := fun A outer s H args us vs Q E hr e0 hb hv h => by
    refine codeAny_mono (F.run A outer s H args us vs Q _ hr e0 hb hv h) fun r s' hq => ?_
    cases r with
    | error e =>
      obtain ⟨_, _, _, _, _, _, _, _, _, _, _, _, z⟩ := (hq : L2.CX P w outer H s (fun _ _ _ => False) e s')
      exact z.elim
    | ok fl => cases fl <;> exact hq
end HM

/-! HM, part 10: methods of lists and texts, in, slices, sums. -/
namespace HM
open PySem PySem.Spec PyProof.Rows L2
section
variable {X : Cx} {W : WX} {e o a b c : Expr} {es : List Expr} {pos p : Pos} {f fo fa fb : EM D} {fs : EM (List D)}
theorem _root_.L2.Room.units65 {k : Nat} {A : Around} (r : Room k A) : A.units + 65 < cLine := by have := r.un; omega
theorem below_line {n : Nat} (h : n < 16777216) : n < sizeLine := by
  rw [PySem.sizeLine_eq]
  exact h
/-! ### methods -/
abbrev MM := D → FM
def MethM (X : Cx) (id : String) (g : MM) : Prop :=
  ∃ r, MtR X id r ∧ ∀ (m : List Addr) (st : Store) (H : Hp) (d : D) (v : V) (ds : List D) (vs : List V) (E : XK) (Q : VK), SS X.K m st H → RD X.K m H d v → RDs X.K m H ds vs → Pe X.K E (RD X.K) m H (g d ds st) Q → r v vs H Q
def okT (T : String) (st : Store) (d : D) : Bool := match d with
  | .str _ => decide (T = "str")
  | .rol _ => decide (T = "list")
  | .ref n => decide (T = "list") && (lstAt st n).isSome
  | _ => false
theorem okT_ty {K : PySem.W.Frag} {m : List Addr} {st : Store} {H : Hp} {d : D} {v : V} {T : String} (s : SS K m st H) (h : okT T st d = true) (r : RD K m H d v) : tyV K T v H := by
  cases r with
  | str x =>
    have q : T = "str" := of_decide_eq_true h
    exact q
  | rol q rs => exact .inl ⟨of_decide_eq_true h, _, q.sq⟩
  | ref q =>
    have h : (decide (T = "list") && (lstAt st _).isSome) = true := h
    rw [Bool.and_eq_true] at h
    obtain ⟨xs, e⟩ := Option.isSome_iff_exists.mp h.2
    obtain ⟨vs, h1, h2⟩ := s.list e q
    exact .inl ⟨of_decide_eq_true h.1, _, SqL.of h1⟩
  | _ => cases h
def eM (T : String) (g : MM) (fo : EM D) (fs : EM (List D)) : EM D := fun τ st => (fo τ st).bind fun d s1 => if okT T s1 d then (fs τ s1).bind fun ds s2 => g d ds s2 else .bad
theorem ex_m {name : Str} {apos cpos : Pos} {T id : String} {g : MM} (pa : PlainAttrs T) (slot : Slot T name id) (hty : typeOf (.builtin id) = pure (.type "method_descriptor")) (hm : MethM X id g) (ho : Ex X W o fo) (ha : Ea X W (e :: es) fs)
    (hbase : attributeBase o name X.env (eval o X.env) = eval o X.env := by rfl)
    (hfew : ((backTo cpos (starEach (e :: es) X.env)).all (fun x => !x.1) && (backToKw cpos (keywordEach [] X.env)).all (fun x => x.1.isSome)
      && decide ((e :: es).length + ([] : List Keyword).length + (if ([] : List Keyword).isEmpty then 0 else 1) < 30)) = true := by rfl)
    (hline : (apos.endLine == cpos.line) = true := by rfl) (hs : starEach (e :: es) X.env = (false, eval e X.env) :: starEach es X.env := by rfl) (hplain : (backTo cpos (starEach es X.env)).any (·.1) = false := by rfl) :
    Ex X W (.Call (.Attribute o name apos) (e :: es) [] cpos) (eM T g fo fs) := by
  obtain ⟨r, hr, h⟩ := hm
  refine ⟨fun m τ st σ H Q hL hS hP pins s I => (pe_bm pa slot hty hr peW paW hbase hfew hline hs hplain).run pins s σ H Q I ?_⟩
  refine ho.run m τ st σ H _ hL hS (hP.bind fun d s1 m1 H1 v e1 hS1 r1 hP1 => ?_)
  split at hP1
  · rename_i hk
    exact ⟨okT_ty hS1 hk r1, ha.run m1 τ s1 σ H1 _ (hL.mono e1) hS1 (hP1.bind fun ds s2 m2 H2 vs e2 hS2 r2 hP2 => h m2 s2 H2 d v ds vs _ Q hS2 (r1.mono e2) r2 hP2)⟩
  · exact hP1.elim
theorem ex_m0 {name : Str} {apos cpos : Pos} {T id : String} {g : MM} (pa : PlainAttrs T) (slot : Slot T name id) (hty : typeOf (.builtin id) = pure (.type "method_descriptor")) (hm : MethM X id g) (ho : Ex X W o fo)
    (hbase : attributeBase o name X.env (eval o X.env) = eval o X.env := by rfl) (hline : (apos.endLine == cpos.line) = true := by rfl) :
    Ex X W (.Call (.Attribute o name apos) [] [] cpos) (eM T g fo aNil) := by
  obtain ⟨r, hr, h⟩ := hm
  refine ⟨fun m τ st σ H Q hL hS hP pins s I => (pe_bm0 pa slot hty hr peW hbase hline).run pins s σ H Q I ?_⟩
  refine ho.run m τ st σ H _ hL hS (hP.bind fun d s1 m1 H1 v e1 hS1 r1 hP1 => ?_)
  split at hP1
  · rename_i hk
    exact ⟨okT_ty hS1 hk r1, h m1 s1 H1 d v [] [] _ Q hS1 r1 .nil hP1⟩
  · exact hP1.elim
def mAppend : MM := fun d ds st => match d, ds with
  | .ref n, [x] => match lstAt st n with
    | some xs => if xs.length < 16777216 then .ok .non (st.set n (.lst (xs ++ [x]))) else .bad
    | none => .bad
  | _, _ => .bad
theorem me_append : MethM X "list.append" mAppend := ⟨_, mt_append, fun m st H d v ds vs E Q hS r rs hP => by
  unfold mAppend at hP
  split at hP
  · split at hP
    · rename_i xs hx
      split at hP
      · rename_i hl
        cases r with
        | ref q =>
          obtain ⟨us, h1, h2⟩ := hS.list hx q
          obtain ⟨u, rfl, ru⟩ := rs.one
          exact ⟨_, us, u, rfl, rfl, h1, below_line (by rw [← h2.len]; exact hl), hP m _ _ (Ext.write h1 q) (hS.write h1 q (h2.append (.cons ru .nil))) .non⟩
      · exact hP.elim
    · exact hP.elim
  · exact hP.elim⟩
def mExtend : MM := fun d ds st => match d, ds with
  | .ref n, [.ref k] => match lstAt st n, lstAt st k with
    | some xs, some ys => if xs.length + ys.length ≤ 16777216 then .ok .non (st.set n (.lst (xs ++ ys))) else .bad
    | _, _ => .bad
  | _, _ => .bad
theorem me_extend : MethM X "list.extend" mExtend := ⟨_, mt_extend, fun m st H d v ds vs E Q hS r rs hP => by
  unfold mExtend at hP
  split at hP
  · split at hP
    · rename_i xs ys hx hy
      split at hP
      · rename_i hl
        obtain ⟨u, rfl, ru⟩ := rs.one
        cases r with
        | ref q =>
          cases ru with
          | ref q' =>
            obtain ⟨us, h1, h2⟩ := hS.list hx q
            obtain ⟨ws, h3, h4⟩ := hS.list hy q'
            exact ⟨_, _, us, ws, rfl, rfl, h1, h3, line_of (by rw [← h2.len, ← h4.len]; exact hl), hP m _ _ (Ext.write h1 q) (hS.write h1 q (h2.append h4)) .non⟩
      · exact hP.elim
    · exact hP.elim
  · exact hP.elim⟩
def mPop : MM := fun d ds st => match d, ds with
  | .ref n, [] => match lstAt st n with
    | some xs => match xs[xs.length - 1]? with
      | some y => .ok y (st.set n (.lst xs.dropLast))
      | none => .bad
    | none => .bad
  | _, _ => .bad
theorem me_pop : MethM X "list.pop" mPop := ⟨_, mt_pop, fun m st H d v ds vs E Q hS r rs hP => by
  unfold mPop at hP
  split at hP
  · split at hP
    · rename_i xs hx
      split at hP
      · rename_i y hy
        cases r with
        | ref q =>
          obtain ⟨us, h1, h2⟩ := hS.list hx q
          cases rs
          rw [h2.len] at hy
          obtain ⟨u, hu, ru⟩ := h2.get hy
          have e := Ext.write (K := X.K) (o := .lst us.dropLast) h1 q
          exact ⟨_, us, u, rfl, rfl, h1, hu, hP m _ _ e (hS.write h1 q h2.dropLast) (ru.mono e)⟩
      · exact hP.elim
    · exact hP.elim
  · exact hP.elim⟩
def okIx (i : Int) : Bool := decide (i.natAbs < 9223372036854775808)
theorem okIx_ok {i : Int} (h : okIx i = true) : -(2 ^ 63) ≤ i ∧ i < 2 ^ 63 := by
  have q : i.natAbs < 9223372036854775808 := of_decide_eq_true h
  have q' : -9223372036854775808 ≤ i ∧ i < 9223372036854775808 := by omega
  exact q'
def mPopAt : MM := fun d ds st => match d, ds with
  | .ref n, [.int i] => match lstAt st n with
    | some xs => match seqIndex? i xs.length with
      | some k => match xs[k]? with
        | some y => if okIx i then .ok y (st.set n (.lst (xs.eraseIdx k))) else .bad
        | none => .bad
      | none => .bad
    | none => .bad
  | _, _ => .bad
theorem me_popAt : MethM X "list.pop" mPopAt := ⟨_, mt_popAt, fun m st H d v ds vs E Q hS r rs hP => by
  unfold mPopAt at hP
  split at hP
  · split at hP
    · rename_i xs hx
      split at hP
      · rename_i k hk
        split at hP
        · rename_i y hy
          split at hP
          · rename_i hi
            obtain ⟨w, rfl, rw'⟩ := rs.one
            cases rw'
            cases r with
            | ref q =>
              obtain ⟨us, h1, h2⟩ := hS.list hx q
              obtain ⟨u, hu, ru⟩ := h2.get hy
              have e := Ext.write (K := X.K) (o := .lst (us.eraseIdx k)) h1 q
              exact ⟨_, us, _, k, u, rfl, rfl, h1, (okIx_ok hi).1, (okIx_ok hi).2, by rw [← h2.len]; exact hk, hu, hP m _ _ e (hS.write h1 q (h2.erase k)) (ru.mono e)⟩
          · exact hP.elim
        · exact hP.elim
      · exact hP.elim
    · exact hP.elim
  · exact hP.elim⟩
def mInsert : MM := fun d ds st => match d, ds with
  | .ref n, [.int i, y] => match lstAt st n with
    | some xs => if decide (0 ≤ i) && okIx i && decide (xs.length < 16777216) then .ok .non (st.set n (.lst (xs.take i.toNat ++ [y] ++ xs.drop i.toNat))) else .bad
    | none => .bad
  | _, _ => .bad
theorem me_insert : MethM X "list.insert" mInsert := ⟨_, mt_insert, fun m st H d v ds vs E Q hS r rs hP => by
  unfold mInsert at hP
  split at hP
  · split at hP
    · rename_i xs hx
      split at hP
      · rename_i hc
        simp only [Bool.and_eq_true, decide_eq_true_eq] at hc
        obtain ⟨w, u, rfl, rw', ru⟩ := rs.two
        cases rw'
        cases r with
        | ref q =>
          obtain ⟨us, h1, h2⟩ := hS.list hx q
          exact ⟨_, us, _, u, rfl, rfl, h1, below_line (by rw [← h2.len]; exact hc.2), hc.1.1, (okIx_ok hc.1.2).2, hP m _ _ (Ext.write h1 q) (hS.write h1 q (((h2.take _).append (.cons ru .nil)).append (h2.drop _))) .non⟩
      · exact hP.elim
    · exact hP.elim
  · exact hP.elim⟩
/-! ### in -/
def D.flat : D → Bool
  | .non => true
  | .bl _ => true
  | .int _ => true
  | .str _ => true
  | _ => false
def eqF : D → D → Bool
  | .non, .non => true
  | .bl a, .bl b => a == b
  | .bl a, .int b => (if a then 1 else 0) == b
  | .int a, .bl b => a == (if b then 1 else 0)
  | .int a, .int b => decide (a = b)
  | .str a, .str b => decide (a = b)
  | _, _ => false
theorem flat_V {K : PySem.W.Frag} {m : List Addr} {H : Hp} {d : D} {v : V} (r : RD K m H d v) (h : d.flat = true) : flatV v = true := by
  cases r <;> first | rfl | cases h
theorem flats_V {K : PySem.W.Frag} {m : List Addr} {H : Hp} : ∀ {ds : List D} {vs : List V}, RDs K m H ds vs → ds.all D.flat = true → vs.all flatV = true
  | [], _, .nil, _ => rfl
  | d :: ds, _, .cons r rs, h => by
    rw [List.all_cons, Bool.and_eq_true] at h ⊢
    exact ⟨flat_V r h.1, flats_V rs h.2⟩
theorem eqF_V {K : PySem.W.Frag} {m : List Addr} {H : Hp} {d e : D} {v u : V} (r : RD K m H d v) (r' : RD K m H e u) (h : d.flat = true) (h' : e.flat = true) : eqV v u = eqF d e := by
  cases r with
  | non => cases r' <;> first | rfl | cases h'
  | bl b => cases r' <;> first | rfl | cases h'
  | int i =>
    cases r' with
    | int j =>
      show (i == j) = decide (i = j)
      rw [Bool.eq_iff_iff]
      simp
    | _ => first | rfl | cases h'
  | str x =>
    cases r' with
    | str y =>
      show ((⟨x.toArray⟩ : Str) == (⟨y.toArray⟩ : Str)) = decide (x = y)
      rw [Bool.eq_iff_iff]
      simp
    | _ => first | rfl | cases h'
  | _ => cases h
theorem inV_D {K : PySem.W.Frag} {m : List Addr} {H : Hp} {d : D} {v : V} (r : RD K m H d v) (h : d.flat = true) : ∀ {ds : List D} {vs : List V}, RDs K m H ds vs → ds.all D.flat = true → inV v vs = ds.any fun y => eqF y d
  | [], _, .nil, _ => rfl
  | e :: ds, _, .cons r' rs, h' => by
    rw [List.all_cons, Bool.and_eq_true] at h'
    have := inV_D r h rs h'.2
    unfold inV at this ⊢
    rw [List.any_cons, List.any_cons, this, eqF_V r' r h'.1 h]
def rInT (K : PySem.W.Frag) (neg : Bool) : R2 := fun x y H Q => ∃ d ds, Dp K H x d ∧ Dp K H y (.tuple ds) ∧ SeqAt.shaped d = true ∧ SeqAt.shaped (.tuple ds) = true ∧ Q (.bl (if neg then !(ds.any fun z => PyData.eqv z d) else ds.any fun z => PyData.eqv z d)) H
theorem op_inT (hu : X.A.units + 65 < cLine) : OpR X (compareOp .In) (rInT X.K false) := by
  intro pins s σ H x y v u Q I rx ry h
  obtain ⟨d, ds, hd, he, sd, se, q⟩ := h
  obtain ⟨as, r1⟩ := Dp.reads I d x v hd rx
  obtain ⟨bs, r2⟩ := Dp.reads I (.tuple ds) y u he ry
  exact SeqAt.in_tuple_reads r2 r1 (SeqAt.canLay_of_shaped se) (SeqAt.canLay_of_shaped sd) (room_in_shaped sd hu) ⟨.bl _, H, I, rfl, q⟩
theorem op_notInT (hu : X.A.units + 65 < cLine) : OpR X (compareOp .NotIn) (rInT X.K true) := by
  intro pins s σ H x y v u Q I rx ry h
  obtain ⟨d, ds, hd, he, sd, se, q⟩ := h
  obtain ⟨as, r1⟩ := Dp.reads I d x v hd rx
  obtain ⟨bs, r2⟩ := Dp.reads I (.tuple ds) y u he ry
  exact SeqAt.notIn_tuple_reads r2 r1 (SeqAt.canLay_of_shaped se) (SeqAt.canLay_of_shaped sd) (room_in_shaped sd hu) ⟨.bl _, H, I, rfl, q⟩
/-- is it among flat ones, one sign in a text, among data of any depth -/
def dIn (x y : D) (st : Store) : Option Bool := match x, y with
  | .str [c], .str z => some (decide (c ∈ z))
  | x, y => match dSeq st y with
    | some ys => if x.flat && ys.all D.flat then some (ys.any fun y => eqF y x) else if x.plain 59 && ys.all (D.plain 59) then some (decide (x ∈ ys)) else none
    | none => none
def oIn : O2 := fun x y st => match dIn x y st with
  | some b => .ok (.bl b) st
  | none => .bad
def oNotIn : O2 := fun x y st => match dIn x y st with
  | some b => .ok (.bl !b) st
  | none => .bad
theorem any_plain {n : Nat} {x : D} (hx : x.plain n = true) : ∀ {ys : List D}, ys.all (D.plain n) = true → ((ys.map (D.toP n)).any fun z => PyData.eqv z (x.toP n)) = decide (x ∈ ys)
  | [], _ => by simp
  | y :: ys, h => by
    rw [List.all_cons, Bool.and_eq_true] at h
    rw [List.map_cons, List.any_cons, any_plain hx h.2, eqv_plain n y x h.1 hx]
    simp [List.mem_cons, eq_comm]
theorem m_inB {op : CmpOp} {neg : Bool} {r1 r2 r3 r4 : R2} (h1 : OpR X (compareOp op) r1) (h2 : OpR X (compareOp op) r2) (h3 : OpR X (compareOp op) r3) (h4 : OpR X (compareOp op) r4)
    (s1 : ∀ (c : Nat) (z : Str) H Q, Q (.bl (if neg then !decide (c ∈ z.cps.toList) else decide (c ∈ z.cps.toList))) H → r1 (.str ⟨#[c]⟩) (.str z) H Q)
    (s2 : ∀ x y H Q, rIn X.K neg x y H Q → r2 x y H Q)
    (s3 : ∀ x y H Q d ds, Dp X.K H x d → Dp X.K H y (.list ds) → SeqAt.shaped d = true → SeqAt.shaped (.list ds) = true → Q (.bl (if neg then !(ds.any fun z => PyData.eqv z d) else ds.any fun z => PyData.eqv z d)) H → r3 x y H Q)
    (s4 : ∀ x y H Q d ds, Dp X.K H x d → Dp X.K H y (.tuple ds) → SeqAt.shaped d = true → SeqAt.shaped (.tuple ds) = true → Q (.bl (if neg then !(ds.any fun z => PyData.eqv z d) else ds.any fun z => PyData.eqv z d)) H → r4 x y H Q) :
    OpM X W (compareOp op) (fun x y st => match dIn x y st with
    | some b => .ok (.bl (if neg then !b else b)) st
    | none => .bad) := opm_of ((h1.or h2).or (h3.or h4)) fun m st H dx dy x y E Q hS ra rb hP => by
  have fin : ∀ {q : PyData}, q.canLay0 = true → q.depth ≤ 60 → SeqAt.shaped q = true := fun {q} h1 h2 => by
    unfold SeqAt.shaped
    rw [h1, Bool.true_and, decide_eq_true_eq]
    omega
  split at hP
  · rename_i b hb
    unfold dIn at hb
    split at hb
    · cases hb
      cases ra
      cases rb
      exact .inl (.inl (s1 _ _ _ _ (hP.now hS (.bl _))))
    · split at hb
      · rename_i ys hy
        split at hb
        · rename_i hf
          cases hb
          rw [Bool.and_eq_true] at hf
          obtain ⟨p, vs, rfl, q, rs⟩ := dSeq_read hS hy rb
          refine .inl (.inr (s2 _ _ _ _ ⟨p, vs, rfl, q, flat_V ra hf.1, flats_V rs hf.2, ?_⟩))
          rw [inV_D ra hf.1 rs hf.2]
          exact hP.now hS (.bl _)
        · split at hb
          · rename_i hf
            cases hb
            rw [Bool.and_eq_true] at hf
            obtain ⟨p, vs, rfl, q, rs⟩ := dSeq_read hS hy rb
            obtain ⟨a1, a2, a3⟩ := plain_dp 59 dx x hf.1 ra
            obtain ⟨b1, b2, b3⟩ := plain_all (plain_dp 59) ys vs hf.2 rs
            have e := any_plain hf.1 hf.2
            rcases q with q | q
            · refine .inr (.inl (s3 _ _ _ _ _ _ a1 (.lst q b1) (fin a2 (by omega)) (fin (by simpa only [PyData.canLay0] using b2) (by simp only [PyData.depth]; omega)) ?_))
              rw [e]
              exact hP.now hS (.bl _)
            · refine .inr (.inr (s4 _ _ _ _ _ _ a1 (.tup q b1) (fin a2 (by omega)) (fin (by simpa only [PyData.canLay0] using b2) (by simp only [PyData.depth]; omega)) ?_))
              rw [e]
              exact hP.now hS (.bl _)
          · cases hb
      · cases hb
  · exact hP.elim
theorem m_in (hu : X.A.units + 65 < cLine) : OpM X W (compareOp .In) oIn := m_inB (neg := false) op_in_sign op_in_seq (op_inD hu) (op_inT hu)
  (fun c z H Q h => ⟨c, z, rfl, rfl, h⟩) (fun x y H Q h => h) (fun x y H Q d ds h1 h2 h3 h4 q => ⟨d, ds, h1, h2, h3, h4, q⟩) (fun x y H Q d ds h1 h2 h3 h4 q => ⟨d, ds, h1, h2, h3, h4, q⟩)
theorem m_notin (hu : X.A.units + 65 < cLine) : OpM X W (compareOp .NotIn) oNotIn := m_inB (neg := true) op_notIn_sign op_notIn_seq (op_notInD hu) (op_notInT hu)
  (fun c z H Q h => ⟨c, z, rfl, rfl, h⟩) (fun x y H Q h => h) (fun x y H Q d ds h1 h2 h3 h4 q => ⟨d, ds, h1, h2, h3, h4, q⟩) (fun x y H Q d ds h1 h2 h3 h4 q => ⟨d, ds, h1, h2, h3, h4, q⟩)
end
end HM

/-! HM, part 11: slices, sums, all and any, join, texts repeated, lcm. -/
namespace HM
open PySem PySem.Spec PyProof.Rows L2
section
variable {prog : Program} {w : World} {A : Around} {E : Value → Shared → Prop} {s : Shared}
theorem get_whole {t sl : Addr} {items : Array Value} {vl vu : Value} {lo hi : Option Int} {Q : Value → Shared → Prop} (ht : IsTup s.heap t items) (hs : s.heap.IsSliceOf sl vl vu .none) (pl : IsPart vl lo) (pu : IsPart vu hi)
    (h1 : HT.sIx items.size 0 lo = 0) (h2 : HT.sIx items.size items.size hi = items.size) (q : Q (.ref t) s) : wpAny (model prog w) A (getItem (.ref t) (.ref sl)) Q E s := by
  obtain ⟨ob, o1, o2, o3⟩ := id hs
  unfold getItem
  try with_reducible refine wpAny_holding ?_
  try refine wpAny_bind (wpAny_pure ?_)
  refine wpAny_bind (wpAny_sequenceKey ht.typeIs (by decide) ?_)
  refine wpAny_bind (wpAny_callSpecial?_slot (name := Str.ofString "__getitem__") ht.typeIs PyProof.Rows.slot_tuple_getitem (wpAny_call_entry PyProof.Rows.slot_tuple_getitem ht.typeIs entry_tuple_getitem ?_ (args_tuple_getitem _ _)))
  show wpAny _ _ (Builtin.Tuple.tupleItemsOf (.ref t) >>= _) _ _ s
  refine wpAny_bind (tupleItemsOf_ ht (wpAny_bind (wpAny_typeOf (T := "slice") ⟨ob, o1, o2⟩ ?_)))
  rw [if_pos (by decide)]
  refine wpAny_bind (HT.sliceApplied_gen hs pl pu ?_)
  have yes : (((HT.sIx items.size 0 lo : Nat) : Int) == 0 && (1 : Int) == 1 && (HT.sIx items.size items.size hi - HT.sIx items.size 0 lo) == items.size) = true := by
    rw [h1, h2]
    simp
  show wpAny _ _ (if (((HT.sIx items.size 0 lo : Nat) : Int) == 0 && (1 : Int) == 1 && (HT.sIx items.size items.size hi - HT.sIx items.size 0 lo) == items.size) = true then _ else _) _ _ s
  rw [if_pos yes]
  unfold Builtin.Tuple.tupleIsExact
  refine wpAny_bind (wpAny_bind (wpAny_typeOf ht.typeIs ?_))
  refine wpAny_pure ?_
  rw [if_pos (by decide)]
  first
    | exact wpAny_pure ⟨_, rfl, wpAny_pure q⟩
    | exact wpAny_bind (wpAny_rule (wpAny_pure ⟨_, rfl, wpAny_pure q⟩))
end
section
variable {X : Cx}
/-- the whole of a tuple is the tuple -/
def rSlW (K : PySem.W.Frag) : V → Option Int → Option Int → Hp → VK → Prop := fun x lo hi H Q => ∃ a xs, x = .ref a ∧ SqT K H a xs ∧ HT.sIx xs.length 0 lo = 0 ∧ HT.sIx xs.length xs.length hi = xs.length ∧ Q (.ref a) H
theorem sl_whole : SlR X (rSlW X.K) := by
  intro pins s σ H x v vl vu lo hi sl Q I rx hs pl pu h
  obtain ⟨a, xs, rfl, hx, h1, h2, q⟩ := h
  cases rx
  obtain ⟨its, r, ht, hz⟩ := I.tuple hx
  have e : its.toArray.size = xs.length := by rw [List.size_toArray, ← r.length]
  exact ⟨"tuple", _, PyProof.Rows.slot_tuple_getitem.lookup, ht.typeIs, get_whole ht hs pl pu (by rw [e]; exact h1) (by rw [e]; exact h2) ⟨.ref a, H, I, rfl, q⟩⟩
end
section
variable {X : Cx} {W : WX} {e o a b c : Expr} {es : List Expr} {pos p p2 : Pos} {f fo fa fb : EM D} {fs : EM (List D)}
/-! ### slices -/
def cutD {α : Type} (xs : List α) (lo hi : Option Int) : List α := (xs.drop (HT.sIx xs.length 0 lo)).take (HT.sIx xs.length xs.length hi - HT.sIx xs.length 0 lo)
theorem RDs.cut {K : PySem.W.Frag} {m : List Addr} {H : Hp} {ds : List D} {vs : List V} (r : RDs K m H ds vs) (lo hi : Option Int) : RDs K m H (cutD ds lo hi) (cutV vs lo hi) := by
  unfold cutD cutV
  rw [r.len]
  exact (r.drop _).take _
/-- a part of a slice -/
structure Eo (X : Cx) (W : WX) (e : Option Expr) (f : EM (Option Int)) : Prop where
  run : ∃ t : TO, PO X e t ∧ ∀ (m : List Addr) (τ : Sl) (st : Store) (σ : L2.St) (H : Hp) (Q : Option Int → Hp → Prop), SL X.K m H τ σ → SS X.K m st H → Pe X.K (fun c d H' => W c d σ H') (fun _ _ a b => a = b) m H (f τ st) Q → t σ H Q
def oNone : EM (Option Int) := fun _ st => .ok none st
def oSome (f : EM D) : EM (Option Int) := fun τ st => (f τ st).bind fun d s1 => match d with
  | .int i => .ok (some i) s1
  | _ => .bad
theorem eo_none : Eo X W none oNone := ⟨_, po_none, fun m τ st σ H Q hL hS hP => hP.now hS rfl⟩
theorem eo_some (h : Ex X W e f) : Eo X W (some e) (oSome f) := ⟨_, po_some peW, fun m τ st σ H Q hL hS hP => h.run m τ st σ H _ hL hS (hP.bind fun d s1 m1 H1 v e1 hS1 r1 hP1 => by
  split at hP1
  · cases r1
    exact ⟨_, rfl, hP1.now hS1 rfl⟩
  · exact hP1.elim)⟩
def dCut (d : D) (lo hi : Option Int) (st : Store) : ER D := match d with
  | .str z => if z.length ≤ 16777216 then .ok (.str (cutD z lo hi)) st else .bad
  | .tup xs => .ok (.tup (cutD xs lo hi)) st
  | .rol xs => .ok (.ref st.length) (st ++ [.lst (cutD xs lo hi)])
  | .ref n => match lstAt st n with
    | some xs => .ok (.ref st.length) (st ++ [.lst (cutD xs lo hi)])
    | none => .bad
  | _ => .bad
def eSl (f : EM D) (fl fh : EM (Option Int)) : EM D := fun τ st => (f τ st).bind fun d s1 => (fl τ s1).bind fun l s2 => (fh τ s2).bind fun h s3 => dCut d l h s3
theorem sl_all : SlR X (fun x lo hi H Q => rSlL X.K x lo hi H Q ∨ (rSlT X.K x lo hi H Q ∨ rSlW X.K x lo hi H Q) ∨ rSlS x lo hi H Q) := sl_list.or ((sl_tup.or sl_whole).or sl_str)
theorem cutS_D (z : List Nat) (lo hi : Option Int) : cutS ⟨z.toArray⟩ lo hi = ⟨(cutD z lo hi).toArray⟩ := by
  unfold cutS cutD
  simp [PySem.Str.length]
theorem ex_sl {lo hi : Option Expr} {fl fh : EM (Option Int)} (he : Ex X W e f) (hl : Eo X W lo fl) (hh : Eo X W hi fh) : Ex X W (.Subscript e (.Slice lo hi none p2) pos) (eSl f fl fh) := by
  obtain ⟨tl, pl, hl⟩ := hl
  obtain ⟨th, ph, hh⟩ := hh
  refine ⟨fun m τ st σ H Q hL hS hP pins s I => (pe_slice sl_all peW pl ph).run pins s σ H Q I ?_⟩
  refine he.run m τ st σ H _ hL hS (hP.bind fun d s1 m1 H1 v e1 hS1 r1 hP1 => ?_)
  refine hl m1 τ s1 σ H1 _ (hL.mono e1) hS1 (hP1.bind fun l s2 m2 H2 l' e2 hS2 r2 hP2 => ?_)
  subst r2
  refine hh m2 τ s2 σ H2 _ ((hL.mono e1).mono e2) hS2 (hP2.bind fun h s3 m3 H3 h' e3 hS3 r3 hP3 => ?_)
  subst r3
  have r1 := (r1.mono e2).mono e3
  unfold dCut at hP3
  split at hP3
  · split at hP3
    · rename_i hz
      cases r1
      refine .inr (.inr ⟨_, rfl, line_of (by simpa [PySem.Str.length] using hz), ?_⟩)
      rw [cutS_D]
      exact hP3.now hS3 (.str _)
    · exact hP3.elim
  · rename_i ds _
    cases r1 with
    | @tup a vs _ q rs =>
      by_cases hw : HT.sIx vs.length 0 l = 0 ∧ HT.sIx vs.length vs.length h = vs.length
      · refine .inr (.inl (.inr ⟨_, _, rfl, q, hw.1, hw.2, hP3.now hS3 ?_⟩))
        have e : cutD ds l h = ds := by
          unfold cutD
          rw [rs.len, hw.1, hw.2, List.drop_zero, Nat.sub_zero, ← rs.len]
          exact List.take_length
        rw [e]
        exact .tup q rs
      · exact .inr (.inl (.inl ⟨_, _, rfl, q, hw, hP3.tup hS3 (rs.cut _ _)⟩))
  · cases r1 with
    | rol q rs => exact .inl ⟨_, _, rfl, q.sq, hP3.lst hS3 (rs.cut _ _)⟩
  · split at hP3
    · rename_i xs hx
      cases r1 with
      | ref q =>
        obtain ⟨vs, h1, h2⟩ := hS3.list hx q
        exact .inl ⟨_, vs, rfl, SqL.of h1, hP3.lst hS3 (h2.cut _ _)⟩
    · exact hP3.elim
  · exact hP3.elim
/-! ### sums -/
def intsD : List D → Option (List Int)
  | [] => some []
  | .int i :: ds => (intsD ds).map (i :: ·)
  | _ => none
theorem intsD_V {K : PySem.W.Frag} {m : List Addr} {H : Hp} : ∀ {ds : List D} {vs : List V} {ns : List Int}, RDs K m H ds vs → intsD ds = some ns → vs = ns.map V.int
  | [], _, _, .nil, h => by
    cases h
    rfl
  | d :: ds, _, ns, .cons r rs, h => by
    unfold intsD at h
    split at h
    · rename_i e
      cases e
    · rename_i i ds' e
      cases e
      cases r
      cases hz : intsD ds with
      | none =>
        rw [hz] at h
        cases h
      | some ks =>
        rw [hz] at h
        cases h
        rw [intsD_V rs hz]
        rfl
    · cases h
theorem intsD_map : ∀ ns : List Int, intsD (ns.map D.int) = some ns
  | [] => rfl
  | n :: ns => by
    rw [List.map_cons, intsD, intsD_map ns]
    rfl
def rSumT (K : PySem.W.Frag) : List V → Hp → VK → Prop := fun vs H Q => ∃ (a : Addr) (ns : List Int), vs = [V.ref a] ∧ SqT K H a (ns.map V.int) ∧ Q (.int ns.sum) H
theorem cr_sumT (hc : X.calm = true) : CallR X (.builtin "sum") (rSumT X.K) := by
  intro pins s σ H vs us Q I r h
  obtain ⟨a, ns, rfl, hs, q⟩ := h
  obtain ⟨its, rv, hl, _⟩ := I.tuple hs
  rw [Vals.ref1 r]
  have hi := rv.ints
  obtain ⟨xs, e⟩ := hi.allInts.items
  have hn : numsOf (intItems xs).toList = ns := by rw [← e]; exact hi.numsOf
  rw [nums_intItems] at hn
  obtain ⟨ob, ho, hcl, n, hd⟩ := hl
  have ht : s.heap.IsTuple a (intItems xs) := by
    rw [← e]
    exact ⟨ob, ho, hcl, n, hd⟩
  refine PySem.W.ktm_sumG (I.ok.hd hc) ht fun h' tk t' hk => ⟨.int _, H, I.kept hk, ⟨_, rfl⟩, ?_⟩
  rw [preSum_eq, List.take_of_length_le (by simp), hn]
  exact q
def gSum : SM1 := fun xs st => match intsD xs with
  | some ns => .ok (.int ns.sum) st
  | none => .bad
theorem s_sum (hc : X.calm = true) : CallS X (.builtin "sum") gSum := ⟨_, (cr_sum hc).or (cr_sumT hc), fun m st H ds v E Q hS r hP => by
  obtain ⟨a, vs, rfl, q, rs⟩ := r
  unfold gSum at hP
  split at hP
  · rename_i ns hn
    have e := intsD_V rs hn
    subst e
    rcases q with q | q
    · exact .inl ⟨a, ns, rfl, q, hP.now hS (.int _)⟩
    · exact .inr ⟨a, ns, rfl, q, hP.now hS (.int _)⟩
  · exact hP.elim⟩
/-! ### of lists alone -/
def SqVL (K : PySem.W.Frag) (m : List Addr) (H : Hp) (ds : List D) (v : V) : Prop := ∃ a vs, v = .ref a ∧ SqL K H a vs ∧ RDs K m H ds vs
structure Esl (X : Cx) (W : WX) (e : Expr) (f : EM (List D)) : Prop where
  run : ∀ (m : List Addr) (τ : Sl) (st : Store) (σ : L2.St) (H : Hp) (Q : VK), SL X.K m H τ σ → SS X.K m st H → Pe X.K (fun c d H' => W c d σ H') (SqVL X.K) m H (f τ st) Q → wE X e σ H Q
theorem esl_el {fl : EM (List D)} (h : El X W e fl) : Esl X W e fl := by
  refine ⟨fun m τ st σ H Q hL hS hP => h.run m τ st σ H Q hL hS ?_⟩
  cases hq : fl τ st with
  | ok ds s1 =>
    rw [hq] at hP
    intro m1 H1 v e1 hS1 ⟨a, vs, e, ha, na, hn, rs⟩
    exact hP m1 H1 v e1 hS1 ⟨a, vs, e, SqL.of ha, rs⟩
  | exc x st' =>
    rw [hq] at hP
    exact hP
  | bad =>
    rw [hq] at hP
    exact hP.elim
def dSeqL (st : Store) : D → Option (List D)
  | .rol xs => some xs
  | .ref n => lstAt st n
  | _ => none
def sExL (f : EM D) : EM (List D) := fun τ st => (f τ st).bind fun d s1 => match dSeqL s1 d with
  | some xs => .ok xs s1
  | none => .bad
theorem esl_ex (h : Ex X W e f) : Esl X W e (sExL f) := by
  refine ⟨fun m τ st σ H Q hL hS hP => h.run m τ st σ H Q hL hS (hP.bind fun d s1 m1 H1 v e1 hS1 r1 hP1 => ?_)⟩
  split at hP1
  · rename_i xs hx
    cases r1 with
    | rol q rs =>
      cases hx
      exact hP1.now hS1 ⟨_, _, rfl, q.sq, rs⟩
    | ref q =>
      obtain ⟨vs, h1, h2⟩ := hS1.list hx q
      exact hP1.now hS1 ⟨_, vs, rfl, SqL.of h1, h2⟩
    | _ => cases hx
  · exact hP1.elim
def CallL (X : Cx) (fv : Value) (g : SM1) : Prop :=
  ∃ r, CallR X fv r ∧ ∀ (m : List Addr) (st : Store) (H : Hp) (ds : List D) (v : V) (E : XK) (Q : VK), SS X.K m st H → SqVL X.K m H ds v → Pe X.K E (RD X.K) m H (g ds st) Q → r [v] H Q
theorem ex_callBl {x : Str} {id : String} {g : SM1} {fl : EM (List D)} (hc : CallL X (.builtin id) g) (hg : Gl X x) (hm : X.mg x = none) (hv : bootBuiltins x = some (.builtin id)) (ha : Esl X W e fl) (hn : x ≠ "__name__" := by decide) (hdb : (x == ("__debug__" : Str)) = false := by decide)
    (he : starEach [e] X.env = (false, eval e X.env) :: starEach [] X.env := by rfl) (hpl : (backTo pos (starEach [] X.env)).any (·.1) = false := by rfl) : Ex X W (.Call (.Name x p) [e] [] pos) (eCS g fl) := by
  obtain ⟨r, hr, h⟩ := hc
  refine ⟨fun m τ st σ H Q hL hS hP pins s I => (pe_callB hr hg hm hv (pa_cons peW pa_nil he) hn hdb he hpl).run pins s σ H Q I ?_⟩
  exact ha.run m τ st σ H _ hL hS (hP.bind fun ds s1 m1 H1 v e1 hS1 r1 hP1 => h m1 s1 H1 ds v _ Q hS1 r1 hP1)
def blsD : List D → Option (List Bool)
  | [] => some []
  | .bl i :: ds => (blsD ds).map (i :: ·)
  | _ => none
theorem blsD_V {K : PySem.W.Frag} {m : List Addr} {H : Hp} : ∀ {ds : List D} {vs : List V} {ns : List Bool}, RDs K m H ds vs → blsD ds = some ns → vs = ns.map V.bl
  | [], _, _, .nil, h => by
    cases h
    rfl
  | d :: ds, _, ns, .cons r rs, h => by
    unfold blsD at h
    split at h
    · rename_i e
      cases e
    · rename_i i ds' e
      cases e
      cases r
      cases hz : blsD ds with
      | none =>
        rw [hz] at h
        cases h
      | some ks =>
        rw [hz] at h
        cases h
        rw [blsD_V rs hz]
        rfl
    · cases h
theorem blsD_map : ∀ ns : List Bool, blsD (ns.map D.bl) = some ns
  | [] => rfl
  | n :: ns => by
    rw [List.map_cons, blsD, blsD_map ns]
    rfl
def gAllB : SM1 := fun xs st => match blsD xs with
  | some bs => .ok (.bl (bs.all id)) st
  | none => .bad
def gAnyB : SM1 := fun xs st => match blsD xs with
  | some bs => .ok (.bl (bs.any id)) st
  | none => .bad
theorem s_all (hc : X.calm = true) : CallL X (.builtin "all") gAllB := ⟨_, cr_all hc, fun m st H ds v E Q hS r hP => by
  obtain ⟨a, vs, rfl, q, rs⟩ := r
  unfold gAllB at hP
  split at hP
  · rename_i ns hn
    have e := blsD_V rs hn
    subst e
    exact ⟨a, ns, rfl, q, hP.now hS (.bl _)⟩
  · exact hP.elim⟩
theorem s_any (hc : X.calm = true) : CallL X (.builtin "any") gAnyB := ⟨_, cr_any hc, fun m st H ds v E Q hS r hP => by
  obtain ⟨a, vs, rfl, q, rs⟩ := r
  unfold gAnyB at hP
  split at hP
  · rename_i ns hn
    have e := blsD_V rs hn
    subst e
    exact ⟨a, ns, rfl, q, hP.now hS (.bl _)⟩
  · exact hP.elim⟩
def maxI : List Int → Option Int
  | [] => none
  | n :: ns => some (ns.foldl max n)
def minI : List Int → Option Int
  | [] => none
  | n :: ns => some (ns.foldl min n)
theorem foldl_max_ge : ∀ (ns : List Int) (n : Int), n ≤ ns.foldl max n ∧ (∀ y ∈ ns, y ≤ ns.foldl max n) ∧ (ns.foldl max n = n ∨ ns.foldl max n ∈ ns)
  | [], n => ⟨Int.le_refl _, by simp, .inl rfl⟩
  | k :: ns, n => by
    obtain ⟨h1, h2, h3⟩ := foldl_max_ge ns (max n k)
    rw [List.foldl_cons]
    refine ⟨Int.le_trans (Int.le_max_left n k) h1, fun y hy => ?_, ?_⟩
    · rcases List.mem_cons.mp hy with rfl | hy
      · exact Int.le_trans (Int.le_max_right n y) h1
      · exact h2 y hy
    · rcases h3 with h3 | h3
      · rw [h3]
        rcases Int.le_total n k with h | h
        · rw [Int.max_eq_right h]
          exact .inr (List.mem_cons_self ..)
        · rw [Int.max_eq_left h]
          exact .inl rfl
      · exact .inr (List.mem_cons_of_mem _ h3)
theorem foldl_min_le : ∀ (ns : List Int) (n : Int), ns.foldl min n ≤ n ∧ (∀ y ∈ ns, ns.foldl min n ≤ y) ∧ (ns.foldl min n = n ∨ ns.foldl min n ∈ ns)
  | [], n => ⟨Int.le_refl _, by simp, .inl rfl⟩
  | k :: ns, n => by
    obtain ⟨h1, h2, h3⟩ := foldl_min_le ns (min n k)
    rw [List.foldl_cons]
    refine ⟨Int.le_trans h1 (Int.min_le_left n k), fun y hy => ?_, ?_⟩
    · rcases List.mem_cons.mp hy with rfl | hy
      · exact Int.le_trans h1 (Int.min_le_right n y)
      · exact h2 y hy
    · rcases h3 with h3 | h3
      · rw [h3]
        rcases Int.le_total n k with h | h
        · rw [Int.min_eq_left h]
          exact .inl rfl
        · rw [Int.min_eq_right h]
          exact .inr (List.mem_cons_self ..)
      · exact .inr (List.mem_cons_of_mem _ h3)
def gMax : SM1 := fun xs st => match (intsD xs).bind maxI with
  | some n => .ok (.int n) st
  | none => .bad
def gMin : SM1 := fun xs st => match (intsD xs).bind minI with
  | some n => .ok (.int n) st
  | none => .bad
theorem s_max (hc : X.calm = true) : CallL X (.builtin "max") gMax := ⟨_, cr_max hc, fun m st H ds v E Q hS r hP => by
  obtain ⟨a, vs, rfl, q, rs⟩ := r
  unfold gMax at hP
  split at hP
  · rename_i k hk
    cases hn : intsD ds with
    | none =>
      rw [hn] at hk
      cases hk
    | some ns =>
      rw [hn] at hk
      have e := intsD_V rs hn
      subst e
      cases ns with
      | nil => cases hk
      | cons n ns =>
        have hk : some (ns.foldl max n) = some k := hk
        cases hk
        obtain ⟨h1, h2, h3⟩ := foldl_max_ge ns n
        refine ⟨a, n :: ns, rfl, q, by simp, fun mm hm hy => ?_⟩
        have e : mm = ns.foldl max n := by
          refine Int.le_antisymm ?_ ?_
          · rcases List.mem_cons.mp hm with rfl | hm
            · exact h1
            · exact h2 mm hm
          · rcases h3 with h3 | h3
            · rw [h3]
              exact hy n (List.mem_cons_self ..)
            · exact hy _ (List.mem_cons_of_mem _ h3)
        subst e
        exact hP.now hS (.int _)
  · exact hP.elim⟩
theorem s_min (hc : X.calm = true) : CallL X (.builtin "min") gMin := ⟨_, cr_min hc, fun m st H ds v E Q hS r hP => by
  obtain ⟨a, vs, rfl, q, rs⟩ := r
  unfold gMin at hP
  split at hP
  · rename_i k hk
    cases hn : intsD ds with
    | none =>
      rw [hn] at hk
      cases hk
    | some ns =>
      rw [hn] at hk
      have e := intsD_V rs hn
      subst e
      cases ns with
      | nil => cases hk
      | cons n ns =>
        have hk : some (ns.foldl min n) = some k := hk
        cases hk
        obtain ⟨h1, h2, h3⟩ := foldl_min_le ns n
        refine ⟨a, n :: ns, rfl, q, by simp, fun mm hm hy => ?_⟩
        have e : mm = ns.foldl min n := by
          refine Int.le_antisymm ?_ ?_
          · rcases h3 with h3 | h3
            · rw [h3]
              exact hy n (List.mem_cons_self ..)
            · exact hy _ (List.mem_cons_of_mem _ h3)
          · rcases List.mem_cons.mp hm with rfl | hm
            · exact h1
            · exact h2 mm hm
        subst e
        exact hP.now hS (.int _)
  · exact hP.elim⟩
/-! ### lcm -/
def rLcm : List V → Hp → VK → Prop := fun vs H Q => ∃ a b : Int, vs = [.int a, .int b] ∧ a.natAbs < 2 ^ 64 ∧ b.natAbs < 2 ^ 64 ∧ Q (.int ((Nat.lcm a.natAbs b.natAbs : Nat) : Int)) H
theorem cr_lcm : CallR X (.builtin "math.lcm") rLcm := by
  intro pins s σ H vs us Q I r h
  obtain ⟨a, b, rfl, h1, h2, q⟩ := h
  obtain ⟨t, u, rfl⟩ := Vals.int2 r
  exact PySem.W.mc_lcm h1 h2 fun _ => ⟨.int _, H, I.tok _, ⟨_, rfl⟩, q⟩
def fLcm : FM := fun ds st => match ds with
  | [.int i, .int j] => if decide (i.natAbs < 18446744073709551616) && decide (j.natAbs < 18446744073709551616) then .ok (.int (Nat.lcm i.natAbs j.natAbs : Nat)) st else .bad
  | _ => .bad
theorem c_lcm : CallM X (.builtin "math.lcm") fLcm := ⟨_, cr_lcm, fun m st H ds vs E Q hS r hP => by
  unfold fLcm at hP
  split at hP
  · split at hP
    · rename_i hc
      rw [Bool.and_eq_true, decide_eq_true_eq, decide_eq_true_eq] at hc
      obtain ⟨v, u, rfl, r1, r2⟩ := r.two
      cases r1
      cases r2
      exact ⟨_, _, rfl, hc.1, hc.2, hP.now hS (.int _)⟩
    · exact hP.elim
  · exact hP.elim⟩
/-! ### texts: join, repeated -/
def strsD : List D → Option (List (List Nat))
  | [] => some []
  | .str x :: ds => (strsD ds).map (x :: ·)
  | _ => none
theorem strsD_V {K : PySem.W.Frag} {m : List Addr} {H : Hp} : ∀ {ds : List D} {vs : List V} {ns : List (List Nat)}, RDs K m H ds vs → strsD ds = some ns → vs = (ns.map fun x => (⟨x.toArray⟩ : Str)).map V.str
  | [], _, _, .nil, h => by
    cases h
    rfl
  | d :: ds, _, ns, .cons r rs, h => by
    unfold strsD at h
    split at h
    · rename_i e
      cases e
    · rename_i i ds' e
      cases e
      cases r
      cases hz : strsD ds with
      | none =>
        rw [hz] at h
        cases h
      | some ks =>
        rw [hz] at h
        cases h
        rw [strsD_V rs hz]
        rfl
    · cases h
theorem strsD_map : ∀ ns : List (List Nat), strsD (ns.map D.str) = some ns
  | [] => rfl
  | n :: ns => by
    rw [List.map_cons, strsD, strsD_map ns]
    rfl
end
end HM

/-! HM, part 12: texts joined, things repeated. -/
namespace HM
open PySem PySem.Spec PyProof.Rows L2 SX
section
variable {X : Cx} {W : WX} {e o a b c : Expr} {es : List Expr} {pos p p2 : Pos} {f fo fa fb : EM D} {fs : EM (List D)}
def joinD (a : List Nat) : List (List Nat) → List Nat
  | [] => []
  | [p] => p
  | p :: q :: r => p ++ (a ++ joinD a (q :: r))
theorem joinD_eq (a : List Nat) : ∀ ys : List (List Nat), TL.joinL a ys = joinD a ys
  | [] => rfl
  | [_] => rfl
  | p :: q :: r => by
    show p ++ (a ++ TL.joinL a (q :: r)) = p ++ (a ++ joinD a (q :: r))
    rw [joinD_eq a (q :: r)]
def mJoin : MM := fun d ds st => match d, ds with
  | .str a, [y] => match (dSeq st y).bind strsD with
    | some ys => if (ys.map List.length).sum + ys.length * a.length ≤ 16777216 then .ok (.str (joinD a ys)) st else .bad
    | none => .bad
  | _, _ => .bad
theorem me_join : MethM X "str.join" mJoin := ⟨_, mt_join, fun m st H d v ds vs E Q hS r rs hP => by
  unfold mJoin at hP
  split at hP
  · rename_i a y
    split at hP
    · rename_i ys hy
      split at hP
      · rename_i hl
        cases hq : dSeq st y with
        | none =>
          rw [hq] at hy
          cases hy
        | some zs =>
          rw [hq] at hy
          obtain ⟨u, rfl, ru⟩ := rs.one
          cases r
          obtain ⟨p, us, rfl, q, rs'⟩ := dSeq_read hS hq ru
          have e := strsD_V rs' hy
          subst e
          refine ⟨⟨a.toArray⟩, p, ys.map S, rfl, rfl, q, ?_, ?_⟩
          · rw [List.map_map, List.length_map]
            have e : (ys.map ((fun x : Str => x.length) ∘ S)) = ys.map List.length := List.map_congr_left fun x _ => S_len x
            rw [e]
            have e2 : (⟨a.toArray⟩ : Str).length = a.length := S_len a
            rw [e2]
            exact hl
          · have e := join_S a ys
            rw [joinD_eq] at e
            rw [e]
            exact hP.now hS (.str _)
      · exact hP.elim
    · exact hP.elim
  · exact hP.elim⟩
/-! ### * -/
def repD {α : Type} (k : Nat) (xs : List α) : List α := (List.replicate k xs).flatten
theorem foldl_app (x : Array Nat) : ∀ (k : Nat) (acc : Array Nat), (List.replicate k x).foldl (· ++ ·) acc = acc ++ ((List.replicate k x.toList).flatten).toArray
  | 0, acc => by simp
  | k + 1, acc => by
    rw [List.replicate_succ, List.foldl_cons, foldl_app x k, List.replicate_succ, List.flatten_cons]
    apply Array.ext'
    simp
theorem repD_len {α : Type} (k : Nat) (xs : List α) : (repD k xs).length = xs.length * k := by
  unfold repD
  induction k with
  | zero => simp
  | succ k ih =>
    rw [List.replicate_succ, List.flatten_cons, List.length_append, ih, Nat.mul_succ, Nat.add_comm]
theorem op_repS : OpR X (binaryOp .Mult) (fun x y H Q => ∃ (z : List Nat) (k : Int), x = .str (S z) ∧ y = .int k ∧ 2 ≤ k ∧ k ≤ 16777216 ∧ z.length * k.toNat ≤ 16777216 ∧ Q (.str (S (repD k.toNat z))) H) := by
  intro pins s σ H x y v u Q I rx ry h
  obtain ⟨z, k, rfl, rfl, h2, hz, hl, q⟩ := h
  obtain ⟨t, rfl⟩ := rx
  obtain ⟨t', rfl⟩ := ry
  have e1 : (S z).length = z.length := S_len z
  refine PySem.P.mul_str ?_ (fun _ h0 => ?_) (fun _ _ => ?_) ?_
  · have a1 : ¬ k < -(2 ^ 63 : Int) := by omega
    have a2 : ¬ k ≥ 2 ^ 63 := by
      have : (16777216 : Int) < 2 ^ 63 := by decide
      omega
    rw [decide_eq_false a1, decide_eq_false a2]
    rfl
  · rw [e1]
    have h3 : z.length ≤ 16777216 := by
      have : z.length * 1 ≤ z.length * k.toNat := Nat.mul_le_mul_left _ (by omega)
      omega
    have h4 : (16777216 : Int) ≤ (2 ^ 63 - 1) / k := by
      refine (Int.le_ediv_iff_mul_le (by omega)).mpr ?_
      have : (16777216 : Int) * k ≤ 16777216 * 16777216 := Int.mul_le_mul_of_nonneg_left (by omega) (by decide)
      have : (16777216 : Int) * 16777216 ≤ 2 ^ 63 - 1 := by decide
      omega
    omega
  · rw [e1]
    show decide (z.length * k.toNat > 2 ^ 24) = false
    exact decide_eq_false (by
      have : (2 : Nat) ^ 24 = 16777216 := rfl
      omega)
  · have n1 : ¬ k < 1 := by omega
    rw [if_neg n1]
    have a1 : (k == 1) = false := beq_false_of_ne (by omega)
    rw [a1, e1, Bool.false_or]
    by_cases h0 : z = []
    · subst h0
      have e : (S (repD k.toNat ([] : List Nat))) = S [] := by
        have := repD_len k.toNat ([] : List Nat)
        rw [List.length_nil, Nat.zero_mul] at this
        rw [List.length_eq_zero_iff.mp this]
      rw [e] at q
      rw [if_pos (show (([] : List Nat).length == 0) = true from rfl)]
      exact ⟨.str _, H, I, ⟨_, rfl⟩, q⟩
    · have zl : 0 < z.length := List.length_pos_iff.mpr h0
      have a2 : (z.length == 0) = false := beq_false_of_ne (by omega)
      rw [a2, if_neg Bool.false_ne_true]
      have e : (⟨(List.replicate k.toNat (S z).cps).foldl (· ++ ·) #[]⟩ : Str) = S (repD k.toNat z) := by
        rw [foldl_app]
        simp [repD]
      rw [e]
      refine ⟨?_, .str _, H, I.tok _, ⟨_, rfl⟩, q⟩
      rw [S_len, repD_len, PySem.sizeLine_eq]
      exact hl
def oMul : O2 := fun x y st => match x, y with
  | .int i, .int j => if okMul i j then .ok (.int (i * j)) st else .bad
  | .str z, .int k => if decide (2 ≤ k) && decide (k ≤ 16777216) && decide (z.length * k.toNat ≤ 16777216) then .ok (.str (repD k.toNat z)) st else .bad
  | .ref n, .int k => match lstAt st n with
    | some xs => if okIx k && decide (xs.length * k.toNat ≤ 16777216) then .ok (.ref st.length) (st ++ [.lst (repD k.toNat xs)]) else .bad
    | none => .bad
  | .tup xs, .int k => if decide (2 ≤ k) && decide (k ≤ 1000) && !xs.isEmpty && decide (xs.length ≤ 1000) then .ok (.tup (repD k.toNat xs)) st else .bad
  | _, _ => .bad
theorem RDs.rep {K : PySem.W.Frag} {m : List Addr} {H : Hp} {ds : List D} {vs : List V} (r : RDs K m H ds vs) : ∀ k : Nat, RDs K m H (repD k ds) (repD k vs)
  | 0 => .nil
  | k + 1 => by
    have := RDs.rep r k
    unfold repD at this ⊢
    rw [List.replicate_succ, List.replicate_succ, List.flatten_cons, List.flatten_cons]
    exact r.append this
theorem op_mulAll : OpR X (binaryOp .Mult) (fun x y H Q => ((rI IntMulOk fun i j => .int (i * j)) x y H Q ∨ (∃ (z : List Nat) (k : Int), x = .str (S z) ∧ y = .int k ∧ 2 ≤ k ∧ k ≤ 16777216 ∧ z.length * k.toNat ≤ 16777216 ∧ Q (.str (S (repD k.toNat z))) H)) ∨ (rRep x y H Q ∨ rRepT X.K x y H Q)) :=
  (op_mulAny.or op_repS).or (op_rep.or op_repT)
theorem m_mul : OpM X W (binaryOp .Mult) oMul := opm_of op_mulAll fun m st H dx dy x y E Q hS r1 r2 hP => by
  unfold oMul at hP
  split at hP
  · rename_i i j
    split at hP
    · rename_i hc
      cases r1
      cases r2
      have q : (i.natAbs < 18446744073709551616 ∨ j.natAbs < 18446744073709551616) ∨ i.natAbs.log2 + j.natAbs.log2 < 1000000 := of_decide_eq_true hc
      refine .inl (.inl ⟨_, _, rfl, rfl, ?_, hP.now hS (.int _)⟩)
      rcases q with (q | q) | q
      · exact CMul.ok (.inl (by omega))
      · exact CMul.ok (.inr (by omega))
      · exact CMulW.ok q
    · exact hP.elim
  · split at hP
    · rename_i hc
      simp only [Bool.and_eq_true, decide_eq_true_eq] at hc
      cases r1
      cases r2
      exact .inl (.inr ⟨_, _, rfl, rfl, hc.1.1, hc.1.2, hc.2, hP.now hS (.str _)⟩)
    · exact hP.elim
  · split at hP
    · rename_i xs hx
      split at hP
      · rename_i hc
        rw [Bool.and_eq_true, decide_eq_true_eq] at hc
        cases r1 with
        | ref q =>
          cases r2
          obtain ⟨vs, h1, h2⟩ := hS.list hx q
          exact .inr (.inl ⟨_, _, vs, rfl, rfl, h1, (okIx_ok hc.1).1, (okIx_ok hc.1).2, line_of (by rw [← h2.len]; exact hc.2), hP.lst hS (h2.rep _)⟩)
      · exact hP.elim
    · exact hP.elim
  · split at hP
    · rename_i hc
      simp only [Bool.and_eq_true, decide_eq_true_eq, Bool.not_eq_true', List.isEmpty_eq_false_iff] at hc
      cases r1 with
      | tup q rs =>
        cases r2
        refine .inr (.inr ⟨_, _, _, rfl, rfl, q, fun e => hc.1.2 ?_, hc.1.1.1, hc.1.1.2, by rw [← rs.len]; exact hc.2, hP.tup hS (rs.rep _)⟩)
        subst e
        cases rs
        rfl
    · exact hP.elim
  · exact hP.elim
end
end HM

/-! HM: calls of defs with keywords. -/
namespace HM
open PySem PySem.Spec PyProof.Rows L2
section
variable {X : Cx} {W : WX} {e a b c : Expr} {es rest : List Expr} {pos p : Pos} {f fa fb fc : EM D} {fs fk : EM (List D)} {kws : List Keyword}
def wK (X : Cx) (kws : List Keyword) : TA := fun σ H Q => ∀ (pos : Pos) (pins : List (Addr × Obj)) (s : Shared), Inv X pins σ H s → wpAny (model X.prog X.w) X.A (evalAll ((backToKw pos (keywordEach kws X.env)).map (·.2))) (AP X pins σ Q) X.xe s
theorem pkW {X : Cx} {kws : List Keyword} : PK X kws (wK X kws) := ⟨fun pos pins s σ H Q I h => h pos pins s I⟩
/-- the values of keywords -/
structure Ek (X : Cx) (W : WX) (kws : List Keyword) (f : EM (List D)) : Prop where
  run : ∀ (m : List Addr) (τ : Sl) (st : Store) (σ : L2.St) (H : Hp) (Q : List V → Hp → Prop), SL X.K m H τ σ → SS X.K m st H → Pe X.K (fun c d H' => W c d σ H') (RDs X.K) m H (f τ st) Q → wK X kws σ H Q
theorem ek_nil : Ek X W [] aNil := ⟨fun m τ st σ H Q hL hS hP pos pins s I => pk_nil.run pos pins s σ H Q I (hP.now hS .nil)⟩
theorem ek_cons {nm : Option Str} {kpos : Pos} (ha : Ex X W e f) (hr : Ek X W kws fs) : Ek X W (⟨nm, e, kpos⟩ :: kws) (aCons f fs) := by
  refine ⟨fun m τ st σ H Q hL hS hP pos pins s I => (pk_cons peW pkW).run pos pins s σ H Q I ?_⟩
  refine ha.run m τ st σ H _ hL hS (hP.bind fun dx s1 m1 H1 x e1 hS1 r1 hP1 => ?_)
  exact hr.run m1 τ s1 σ H1 _ (hL.mono e1) hS1 (hP1.bind fun ds s2 m2 H2 xs e2 hS2 r2 hP2 => hP2.now hS2 (.cons (r1.mono e2) r2))
/-- those at the places -/
def arr {α : Type} (is : List Nat) (l : List α) : List α := is.filterMap (fun i => l[i]?)
theorem Vals.arr {xs : List V} {us : List Value} (r : Vals xs us) : ∀ is : List Nat, Vals (arr is xs) (arr is us)
  | [] => .nil
  | i :: is => by
    have ih := Vals.arr r is
    unfold HM.arr at ih ⊢
    rw [List.filterMap_cons, List.filterMap_cons]
    cases h : xs[i]? with
    | none => rw [r.none_of h]; exact ih
    | some x =>
      obtain ⟨u, h1, h2⟩ := r.get h
      rw [h1]
      exact .cons h2 ih
theorem RDs.arr {K : PySem.W.Frag} {m : List Addr} {H : Hp} {ds : List D} {vs : List V} (r : RDs K m H ds vs) : ∀ is : List Nat, RDs K m H (arr is ds) (arr is vs)
  | [] => .nil
  | i :: is => by
    have ih := RDs.arr r is
    unfold HM.arr at ih ⊢
    rw [List.filterMap_cons, List.filterMap_cons]
    cases h : ds[i]? with
    | none =>
      have : vs[i]? = none := by
        rw [List.getElem?_eq_none_iff] at h ⊢
        rw [← r.len]; exact h
      rw [this]; exact ih
    | some x =>
      obtain ⟨u, h1, h2⟩ := r.get h
      rw [h1]
      exact .cons h2 ih
def eCallK (n k np : Nat) (is : List Nat) (mf : FM) (fs fk : EM (List D)) : EM D := fun τ st => (fs τ st).bind fun ds s1 => (fk τ s1).bind fun es s2 => if ds.length = n ∧ es.length = k ∧ (arr is (ds ++ es)).length = np then mf (arr is (ds ++ es)) s2 else .bad
theorem ex_ck {P : Program} {w : World} {K : PySem.W.Frag} {mg : Str → Option Value} {base : Heap} {A : Around} {j k n : Nat} {ps ks : List Str} {is : List Nat} {mf : FM} {x : Str} {st : Stmt} {fa : Addr} {fd : FuncData} (c : Cal P w K mg base x j ps mf) (F : FnP K x st fa fd) (gx : mg x = some (.ref fa))
    (bn : ∀ (kV doc pm : Value) (an : Option Addr) (cdv ct : Value) (us ws : List Value), us.length = n → ws.length = ks.length → bindArgs (PySem.W.fnOf x x (defArgs st) (defBody st) (defScope st) .none kV doc pm an cdv ct) ⟨us, ks.zip ws⟩ = pure (ps.zip (arr is (us ++ ws))))
    (tk : Takes X W) (hr : Room k A) (hj : j ≤ k) (ha : Ea X W (e :: es) fs) (hkw : Ek X W kws fk)
    (hall : (backToKw pos (keywordEach kws X.env)).all (·.1.isSome) = true := by rfl) (hks : (backToKw pos (keywordEach kws X.env)).filterMap (·.1) = ks := by rfl)
    (hpl : ((backTo pos (starEach (e :: es) X.env)).any (·.1) || (backToKw pos (keywordEach kws X.env)).any (·.1.isNone)) = false := by rfl)
    (h1 : X.prog = P := by rfl) (h2 : X.w = w := by rfl) (h3 : X.K = K := by rfl) (h4 : X.mg = mg := by rfl) (h5 : X.base = base := by rfl) (h6 : X.A = A := by rfl) (hg : Gl X x := by rfl) (hdb : (x == ("__debug__" : Str)) = false := by decide) (he : starEach (e :: es) X.env = (false, eval e X.env) :: starEach es X.env := by rfl) :
    Ex X W (.Call (.Name x p) (e :: es) kws pos) (eCallK n ks.length ps.length is mf fs fk) := by
  subst h1 h2 h3 h4 h5 h6
  obtain ⟨f, fd', G, hm, hk, hb, oc, od, osl, lk⟩ := c.ex
  have e1 : f = fa := by
    rw [hm] at gx
    exact Value.ref.inj (Option.some.inj gx)
  subst e1
  obtain ⟨oc2, od2, dV, kV, doc, pm, an, cdv, ct, osl2, e2, lk2, hcd, hD, hK⟩ := F.ex
  rw [lk] at lk2
  have e3 : fd' = fd := by
    have := Option.some.inj lk2
    injection this with _ _ q _
    injection q
  subst e3
  have hdV : dV = .none := by
    rcases hD with ⟨_, q⟩ | ⟨q, _⟩
    · exact q
    · exact absurd rfl q
  have kb : KBn X.K fd' ps n ks (fun us ws => HM.arr is (us ++ ws)) (fun vs zs => HM.arr is (vs ++ zs)) :=
    ⟨fun s us ws _ l1 l2 => .of_eq (by rw [e2, hdV]; exact bn kV doc pm an cdv ct us ws l1 l2), fun r1 r2 => HM.Vals.arr (r1.append r2) is⟩
  refine ⟨fun m τ st σ H Q hL hS hP pins s I => ?_⟩
  refine wpAny_Call_Name_kw (ld_glob I hg hm ?_ hdb)
  have q : wA X (e :: es) σ H fun vs H1 => wK X kws σ H1 fun zs H2 => vs.length = n ∧ zs.length = ks.length ∧ spM X.K ps.length mf (HM.arr is (vs ++ zs)) H2 Q (WE W σ) :=
    ha.run m τ st σ H _ hL hS (hP.bind fun ds s1 m1 H1 vs e1 hS1 r1 hP1 => hkw.run m1 τ s1 σ H1 _ (hL.mono e1) hS1 (hP1.bind fun es s2 m2 H2 xs e2 hS2 r2 hP2 => by
      split at hP2
      · rename_i hl
        exact ⟨by rw [← r1.len]; exact hl.1, by rw [← r2.len]; exact hl.2.1, m2, s2, _, hl.2.2, hS2, RDs.arr ((r1.mono e2).append r2) is, hP2⟩
      · exact hP2.elim))
  refine PySem.W.callWith_KW (h₀ := X.base) I.ok.mod.kin hk hall (thn (q pos pins s I) fun us s1 ⟨vs, H1, I1, r, q1⟩ => ?_) hpl he
  refine thn (q1 pos pins s1 I1) fun ws s2 ⟨zs, H2, I2, rz, l1, l2, q2⟩ => ⟨I2.kIn, ?_⟩
  rw [hks]
  have r2 := kb.rel r rz
  refine wpAny_call (codeAny_mono (G.run X.A X.stack s2 H2 ⟨us, ks.zip ws⟩ _ _ Q (WE W σ) (hr.mono hj) I2.env0 (kb.to s2 us ws I2.kIn (r.length.symm.trans l1) (rz.length.symm.trans l2)) r2 q2) fun r s' hq => ?_)
  cases r with
  | error e => exact passAt tk σ pins H2 s2 e s' I2 hq
  | ok fl =>
    cases fl with
    | ret u => exact I2.after hq
    | next => exact False.elim hq
    | brk => exact False.elim hq
    | cont => exact False.elim hq
end
end HM

/-! HM, part 13: max and min of tuples, index. -/
namespace HM
open PySem PySem.Spec PyProof.Rows L2
section
variable {prog : Program} {w : World} {A : Around} {E : Value → Shared → Prop} {s : Shared}
/-- the greatest of a tuple's ints -/
theorem tup_max {t : Addr} {xs : Array (Int × Tok)} {Q : Value → Shared → Prop} (hh : A.handled = none) (ht : s.heap.IsTuple t (intItems xs)) (hne : 0 < xs.size)
    (h : ∀ v h' tk, (intItems xs)[argBest (fun i j => decide (numAt xs i > numAt xs j)) (xs.size - 1)]? = some v → (∀ b o, s.heap.get? b = some o → h'.get? b = some o) → Q v { s with heap := h', toks := tk }) :
    wpAny (model prog w) A (call (.builtin "max") [.ref t]) Q E s := by
  obtain ⟨ob, o1, _, _, _⟩ := id ht
  have sz : (intItems xs).size = xs.size := by simp [intItems]
  refine call_max_walk (wpAny_pyIter_tuple ht ?_)
  refine ⟨_, [_, t], [_], _, _, _, _, rfl, Walks.tuple (A := A.in1) hh s.heap.objs.size t (Nat.ne_of_lt (Heap.lt_size o1)) (intItems xs), ⟨⟨_, Heap.get?_push_size _ rfl, rfl, rfl⟩, ht.push _⟩, fun b hb => ?_, by omega, CmpOf.ints_gt (numAt xs) (fun _ _ => intItems_at), fun v h' tk hP hk => ?_⟩
  · rcases List.mem_cons.mp hb with rfl | hb
    · exact Heap.lt_size (Heap.get?_push_size _ rfl)
    · rw [List.mem_singleton.mp hb]
      exact Heap.lt_size (Heap.get?_push_of_some _ o1)
  · rw [sz] at hP
    exact h v h' tk hP fun b o e => hk b o (fun hm => absurd (Heap.lt_size e) (by rw [List.mem_singleton.mp hm]; exact Nat.lt_irrefl _)) (Heap.get?_push_of_some _ e)
theorem tup_min {t : Addr} {xs : Array (Int × Tok)} {Q : Value → Shared → Prop} (hh : A.handled = none) (ht : s.heap.IsTuple t (intItems xs)) (hne : 0 < xs.size)
    (h : ∀ v h' tk, (intItems xs)[argBest (fun i j => decide (numAt xs i < numAt xs j)) (xs.size - 1)]? = some v → (∀ b o, s.heap.get? b = some o → h'.get? b = some o) → Q v { s with heap := h', toks := tk }) :
    wpAny (model prog w) A (call (.builtin "min") [.ref t]) Q E s := by
  obtain ⟨ob, o1, _, _, _⟩ := id ht
  have sz : (intItems xs).size = xs.size := by simp [intItems]
  refine call_min_walk (wpAny_pyIter_tuple ht ?_)
  refine ⟨_, [_, t], [_], _, _, _, _, rfl, Walks.tuple (A := A.in1) hh s.heap.objs.size t (Nat.ne_of_lt (Heap.lt_size o1)) (intItems xs), ⟨⟨_, Heap.get?_push_size _ rfl, rfl, rfl⟩, ht.push _⟩, fun b hb => ?_, by omega, CmpOf.ints_lt (numAt xs) (fun _ _ => intItems_at), fun v h' tk hP hk => ?_⟩
  · rcases List.mem_cons.mp hb with rfl | hb
    · exact Heap.lt_size (Heap.get?_push_size _ rfl)
    · rw [List.mem_singleton.mp hb]
      exact Heap.lt_size (Heap.get?_push_of_some _ o1)
  · rw [sz] at hP
    exact h v h' tk hP fun b o e => hk b o (fun hm => absurd (Heap.lt_size e) (by rw [List.mem_singleton.mp hm]; exact Nat.lt_irrefl _)) (Heap.get?_push_of_some _ e)
end
section
variable {X : Cx} {W : WX} {e : Expr} {pos p : Pos}
def rMaxT (K : PySem.W.Frag) : List V → Hp → VK → Prop := fun vs H Q => ∃ (a : Addr) (ns : List Int), vs = [V.ref a] ∧ SqT K H a (ns.map V.int) ∧ 0 < ns.length ∧ ∀ m, m ∈ ns → (∀ y, y ∈ ns → y ≤ m) → Q (.int m) H
def rMinT (K : PySem.W.Frag) : List V → Hp → VK → Prop := fun vs H Q => ∃ (a : Addr) (ns : List Int), vs = [V.ref a] ∧ SqT K H a (ns.map V.int) ∧ 0 < ns.length ∧ ∀ m, m ∈ ns → (∀ y, y ∈ ns → m ≤ y) → Q (.int m) H
theorem cr_maxT (hc : X.calm = true) : CallR X (.builtin "max") (rMaxT X.K) := by
  intro pins s σ H vs us Q I r h
  obtain ⟨a, ns, rfl, hs, hne, q⟩ := h
  obtain ⟨its, rv, hl, _⟩ := I.tuple hs
  rw [Vals.ref1 r]
  have hi := rv.ints
  obtain ⟨xs, e⟩ := hi.allInts.items
  have hn : numsOf (intItems xs).toList = ns := by rw [← e]; exact hi.numsOf
  rw [nums_intItems] at hn
  subst hn
  obtain ⟨ob, ho, hcl, n, hd⟩ := hl
  have ht : s.heap.IsTuple a (intItems xs) := by
    rw [← e]
    exact ⟨ob, ho, hcl, n, hd⟩
  have hsz : 0 < xs.size := by simpa using hne
  refine tup_max (I.ok.hd hc) ht hsz fun v h' tk hv hk => ?_
  obtain ⟨t, rfl⟩ := intItems_at hv
  obtain ⟨h1, h2⟩ := argBest_gt (numAt xs) (xs.size - 1)
  refine ⟨.int _, H, I.kept hk, ⟨_, rfl⟩, q _ ?_ fun y hy => ?_⟩
  · rw [numAt_eq]
    exact PySem.getD_mem (by rw [List.length_map, Array.length_toList]; omega)
  · obtain ⟨j, hj, rfl⟩ := mem_getD hy
    rw [List.length_map, Array.length_toList] at hj
    rw [← numAt_eq]
    exact h2 j (by omega)
theorem cr_minT (hc : X.calm = true) : CallR X (.builtin "min") (rMinT X.K) := by
  intro pins s σ H vs us Q I r h
  obtain ⟨a, ns, rfl, hs, hne, q⟩ := h
  obtain ⟨its, rv, hl, _⟩ := I.tuple hs
  rw [Vals.ref1 r]
  have hi := rv.ints
  obtain ⟨xs, e⟩ := hi.allInts.items
  have hn : numsOf (intItems xs).toList = ns := by rw [← e]; exact hi.numsOf
  rw [nums_intItems] at hn
  subst hn
  obtain ⟨ob, ho, hcl, n, hd⟩ := hl
  have ht : s.heap.IsTuple a (intItems xs) := by
    rw [← e]
    exact ⟨ob, ho, hcl, n, hd⟩
  have hsz : 0 < xs.size := by simpa using hne
  refine tup_min (I.ok.hd hc) ht hsz fun v h' tk hv hk => ?_
  obtain ⟨t, rfl⟩ := intItems_at hv
  obtain ⟨h1, h2⟩ := argBest_lt (numAt xs) (xs.size - 1)
  refine ⟨.int _, H, I.kept hk, ⟨_, rfl⟩, q _ ?_ fun y hy => ?_⟩
  · rw [numAt_eq]
    exact PySem.getD_mem (by rw [List.length_map, Array.length_toList]; omega)
  · obtain ⟨j, hj, rfl⟩ := mem_getD hy
    rw [List.length_map, Array.length_toList] at hj
    rw [← numAt_eq]
    exact h2 j (by omega)
theorem max_uniq {ns : List Int} {k m : Int} (hk : maxI ns = some k) (hm : m ∈ ns) (hy : ∀ y ∈ ns, y ≤ m) : m = k := by
  cases ns with
  | nil => cases hk
  | cons n ns =>
    have hk : some (ns.foldl max n) = some k := hk
    cases hk
    obtain ⟨h1, h2, h3⟩ := foldl_max_ge ns n
    refine Int.le_antisymm ?_ ?_
    · rcases List.mem_cons.mp hm with rfl | hm
      · exact h1
      · exact h2 m hm
    · rcases h3 with h3 | h3
      · rw [h3]
        exact hy n (List.mem_cons_self ..)
      · exact hy _ (List.mem_cons_of_mem _ h3)
theorem min_uniq {ns : List Int} {k m : Int} (hk : minI ns = some k) (hm : m ∈ ns) (hy : ∀ y ∈ ns, m ≤ y) : m = k := by
  cases ns with
  | nil => cases hk
  | cons n ns =>
    have hk : some (ns.foldl min n) = some k := hk
    cases hk
    obtain ⟨h1, h2, h3⟩ := foldl_min_le ns n
    refine Int.le_antisymm ?_ ?_
    · rcases h3 with h3 | h3
      · rw [h3]
        exact hy n (List.mem_cons_self ..)
      · exact hy _ (List.mem_cons_of_mem _ h3)
    · rcases List.mem_cons.mp hm with rfl | hm
      · exact h1
      · exact h2 m hm
theorem maxI_pos {ns : List Int} {k : Int} (hk : maxI ns = some k) : 0 < ns.length := by
  cases ns with
  | nil => cases hk
  | cons n ns => simp
theorem minI_pos {ns : List Int} {k : Int} (hk : minI ns = some k) : 0 < ns.length := by
  cases ns with
  | nil => cases hk
  | cons n ns => simp
theorem sv_max (hc : X.calm = true) : CallS X (.builtin "max") gMax := ⟨_, (cr_max hc).or (cr_maxT hc), fun m st H ds v E Q hS r hP => by
  obtain ⟨a, vs, rfl, q, rs⟩ := r
  unfold gMax at hP
  split at hP
  · rename_i k hk
    cases hn : intsD ds with
    | none =>
      rw [hn] at hk
      cases hk
    | some ns =>
      rw [hn] at hk
      have hk : maxI ns = some k := hk
      have e := intsD_V rs hn
      subst e
      have fin : ∀ mm, mm ∈ ns → (∀ y, y ∈ ns → y ≤ mm) → Q (.int mm) H := fun mm hm hy => by
        rw [max_uniq hk hm hy]
        exact hP.now hS (.int _)
      rcases q with q | q
      · exact .inl ⟨a, ns, rfl, q, maxI_pos hk, fin⟩
      · exact .inr ⟨a, ns, rfl, q, maxI_pos hk, fin⟩
  · exact hP.elim⟩
theorem sv_min (hc : X.calm = true) : CallS X (.builtin "min") gMin := ⟨_, (cr_min hc).or (cr_minT hc), fun m st H ds v E Q hS r hP => by
  obtain ⟨a, vs, rfl, q, rs⟩ := r
  unfold gMin at hP
  split at hP
  · rename_i k hk
    cases hn : intsD ds with
    | none =>
      rw [hn] at hk
      cases hk
    | some ns =>
      rw [hn] at hk
      have hk : minI ns = some k := hk
      have e := intsD_V rs hn
      subst e
      have fin : ∀ mm, mm ∈ ns → (∀ y, y ∈ ns → mm ≤ y) → Q (.int mm) H := fun mm hm hy => by
        rw [min_uniq hk hm hy]
        exact hP.now hS (.int _)
      rcases q with q | q
      · exact .inl ⟨a, ns, rfl, q, minI_pos hk, fin⟩
      · exact .inr ⟨a, ns, rfl, q, minI_pos hk, fin⟩
  · exact hP.elim⟩
end
/-! ### tuple(range(..)), list(range(..)) -/
section
variable {X : Cx} {W : WX} {e a b : Expr} {pos p p2 : Pos} {fa fb : EM D}
def okLen (j : Int) : Bool := decide (j.toNat ≤ 16777216) && decide (0 ≤ j)
theorem rng_rds {K : PySem.W.Frag} {m : List Addr} {H : Hp} {i j : Int} : RDs K m H (rng i j) (rgV i j) := by
  have e1 : rng i j = ((List.range (j - i).toNat).map fun k : Nat => i + (k : Int)).map D.int := by
    unfold rng
    rw [List.map_map]
    rfl
  have e2 : rgV i j = ((List.range (j - i).toNat).map fun k : Nat => i + (k : Int)).map V.int := by
    unfold rgV
    rw [List.map_map]
    rfl
  rw [e1, e2]
  exact RDs.ints _
theorem rg_ok {i j : Int} (hi : okLen i = true) (hj : okLen j = true) : RgOk i j := by
  unfold okLen at hi hj
  rw [Bool.and_eq_true, decide_eq_true_eq, decide_eq_true_eq] at hi hj
  exact RgOk.of_le hi.2 (by omega) (by omega) hj.2
def kTup (i j : Int) (st : Store) : ER D := if okLen i && okLen j then .ok (.tup (rng i j)) st else .bad
def kLst (i j : Int) (st : Store) : ER D := if okLen i && okLen j then .ok (.ref st.length) (st ++ [.lst (rng i j)]) else .bad
def eRg1 (k : Int → Int → Store → ER D) (fa : EM D) : EM D := fun τ st => (fa τ st).bind fun d s1 => match d with
  | .int j => k 0 j s1
  | _ => .bad
def eRg2 (k : Int → Int → Store → ER D) (fa fb : EM D) : EM D := fun τ st => (fa τ st).bind fun d s1 => (fb τ s1).bind fun e s2 => match d, e with
  | .int i, .int j => k i j s2
  | _, _ => .bad
theorem kTup_ok {K : PySem.W.Frag} {E : XK} {m : List Addr} {st : Store} {H : Hp} {Q : VK} {i j : Int} (hS : SS K m st H) (hP : Pe K E (RD K) m H (kTup i j st) Q) : RgOk i j ∧ ∀ q, H q = none → Q (.ref q) (upd H q (.tup (rgV i j))) := by
  unfold kTup at hP
  split at hP
  · rename_i hc
    rw [Bool.and_eq_true] at hc
    exact ⟨rg_ok hc.1 hc.2, hP.tup hS rng_rds⟩
  · exact hP.elim
theorem kLst_ok {K : PySem.W.Frag} {E : XK} {m : List Addr} {st : Store} {H : Hp} {Q : VK} {i j : Int} (hS : SS K m st H) (hP : Pe K E (RD K) m H (kLst i j st) Q) : RgOk i j ∧ ∀ q, H q = none → Q (.ref q) (upd H q (.lst (rgV i j))) := by
  unfold kLst at hP
  split at hP
  · rename_i hc
    rw [Bool.and_eq_true] at hc
    exact ⟨rg_ok hc.1 hc.2, hP.lst hS rng_rds⟩
  · exact hP.elim
theorem ex_tupRg1 (hc : X.calm = true) (hg : Gl X "tuple") (hm : X.mg "tuple" = none) (hg2 : Gl X "range") (hm2 : X.mg "range" = none) (ha : Ex X W a fa) (na : starEach [.Call (.Name "range" p2) [a] [] pos] X.env = (false, eval (.Call (.Name "range" p2) [a] [] pos) X.env) :: starEach [] X.env := by rfl) (nb : starEach [a] X.env = (false, eval a X.env) :: starEach [] X.env := by rfl) {pos2 : Pos} :
    Ex X W (.Call (.Name "tuple" p) [.Call (.Name "range" p2) [a] [] pos] [] pos2) (eRg1 kTup fa) := by
  refine ⟨fun m τ st σ H Q hL hS hP pins s I => (pe_tupRg hc hg hm (prg_1 hg2 hm2 peW nb) na).run pins s σ H Q I ?_⟩
  refine ha.run m τ st σ H _ hL hS (hP.bind fun d s1 m1 H1 v e1 hS1 r1 hP1 => ?_)
  split at hP1
  · cases r1
    exact ⟨_, rfl, kTup_ok hS1 hP1⟩
  · exact hP1.elim
theorem ex_lstRg1 (hc : X.calm = true) (hg : Gl X "list") (hm : X.mg "list" = none) (hg2 : Gl X "range") (hm2 : X.mg "range" = none) (ha : Ex X W a fa) (na : starEach [.Call (.Name "range" p2) [a] [] pos] X.env = (false, eval (.Call (.Name "range" p2) [a] [] pos) X.env) :: starEach [] X.env := by rfl) (nb : starEach [a] X.env = (false, eval a X.env) :: starEach [] X.env := by rfl) {pos2 : Pos} :
    Ex X W (.Call (.Name "list" p) [.Call (.Name "range" p2) [a] [] pos] [] pos2) (eRg1 kLst fa) := by
  refine ⟨fun m τ st σ H Q hL hS hP pins s I => (pe_listRg hc hg hm (prg_1 hg2 hm2 peW nb) na).run pins s σ H Q I ?_⟩
  refine ha.run m τ st σ H _ hL hS (hP.bind fun d s1 m1 H1 v e1 hS1 r1 hP1 => ?_)
  split at hP1
  · cases r1
    exact ⟨_, rfl, kLst_ok hS1 hP1⟩
  · exact hP1.elim
end
/-! ### zip of two -/
section
variable {X : Cx} {W : WX} {a b : Expr} {pos p tpos : Pos} {fa fb : EM D}
theorem zipD_at {xs ys : List D} {i : Nat} {d : D} (h : (zipD xs ys)[i]? = some d) : ∃ x y, xs[i]? = some x ∧ ys[i]? = some y ∧ d = .tup [x, y] := by
  unfold zipD at h
  rw [List.getElem?_map] at h
  cases hz : (List.zip xs ys)[i]? with
  | none =>
    rw [hz] at h
    cases h
  | some q =>
    rw [hz] at h
    cases h
    obtain ⟨h1, h2⟩ := List.getElem?_zip_eq_some.mp hz
    exact ⟨_, _, h1, h2, rfl⟩
theorem zipD_len (xs ys : List D) : (zipD xs ys).length = min xs.length ys.length := by
  unfold zipD
  rw [List.length_map, List.length_zip]
theorem j_zipT {K : PySem.W.Frag} {m0 : List Addr} {H0 : Hp} {a b : Addr} {vs us : List V} {xs ys : List D} (hq : SqT K H0 a vs) (rs : RDs K m0 H0 xs vs) (hq2 : SqT K H0 b us) (rs2 : RDs K m0 H0 ys us) : JOk K m0 H0 (.fix (zipD xs ys)) (RZ.ItzT K a b) := fun m H st e s _ => by
  have q1 := e.tup a vs hq
  have q2 := e.tup b us hq2
  have r1 := rs.mono e
  have r2 := rs2.mono e
  refine ⟨fun i d hd => ?_, vs, us, q1, q2, ?_⟩
  · obtain ⟨x, y, hx, hy, rfl⟩ := zipD_at (show (zipD xs ys)[i]? = some d from hd)
    obtain ⟨v, hv, rv⟩ := r1.get hx
    obtain ⟨u, hu, ru⟩ := r2.get hy
    refine ⟨⟨vs, us, v, u, q1, q2, hv, hu⟩, fun z H' hz => ?_⟩
    obtain ⟨T, v', u', rfl, hT, rfl, g1, g2⟩ := hz
    have z1 := g1 vs q1
    have z2 := g2 us q2
    rw [hv] at z1
    rw [hu] at z2
    cases z1
    cases z2
    exact ⟨Ext.fresh hT, s.fresh hT, .tup (SqT.of upd_same) (.cons (rv.mono (Ext.fresh hT)) (.cons (ru.mono (Ext.fresh hT)) .nil))⟩
  · show vs.length ≤ (zipD xs ys).length ∨ us.length ≤ (zipD xs ys).length
    rw [zipD_len, rs.len, rs2.len]
    omega
theorem j_zipL {K : PySem.W.Frag} {m0 : List Addr} {H0 : Hp} {a b : Addr} {n k : Nat} {xs ys : List D} (ha : m0[n]? = some a) (hb : m0[k]? = some b) : JOk K m0 H0 (.two n k xs ys) (Itz K a b) := fun m H st e s hc => by
  have hc : (decide (lstAt st n = some xs) && decide (lstAt st k = some ys)) = true := hc
  rw [Bool.and_eq_true, decide_eq_true_eq, decide_eq_true_eq] at hc
  obtain ⟨vs, h1, r1⟩ := s.list hc.1 (e.pre n a ha)
  obtain ⟨us, h2, r2⟩ := s.list hc.2 (e.pre k b hb)
  have q1 : SqL K H a vs := SqL.of h1
  have q2 : SqL K H b us := SqL.of h2
  refine ⟨fun i d hd => ?_, vs, us, q1, q2, ?_⟩
  · obtain ⟨x, y, hx, hy, rfl⟩ := zipD_at (show (zipD xs ys)[i]? = some d from hd)
    obtain ⟨v, hv, rv⟩ := r1.get hx
    obtain ⟨u, hu, ru⟩ := r2.get hy
    refine ⟨⟨vs, us, v, u, q1, q2, hv, hu⟩, fun z H' hz => ?_⟩
    obtain ⟨T, v', u', rfl, hT, rfl, g1, g2⟩ := hz
    have z1 := g1 vs q1
    have z2 := g2 us q2
    rw [hv] at z1
    rw [hu] at z2
    cases z1
    cases z2
    exact ⟨Ext.fresh hT, s.fresh hT, .tup (SqT.of upd_same) (.cons (rv.mono (Ext.fresh hT)) (.cons (ru.mono (Ext.fresh hT)) .nil))⟩
  · show vs.length ≤ (zipD xs ys).length ∨ us.length ≤ (zipD xs ys).length
    rw [zipD_len, r1.len, r2.len]
    omega
def zip2 (d e : D) (st : Store) : ER Sq := match d, e with
  | .tup xs, .tup ys => .ok (.fix (zipD xs ys)) st
  | .ref n, .ref k => match lstAt st n, lstAt st k with
    | some xs, some ys => .ok (.two n k xs ys) st
    | _, _ => .bad
  | _, _ => .bad
def iZip (fa fb : EM D) : EM Sq := fun τ st => (fa τ st).bind fun d s1 => (fb τ s1).bind fun e s2 => zip2 d e s2
theorem ei_zip {elts : List Expr} {kk : Nat} (hg : Gl X "zip") (hm : X.mg "zip" = none) (ha : Ex X W a fa) (hb : Ex X W b fb)
    (hs : starEach [a, b] X.env = (false, eval a X.env) :: starEach [b] X.env := by rfl) (hs2 : starEach [b] X.env = (false, eval b X.env) :: starEach [] X.env := by rfl) (hpl : (backTo pos (starEach [b] X.env)).any (·.1) = false := by rfl) :
    Ei X W (.Tuple elts kk tpos) (.Call (.Name "zip" p) [a, b] [] pos) (iZip fa fb) := by
  refine ⟨fun m τ st σ H R hL hS hP pins s I => (RZ.pi_zipA (elts := elts) (kk := kk) (tpos := tpos) hg hm (pa_cons peW (pa_cons peW pa_nil hs2) hs) hs hpl).run pins s σ H R I ?_⟩
  refine two ha hb hL hS hP fun m2 st2 H2 dx dy x y e2 hS2 r1 r2 hP2 => ?_
  unfold zip2 at hP2
  split at hP2
  · cases r1 with
    | tup q rs =>
      cases r2 with
      | tup q2 rs2 => exact ⟨_, _, _, _, rfl, .inr ⟨q, q2, hP2.now hS2 (j_zipT q rs q2 rs2)⟩⟩
  · split at hP2
    · rename_i xs ys hx hy
      cases r1 with
      | ref q =>
        cases r2 with
        | ref q2 =>
          obtain ⟨vs, h1, _⟩ := hS2.list hx q
          obtain ⟨us, h2, _⟩ := hS2.list hy q2
          exact ⟨_, _, vs, us, rfl, .inl ⟨SqL.of h1, SqL.of h2, hP2.now hS2 (j_zipL q q2)⟩⟩
    · exact hP2.elim
  · exact hP2.elim
end
end HM

/-! HM, part S: how mirrors are computed (simp). -/
namespace HM
open PySem PySem.Spec PyProof.Rows L2
section
variable {α β : Type} {τ : Sl} {st : Store} {f g h fa fb fc fe fo fi : EM D} {fs : EM (List D)} {ga gb : EM Bool} {i n : Nat} {d : D} {u v : SM}
@[simp] theorem eVar_e (hh : τ[i]? = some (some d)) : eVar i τ st = .ok d st := by unfold eVar; rw [hh]
@[simp] theorem eC_e : eC d τ st = .ok d st := rfl
@[simp] theorem eBin_e {o : O2} : eBin o fa fb τ st = (fa τ st).bind fun x s1 => (fb τ s1).bind fun y s2 => o x y s2 := rfl
@[simp] theorem eUn_e {o : O1} : eUn o fa τ st = (fa τ st).bind o := rfl
@[simp] theorem tBl_e : tBl fa τ st = (fa τ st).bind dBl := rfl
@[simp] theorem dBl_e {b : Bool} : dBl (.bl b) st = .ok b st := rfl
def oTru (d : D) (st : Store) : ER Bool := match dTru st d with
  | some b => .ok b st
  | none => .bad
@[simp] theorem tVal_e : tVal fa τ st = (fa τ st).bind oTru := rfl
@[simp] theorem oTru_bl {b : Bool} : oTru (.bl b) st = .ok b st := rfl
@[simp] theorem oTru_int {k : Int} : oTru (.int k) st = .ok (k != 0) st := rfl
@[simp] theorem oTru_non : oTru .non st = .ok false st := rfl
@[simp] theorem oTru_tup {xs : List D} : oTru (.tup xs) st = .ok (!xs.isEmpty) st := rfl
@[simp] theorem tAnd_e : HM.tAnd ga gb τ st = (ga τ st).bind fun x s1 => if x then gb τ s1 else .ok false s1 := rfl
@[simp] theorem tOr_e : HM.tOr ga gb τ st = (ga τ st).bind fun x s1 => if x then .ok true s1 else gb τ s1 := rfl
@[simp] theorem tNot_e : HM.tNot ga τ st = (ga τ st).bind fun x s1 => .ok (!x) s1 := rfl
@[simp] theorem tYes_e : HM.tYes τ st = .ok true st := rfl
def oAndV (k : Store → ER D) (d : D) (st : Store) : ER D := match dTru st d with
  | some true => k st
  | some false => .ok d st
  | none => .bad
def oOrV (k : Store → ER D) (d : D) (st : Store) : ER D := match dTru st d with
  | some true => .ok d st
  | some false => k st
  | none => .bad
def oNotV (d : D) (st : Store) : ER D := match dTru st d with
  | some b => .ok (.bl !b) st
  | none => .bad
@[simp] theorem eAnd_e : eAnd fa fb τ st = (fa τ st).bind (oAndV (fb τ)) := rfl
@[simp] theorem eOr_e : eOr fa fb τ st = (fa τ st).bind (oOrV (fb τ)) := rfl
@[simp] theorem eNot_e : eNot fa τ st = (fa τ st).bind oNotV := rfl
@[simp] theorem oAndV_bl {k : Store → ER D} {b : Bool} : oAndV k (.bl b) st = if b then k st else .ok (.bl false) st := by cases b <;> rfl
@[simp] theorem oOrV_bl {k : Store → ER D} {b : Bool} : oOrV k (.bl b) st = if b then .ok (.bl true) st else k st := by cases b <;> rfl
@[simp] theorem oNotV_bl {b : Bool} : oNotV (.bl b) st = .ok (.bl !b) st := rfl
@[simp] theorem eIf_e : eIf ga fa fb τ st = (ga τ st).bind fun x s1 => if x then fa τ s1 else fb τ s1 := rfl
@[simp] theorem aNil_e : aNil τ st = .ok [] st := rfl
@[simp] theorem aCons_e : aCons f fs τ st = (f τ st).bind fun x s1 => (fs τ s1).bind fun xs s2 => .ok (x :: xs) s2 := rfl
@[simp] theorem eTup_e : eTup fs τ st = (fs τ st).bind fun xs s1 => if xs.length ≤ 16777216 then .ok (.tup xs) s1 else .bad := rfl
@[simp] theorem eLst_e : eLst fs τ st = (fs τ st).bind fun xs s1 => if xs.length ≤ 16777216 then .ok (.ref s1.length) (s1 ++ [.lst xs]) else .bad := rfl
@[simp] theorem eCall_e {mf : FM} : eCall n mf fs τ st = (fs τ st).bind fun ds s1 => if ds.length = n then mf ds s1 else .bad := rfl
@[simp] theorem eCB_e {mf : FM} : eCB mf fs τ st = (fs τ st).bind mf := rfl
@[simp] theorem eCS_e {g : SM1} : eCS g fs τ st = (fs τ st).bind g := rfl
@[simp] theorem eEl_e : eEl fs τ st = (fs τ st).bind fun ds s1 => .ok (.ref s1.length) (s1 ++ [.lst ds]) := rfl
def oSeq (d : D) (st : Store) : ER (List D) := match dSeq st d with
  | some xs => .ok xs st
  | none => .bad
@[simp] theorem sEx_e : sEx f τ st = (f τ st).bind oSeq := rfl
@[simp] theorem oSeq_tup {xs : List D} : oSeq (.tup xs) st = .ok xs st := rfl
@[simp] theorem oSeq_rol {xs : List D} : oSeq (.rol xs) st = .ok xs st := rfl
@[simp] theorem eChain_e {o o' : O2} : eChain o o' fa fb fc τ st = (fa τ st).bind fun x s1 => (fb τ s1).bind fun y s2 => (o x y s2).bind fun z s3 => match z with
  | .bl true => (fc τ s3).bind fun w s4 => o' y w s4
  | .bl false => .ok (.bl false) s3
  | _ => .bad := rfl
/-! values -/
@[simp] theorem oAdd_int {i j : Int} : oAdd (.int i) (.int j) st = .ok (.int (i + j)) st := rfl
@[simp] theorem oIAdd_int {i j : Int} : oIAdd (.int i) (.int j) st = .ok (.int (i + j)) st := rfl
@[simp] theorem oAdd_str {a b : List Nat} : oAdd (.str a) (.str b) st = if a.length + b.length ≤ 16777216 then .ok (.str (a ++ b)) st else .bad := rfl
@[simp] theorem oAdd_tup {a b : List D} : oAdd (.tup a) (.tup b) st = if a.length + b.length ≤ 16777216 then .ok (.tup (a ++ b)) st else .bad := rfl
@[simp] theorem oInt_e {i j : Int} {k : Int → Int → Int} : oInt k (.int i) (.int j) st = .ok (.int (k i j)) st := rfl
@[simp] theorem oIntC_e {i j : Int} {C : Int → Int → Bool} {k : Int → Int → Int} (hc : C i j = true) : oIntC C k (.int i) (.int j) st = .ok (.int (k i j)) st := by
  show (if C i j = true then _ else _) = _
  rw [if_pos hc]
@[simp] theorem oCmp_e {i j : Int} {k : Int → Int → Bool} : oCmp k (.int i) (.int j) st = .ok (.bl (k i j)) st := rfl
@[simp] theorem oNeg_e {i : Int} : oNeg (.int i) st = .ok (.int (-i)) st := rfl
@[simp] theorem oEq_int {i j : Int} : oEq (.int i) (.int j) st = .ok (.bl (decide (i = j))) st := rfl
@[simp] theorem oNe_int {i j : Int} : oNe (.int i) (.int j) st = .ok (.bl !(decide (i = j))) st := rfl
@[simp] theorem oEq_str {a b : List Nat} : oEq (.str a) (.str b) st = .ok (.bl (decide (a = b))) st := rfl
@[simp] theorem oNe_str {a b : List Nat} : oNe (.str a) (.str b) st = .ok (.bl !(decide (a = b))) st := rfl
@[simp] theorem oEq_bl {a b : Bool} : oEq (.bl a) (.bl b) st = .ok (.bl (decide (a = b))) st := rfl
@[simp] theorem oNe_bl {a b : Bool} : oNe (.bl a) (.bl b) st = .ok (.bl !(decide (a = b))) st := rfl
@[simp] theorem oEq_tup {a b : List D} (ha : (D.tup a).plain 60 = true) (hb : (D.tup b).plain 60 = true) : oEq (.tup a) (.tup b) st = .ok (.bl (decide (a = b))) st := by
  simp [oEq, dEq, D.pd, ha, hb]
@[simp] theorem oNe_tup {a b : List D} (ha : (D.tup a).plain 60 = true) (hb : (D.tup b).plain 60 = true) : oNe (.tup a) (.tup b) st = .ok (.bl !(decide (a = b))) st := by
  simp [oNe, dEq, D.pd, ha, hb]
@[simp] theorem plain_tup {n : Nat} {xs : List D} : (D.tup xs).plain (n + 1) = xs.all (D.plain n) := rfl
@[simp] theorem plain_int {n : Nat} {k : Int} : (D.int k).plain n = true := by cases n <;> rfl
@[simp] theorem plain_non {n : Nat} : D.non.plain n = true := by cases n <;> rfl
@[simp] theorem plain_str {n : Nat} {x : List Nat} : (D.str x).plain n = x.all fun c => decide (c < 1114112) := by cases n <;> rfl
@[simp] theorem oIs_bl {a b : Bool} : oIs (.bl a) (.bl b) st = .ok (.bl (decide (a = b))) st := rfl
@[simp] theorem oIsNot_bl {a b : Bool} : oIsNot (.bl a) (.bl b) st = .ok (.bl !(decide (a = b))) st := rfl
@[simp] theorem oIs_non : oIs .non .non st = .ok (.bl true) st := rfl
@[simp] theorem oIs_int {i : Int} : oIs (.int i) .non st = .ok (.bl false) st := rfl
@[simp] theorem oIs_tup {xs : List D} : oIs (.tup xs) .non st = .ok (.bl false) st := rfl
@[simp] theorem oIsNot_non : oIsNot .non .non st = .ok (.bl false) st := rfl
@[simp] theorem oIsNot_int {i : Int} : oIsNot (.int i) .non st = .ok (.bl true) st := rfl
@[simp] theorem oIsNot_tup {xs : List D} : oIsNot (.tup xs) .non st = .ok (.bl true) st := rfl
def ofO (st : Store) : Option D → ER D
  | some d => .ok d st
  | none => .bad
@[simp] theorem ofO_some : ofO st (some d) = .ok d st := rfl
@[simp] theorem oIx_tup {xs : List D} {k : Int} : oIx (.tup xs) (.int k) st = ofO st (atI xs k) := by
  unfold oIx ofO
  simp only <;> (split <;> simp_all)
theorem oIx_ref {xs : List D} {m : Nat} {k : Int} (hh : lstAt st m = some xs) : oIx (.ref m) (.int k) st = ofO st (atI xs k) := by
  unfold oIx ofO
  simp only [hh] <;> (split <;> simp_all)
@[simp] theorem atI_0 {α : Type} {x : α} {xs : List α} : atI (x :: xs) 0 = some x := by simp [atI, ixN]
@[simp] theorem atI_1 {α : Type} {x y : α} {xs : List α} : atI (x :: y :: xs) 1 = some y := atI_nat (j := 1) rfl
@[simp] theorem atI_2 {α : Type} {x y z : α} {xs : List α} : atI (x :: y :: z :: xs) 2 = some z := atI_nat (j := 2) rfl
@[simp] theorem atI_3 {α : Type} {x y z w : α} {xs : List α} : atI (x :: y :: z :: w :: xs) 3 = some w := atI_nat (j := 3) rfl
/-! built-ins -/
@[simp] theorem fInt_int {i : Int} : fInt [.int i] st = .ok (.int i) st := rfl
@[simp] theorem fInt_bl {b : Bool} : fInt [.bl b] st = .ok (.int (if b then 1 else 0)) st := rfl
@[simp] theorem fAbs_e {i : Int} : fAbs [.int i] st = .ok (.int (i.natAbs : Nat)) st := rfl
@[simp] theorem fGcd_e {i j : Int} : fGcd [.int i, .int j] st = .ok (.int (Nat.gcd i.natAbs j.natAbs : Nat)) st := rfl
@[simp] theorem fLen_tup {xs : List D} : fLen [.tup xs] st = .ok (.int xs.length) st := rfl
@[simp] theorem fLen_rol {xs : List D} : fLen [.rol xs] st = .ok (.int xs.length) st := rfl
theorem fLen_ref {xs : List D} {m : Nat} (hh : lstAt st m = some xs) : fLen [.ref m] st = .ok (.int xs.length) st := by simp [fLen, dSeq, hh]
@[simp] theorem fTuple_tup {xs : List D} : fTuple [.tup xs] st = .ok (.tup xs) st := rfl
theorem fTuple_ref {xs : List D} {m : Nat} (hh : lstAt st m = some xs) : fTuple [.ref m] st = .ok (.tup xs) st := by simp [fTuple, dSeq, hh]
@[simp] theorem gTuple_e {xs : List D} : gTuple xs st = .ok (.tup xs) st := rfl
@[simp] theorem gLen_e {xs : List D} : gLen xs st = .ok (.int xs.length) st := rfl
@[simp] theorem fMin2_e {i j : Int} : fMin2 [.int i, .int j] st = .ok (.int (if j < i then j else i)) st := rfl
@[simp] theorem fMax2_e {i j : Int} : fMax2 [.int i, .int j] st = .ok (.int (if j > i then j else i)) st := rfl
theorem fIsi_e {t c : String} {b : Bool} (h1 : dTy st d = some t) (h2 : isiT t c = some b) : fIsi [d, .ty c] st = .ok (.bl b) st := by simp [fIsi, h1, h2]
theorem isi1 : isiT "int" "int" = some true := by decide +kernel
theorem isi2 : isiT "int" "bool" = some false := by decide +kernel
theorem isi3 : isiT "bool" "int" = some true := by decide +kernel
theorem isi4 : isiT "bool" "bool" = some true := by decide +kernel
theorem isi5 : isiT "tuple" "tuple" = some true := by decide +kernel
theorem isi6 : isiT "tuple" "int" = some false := by decide +kernel
theorem isi7 : isiT "str" "str" = some true := by decide +kernel
theorem isi8 : isiT "str" "int" = some false := by decide +kernel
theorem isi9 : isiT "NoneType" "int" = some false := by decide +kernel
@[simp] theorem fIsi_ii {i : Int} : fIsi [.int i, .ty "int"] st = .ok (.bl true) st := fIsi_e rfl isi1
@[simp] theorem fIsi_ib {i : Int} : fIsi [.int i, .ty "bool"] st = .ok (.bl false) st := fIsi_e rfl isi2
@[simp] theorem fIsi_bi {i : Bool} : fIsi [.bl i, .ty "int"] st = .ok (.bl true) st := fIsi_e rfl isi3
@[simp] theorem fIsi_bb {i : Bool} : fIsi [.bl i, .ty "bool"] st = .ok (.bl true) st := fIsi_e rfl isi4
@[simp] theorem fIsi_tt {xs : List D} : fIsi [.tup xs, .ty "tuple"] st = .ok (.bl true) st := fIsi_e rfl isi5
@[simp] theorem fIsi_ti {xs : List D} : fIsi [.tup xs, .ty "int"] st = .ok (.bl false) st := fIsi_e rfl isi6
@[simp] theorem fIsi_ss {x : List Nat} : fIsi [.str x, .ty "str"] st = .ok (.bl true) st := fIsi_e rfl isi7
@[simp] theorem fIsi_si {x : List Nat} : fIsi [.str x, .ty "int"] st = .ok (.bl false) st := fIsi_e rfl isi8
@[simp] theorem fIsi_ni : fIsi [.non, .ty "int"] st = .ok (.bl false) st := fIsi_e rfl isi9
/-! statements -/
def SR.seq (r : SR) (k : SM) : SR := match r with
  | .nx τ s => k τ s
  | r => r
@[simp] theorem seq_nx {k : SM} : (SR.nx τ st).seq k = k τ st := rfl
@[simp] theorem seq_rt {k : SM} : (SR.rt d st).seq k = .rt d st := rfl
@[simp] theorem seq_bad {k : SM} : SR.bad.seq k = .bad := rfl
@[simp] theorem seq_exc {x : Xc} {k : SM} : (SR.exc x τ st).seq k = .exc x τ st := rfl
@[simp] theorem seq_bk {k : SM} : (SR.bk τ st).seq k = .bk τ st := rfl
@[simp] theorem seq_ct {k : SM} : (SR.ct τ st).seq k = .ct τ st := rfl
@[simp] theorem sSeq_e : sSeq u v τ st = (u τ st).seq v := by
  unfold sSeq SR.seq
  rfl
@[simp] theorem sNil_e : sNil τ st = .nx τ st := rfl
@[simp] theorem sIf_e : sIf ga u v τ st = bindE (ga τ st) τ fun b s1 => if b then u τ s1 else v τ s1 := rfl
@[simp] theorem sSet_e : sSet i fe τ st = bindE (fe τ st) τ fun d s1 => .nx (τ.set i (some d)) s1 := rfl
@[simp] theorem sRet_e : sRet fe τ st = bindE (fe τ st) τ fun d s1 => .rt d s1 := rfl
@[simp] theorem sRetN_e : sRetN τ st = .rt .non st := rfl
@[simp] theorem sExpr_e : sExpr fe τ st = bindE (fe τ st) τ fun _ s1 => .nx τ s1 := rfl
@[simp] theorem sRaise_e {x : Xc} : sRaise x τ st = .exc x τ st := rfl
@[simp] theorem sBrk_e : sBrk τ st = .bk τ st := rfl
@[simp] theorem sCnt_e : sCnt τ st = .ct τ st := rfl
@[simp] theorem bindE_bind {r : ER α} {k : α → Store → ER β} {k' : β → Store → SR} : bindE (r.bind k) τ k' = bindE r τ fun a s => bindE (k a s) τ k' := by cases r <;> rfl
@[simp] theorem bind_bind {γ : Type} {r : ER α} {k : α → Store → ER β} {k' : β → Store → ER γ} : (r.bind k).bind k' = r.bind fun a s => (k a s).bind k' := by cases r <;> rfl
@[simp] theorem bind_ite {c : Prop} [Decidable c] {r r' : ER α} {k : α → Store → ER β} : (if c then r else r').bind k = if c then r.bind k else r'.bind k := by split <;> rfl
@[simp] theorem bindE_ite {c : Prop} [Decidable c] {r r' : ER α} {k : α → Store → SR} : bindE (if c then r else r') τ k = if c then bindE r τ k else bindE r' τ k := by split <;> rfl
def SR.fin : SR → ER D
  | .nx _ s => .ok .non s
  | .rt d s => .ok d s
  | .exc x _ s => .exc x s
  | _ => .bad
@[simp] theorem fin_nx : (SR.nx τ st).fin = .ok .non st := rfl
@[simp] theorem fin_rt : (SR.rt d st).fin = .ok d st := rfl
@[simp] theorem fin_exc {x : Xc} : (SR.exc x τ st).fin = .exc x st := rfl
@[simp] theorem fin_bad : SR.bad.fin = .bad := rfl
theorem runB_e {ds : List D} : runB n u ds st = (u (ent n ds) st).fin := rfl
@[simp] theorem fin_ite {c : Prop} [Decidable c] {r r' : SR} : (if c then r else r').fin = if c then r.fin else r'.fin := by split <;> rfl
@[simp] theorem seq_ite {c : Prop} [Decidable c] {r r' : SR} {k : SM} : (if c then r else r').seq k = if c then r.seq k else r'.seq k := by split <;> rfl
@[simp] theorem ent_0 : ent n [] = List.replicate n none := by simp [ent]
@[simp] theorem ent_cons {x : D} {xs : List D} : ent (n + 1) (x :: xs) = some x :: ent n xs := by
  simp [ent]
end
end HM

/-! HM, part T: lists written to, loops, the draws' store. -/
namespace HM
open PySem PySem.Spec PyProof.Rows L2
section
variable {α β : Type} {τ : Sl} {st : Store} {f g h fa fb fc fe fo fi : EM D} {fs : EM (List D)} {ga gb : EM Bool} {i n m : Nat} {d v : D} {xs ys : List D} {u w : SM}
theorem lstAt_set (hh : lstAt st n = some xs) : lstAt (st.set n (.lst ys)) n = some ys := by
  have : n < st.length := by
    unfold lstAt at hh
    split at hh
    · rename_i e
      exact (List.getElem?_eq_some_iff.mp e).1
    · cases hh
  simp [lstAt, this]
theorem lstAt_ne {c : Cell} (hh : m ≠ n) : lstAt (st.set n c) m = lstAt st m := by
  unfold lstAt
  rw [List.getElem?_set_ne (Ne.symm hh)]
theorem oSet_ref {k : Int} {j : Nat} (hh : lstAt st m = some xs) (hj : ixN xs.length k = some j) : oSet (.ref m) (.int k) v st = some (st.set m (.lst (xs.set j v))) := by
  simp [oSet, hh, hj]
theorem oGetL_ref {k : Int} (hh : lstAt st m = some xs) : oGetL (.ref m) (.int k) st = ofO st (atI xs k) := by
  unfold oGetL ofO
  simp only [hh] <;> (split <;> simp_all)
def ofS (τ : Sl) : Option Store → SR
  | some s => .nx τ s
  | none => .bad
@[simp] theorem ofS_some : ofS τ (some st) = .nx τ st := rfl
@[simp] theorem sSub_e : sSub fo fi fe τ st = bindE (fe τ st) τ fun v s1 => bindE (fo τ s1) τ fun o s2 => bindE (fi τ s2) τ fun i s3 => ofS τ (oSet o i v s3) := by
  unfold sSub ofS
  rfl
@[simp] theorem sAugS_e {o : O2} : sAugS o fo fi fe τ st = bindE (fo τ st) τ fun x s1 => bindE (fi τ s1) τ fun i s2 => bindE (oGetL x i s2) τ fun y s3 => bindE (fe τ s3) τ fun z s4 => bindE (o y z s4) τ fun v s5 => ofS τ (oSet x i v s5) := by
  unfold sAugS ofS
  rfl
theorem sAug_e {o : O2} (hh : τ[i]? = some (some d)) : sAug i o fe τ st = bindE (fe τ st) τ fun y s1 => bindE (o d y s1) τ fun z s2 => .nx (τ.set i (some z)) s2 := by
  unfold sAug
  rw [hh]
def ofA (set : D → Sl → Option Sl) (τ : Sl) (d : D) (st : Store) : SR := match set d τ with
  | some τ1 => .nx τ1 st
  | none => .bad
@[simp] theorem sAsg_e {set : D → Sl → Option Sl} : sAsg set fe τ st = bindE (fe τ st) τ (ofA set τ) := rfl
@[simp] theorem okMul_l {i j : Int} (hh : i.natAbs < 18446744073709551616) : okMul i j = true := decide_eq_true (.inl (.inl hh))
@[simp] theorem okMul_r {i j : Int} (hh : j.natAbs < 18446744073709551616) : okMul i j = true := decide_eq_true (.inl (.inr hh))
theorem okMod_of {i j : Int} (hh : j ≠ 0) : okMod i j = true := decide_eq_true hh
theorem okDiv_of {i j : Int} (hh : j ≠ 0) (h2 : j.natAbs.log2 < 9000) : okDiv i j = true := decide_eq_true ⟨hh, h2⟩
theorem log2_le {x k : Nat} (h : x < 2 ^ k) : x.log2 ≤ k := by
  by_cases z : x = 0
  · subst z
    exact Nat.zero_le _
  · exact Nat.le_of_lt ((Nat.log2_lt z).mpr h)
/-! for loops -/
theorem sFor_e {fi : EM Sq} {set : D → Sl → Option Sl} : sFor fi set u τ st = bindE (fi τ st) τ fun q s1 => forL q set u q.items τ s1 := rfl
def ofQ (st : Store) : Option Sq → ER Sq
  | some q => .ok q st
  | none => .bad
@[simp] theorem ofQ_some {q : Sq} : ofQ st (some q) = .ok q st := rfl
@[simp] theorem iEx_e : iEx f τ st = (f τ st).bind fun d s1 => ofQ s1 (dSq s1 d) := by
  unfold iEx ofQ
  rfl
@[simp] theorem dSq_tup : dSq st (.tup xs) = some (.fix xs) := rfl
@[simp] theorem dSq_rol : dSq st (.rol xs) = some (.fix xs) := rfl
theorem dSq_ref (hh : lstAt st n = some xs) : dSq st (.ref n) = some (.cell n xs) := by simp [dSq, hh]
@[simp] theorem items_fix : (Sq.fix xs).items = xs := rfl
@[simp] theorem items_cell : (Sq.cell n xs).items = xs := rfl
@[simp] theorem iEl_e : iEl fs τ st = (fs τ st).bind fun xs s1 => .ok (.fix xs) s1 := rfl
def rg1 (d : D) (st : Store) : ER Sq := match d with
  | .int j => if okRng j then .ok (.fix (rng 0 j)) st else .bad
  | _ => .bad
def rg2 (d e : D) (st : Store) : ER Sq := match d, e with
  | .int i, .int j => if okRng i && okRng j then .ok (.fix (rng i j)) st else .bad
  | _, _ => .bad
@[simp] theorem iRg1_e : iRg1 f τ st = (f τ st).bind rg1 := rfl
@[simp] theorem iRg2_e : iRg2 fa fb τ st = (fa τ st).bind fun d s1 => (fb τ s1).bind fun e s2 => rg2 d e s2 := rfl
theorem okRng_of {j : Int} (hh : j.natAbs < 4611686018427387904) : okRng j = true := decide_eq_true hh
theorem rg1_int {j : Int} (hh : j.natAbs < 4611686018427387904) : rg1 (.int j) st = .ok (.fix (rng 0 j)) st := by simp [rg1, okRng_of hh]
theorem rg2_int {i j : Int} (hi : i.natAbs < 4611686018427387904) (hh : j.natAbs < 4611686018427387904) : rg2 (.int i) (.int j) st = .ok (.fix (rng i j)) st := by simp [rg2, okRng_of hh, okRng_of hi]
/-- a loop, by an invariant -/
theorem for_inv {set : D → Sl → Option Sl} {q : Sq} (P : Nat → Sl → Store → Prop) (hc : ∀ k τ st, P k τ st → q.chk st = true) :
    ∀ (xs : List D) (k : Nat) (τ : Sl) (st : Store), P k τ st →
    (∀ i d τ st, xs[i]? = some d → P (k + i) τ st → ∃ τ1, set d τ = some τ1 ∧ ∃ τ2 s2, (u τ1 st = .nx τ2 s2 ∨ u τ1 st = .ct τ2 s2) ∧ P (k + i + 1) τ2 s2) →
    ∃ τ' st', forL q set u xs τ st = .nx τ' st' ∧ P (k + xs.length) τ' st'
  | [], k, τ, st, h0, _ => ⟨τ, st, by
      unfold forL
      rw [if_pos (hc _ _ _ h0)], h0⟩
  | d :: ds, k, τ, st, h0, hs => by
    obtain ⟨τ1, e1, τ2, s2, e2, h2⟩ := hs 0 d τ st rfl h0
    obtain ⟨τ', st', e3, h3⟩ := for_inv (q := q) P hc ds (k + 1) τ2 s2 h2 fun i d τ st hi hp => by
      have := hs (i + 1) d τ st hi (by rwa [show k + (i + 1) = k + 1 + i by omega])
      rwa [show k + (i + 1) + 1 = k + 1 + i + 1 by omega] at this
    refine ⟨τ', st', ?_, ?_⟩
    · unfold forL
      rw [if_pos (hc _ _ _ h0), e1]
      rcases e2 with e2 | e2 <;> simp only [e2, e3]
    · rw [List.length_cons]
      rwa [show k + (ds.length + 1) = k + 1 + ds.length by omega]
/-! comprehensions -/
def lc1 (own : List Nat) (set : D → Sl → Option Sl) (ft : EM Bool) (fe : EM D) (τ : Sl) (q : Sq) (st : Store) : ER (List D) := if q.items.length ≤ 16777216 then compL q set ft fe (wipeD τ own) q.items [] st else .bad
theorem lComp_e {own : List Nat} {fi : EM Sq} {set : D → Sl → Option Sl} {ft : EM Bool} : lComp own fi set ft fe τ st = (fi τ st).bind (lc1 own set ft fe τ) := rfl
/-- a comprehension without tests -/
theorem comp_inv {set : D → Sl → Option Sl} {q : Sq} (P : List D → Store → Prop) (hc : ∀ acc st, P acc st → q.chk st = true) :
    ∀ (xs acc : List D) (st : Store), P acc st →
    (∀ i d acc' st, xs[i]? = some d → acc'.length = acc.length + i → P acc' st → ∃ τ1, set d τ = some τ1 ∧ ∃ x s2, fe τ1 st = .ok x s2 ∧ P (acc' ++ [x]) s2) →
    ∃ ys st', compL q set tYes fe τ xs acc st = .ok ys st' ∧ P ys st' ∧ ys.length = acc.length + xs.length
  | [], acc, st, h0, _ => ⟨acc, st, by
      unfold compL
      rw [if_pos (hc _ _ h0)], h0, rfl⟩
  | d :: ds, acc, st, h0, hs => by
    obtain ⟨τ1, e1, x, s2, e2, h2⟩ := hs 0 d acc st rfl rfl h0
    obtain ⟨ys, st', e3, h3, h4⟩ := comp_inv (q := q) P hc ds (acc ++ [x]) s2 h2 fun i d acc' st hi ha hp => hs (i + 1) d acc' st hi (by simp at ha; omega) hp
    refine ⟨ys, st', ?_, h3, by simp at h4; simp; omega⟩
    unfold compL
    rw [if_pos (hc _ _ h0), e1]
    simp only [tYes, ER.bindN_ok, if_true, e2]
    exact e3
end
/-! the draws' store: cell 0 holds the script's numbers, cell 1 the place -/
structure DS (ns : List Int) (st : Store) : Prop where
  c0 : lstAt st 0 = some (ns.map D.int)
  c1 : ∃ p h q : Int, 0 ≤ p ∧ lstAt st 1 = some [.ref 0, .int p, .int h, .int q]
/-- what a draw may change -/
structure Fr (a b : Store) : Prop where
  len : a.length ≤ b.length
  at' : ∀ n, n ≠ 1 → n < a.length → b[n]? = a[n]?
theorem Fr.refl {a : Store} : Fr a a := ⟨Nat.le_refl _, fun _ _ _ => rfl⟩
theorem Fr.trans {a b c : Store} (x : Fr a b) (y : Fr b c) : Fr a c := ⟨Nat.le_trans x.len y.len, fun n h1 h2 => (y.at' n h1 (Nat.lt_of_lt_of_le h2 x.len)).trans (x.at' n h1 h2)⟩
theorem Fr.lst {a b : Store} {n : Nat} {xs : List D} (x : Fr a b) (h : lstAt a n = some xs) (hn : n ≠ 1) : lstAt b n = some xs := by
  have := x.at' n hn (lstAt_lt h)
  unfold lstAt at h ⊢
  rwa [this]
theorem Fr.app {a : Store} {c : Cell} : Fr a (a ++ [c]) := ⟨by simp, fun n _ h => by rw [List.getElem?_append_left h]⟩
theorem DS.app {ns : List Int} {st : Store} {c : Cell} (h : DS ns st) : DS ns (st ++ [c]) := by
  obtain ⟨c0, p, hh, q, hp, c1⟩ := h
  exact ⟨by rw [lstAt_left (lstAt_lt c0)]; exact c0, p, hh, q, hp, by rw [lstAt_left (lstAt_lt c1)]; exact c1⟩
end HM

/-! HM, part U: how the mirrors of parts 10 to 12 are computed. -/
namespace HM
open PySem PySem.Spec PyProof.Rows L2
section
variable {τ : Sl} {st : Store} {f g fo fi : EM D} {fs : EM (List D)} {fl fh : EM (Option Int)} {i n m : Nat} {d v x : D} {xs ys : List D}
@[simp] theorem eM_e {T : String} {g : MM} : eM T g fo fs τ st = (fo τ st).bind fun d s1 => if okT T s1 d then (fs τ s1).bind fun ds s2 => g d ds s2 else .bad := rfl
theorem okT_ref (hh : lstAt st n = some xs) : okT "list" st (.ref n) = true := by simp [okT, hh]
@[simp] theorem okT_str {z : List Nat} : okT "str" st (.str z) = true := rfl
theorem mAppend_ref (hh : lstAt st n = some xs) (hl : xs.length < 16777216) : mAppend (.ref n) [x] st = .ok .non (st.set n (.lst (xs ++ [x]))) := by simp [mAppend, hh, hl]
theorem mInsert_ref {k : Nat} (hh : lstAt st n = some xs) (hl : xs.length < 16777216) (hk : k < 9223372036854775808) : mInsert (.ref n) [.int k, x] st = .ok .non (st.set n (.lst (xs.take k ++ [x] ++ xs.drop k))) := by
  have h2 : okIx (k : Int) = true := decide_eq_true (by omega)
  simp [mInsert, hh, hl, h2]
theorem mExtend_ref (hh : lstAt st n = some xs) (h2 : lstAt st m = some ys) (hl : xs.length + ys.length ≤ 16777216) : mExtend (.ref n) [.ref m] st = .ok .non (st.set n (.lst (xs ++ ys))) := by simp [mExtend, hh, h2, hl]
theorem mPop_ref (hh : lstAt st n = some (xs ++ [x])) : mPop (.ref n) [] st = .ok x (st.set n (.lst xs)) := by simp [mPop, hh]
theorem mJoin_tup {a : List Nat} {ys : List (List Nat)} (hl : (ys.map List.length).sum + ys.length * a.length ≤ 16777216) : mJoin (.str a) [.tup (ys.map D.str)] st = .ok (.str (joinD a ys)) st := by
  simp [mJoin, dSeq, strsD_map, hl]
theorem mJoin_ref {a : List Nat} {ys : List (List Nat)} (hh : lstAt st n = some (ys.map D.str)) (hl : (ys.map List.length).sum + ys.length * a.length ≤ 16777216) : mJoin (.str a) [.ref n] st = .ok (.str (joinD a ys)) st := by
  simp [mJoin, dSeq, hh, strsD_map, hl]
def ofB (st : Store) : Option Bool → ER D
  | some b => .ok (.bl b) st
  | none => .bad
@[simp] theorem ofB_some {b : Bool} : ofB st (some b) = .ok (.bl b) st := rfl
@[simp] theorem oIn_e : oIn x v st = ofB st (dIn x v st) := by
  unfold oIn ofB
  rfl
@[simp] theorem oNotIn_e : oNotIn x v st = ofB st ((dIn x v st).map fun b => !b) := by
  unfold oNotIn ofB
  cases dIn x v st <;> rfl
@[simp] theorem dIn_sign {c : Nat} {z : List Nat} : dIn (.str [c]) (.str z) st = some (decide (c ∈ z)) := rfl
theorem dIn_flat (hy : dSeq st v = some ys) (h1 : x.flat = true) (h2 : ys.all D.flat = true) : dIn x v st = some (ys.any fun y => eqF y x) := by
  unfold dIn
  split
  · rename_i c z
    cases hy
  · simp [hy, h1, h2]
@[simp] theorem dSeq_tup : dSeq st (.tup xs) = some xs := rfl
@[simp] theorem dSeq_rol : dSeq st (.rol xs) = some xs := rfl
theorem dSeq_ref (hh : lstAt st n = some xs) : dSeq st (.ref n) = some xs := hh
@[simp] theorem flat_int {k : Int} : (D.int k).flat = true := rfl
@[simp] theorem flat_str {k : List Nat} : (D.str k).flat = true := rfl
@[simp] theorem flat_bl {k : Bool} : (D.bl k).flat = true := rfl
@[simp] theorem flat_non : D.non.flat = true := rfl
@[simp] theorem eqF_int {a b : Int} : eqF (.int a) (.int b) = decide (a = b) := rfl
@[simp] theorem eqF_str {a b : List Nat} : eqF (.str a) (.str b) = decide (a = b) := rfl
@[simp] theorem dIn_tup {k : Int} : dIn (.int k) (.tup ys) st = if ys.all D.flat then some (ys.any fun y => eqF y (.int k)) else if ys.all (D.plain 59) then some (decide (D.int k ∈ ys)) else none := by
  simp [dIn, dSeq] <;> rfl
@[simp] theorem eSl_e : eSl f fl fh τ st = (f τ st).bind fun d s1 => (fl τ s1).bind fun l s2 => (fh τ s2).bind fun h s3 => dCut d l h s3 := rfl
@[simp] theorem oNone_e : oNone τ st = .ok none st := rfl
def ofI (d : D) (st : Store) : ER (Option Int) := match d with
  | .int i => .ok (some i) st
  | _ => .bad
@[simp] theorem ofI_int {k : Int} : ofI (.int k) st = .ok (some k) st := rfl
@[simp] theorem oSome_e : oSome f τ st = (f τ st).bind ofI := rfl
theorem sIx_n {n d k : Nat} : HT.sIx n d (some (k : Int)) = min k n := HT.sIx_nat n d k
@[simp] theorem sIx_0 {n d : Nat} : HT.sIx n d none = d := rfl
theorem dCut_str {z : List Nat} {lo hi : Option Int} (hz : z.length ≤ 16777216) : dCut (.str z) lo hi st = .ok (.str (cutD z lo hi)) st := by simp [dCut, hz]
theorem dCut_ref {lo hi : Option Int} (hh : lstAt st n = some xs) : dCut (.ref n) lo hi st = .ok (.ref st.length) (st ++ [.lst (cutD xs lo hi)]) := by simp [dCut, hh]
theorem cutD_nn {α : Type} {zs : List α} {a b : Nat} : cutD zs (some (a : Int)) (some (b : Int)) = (zs.drop (min a zs.length)).take (min b zs.length - min a zs.length) := by
  unfold cutD
  rw [sIx_n, sIx_n]
theorem cutD_to {α : Type} {zs : List α} {b : Nat} : cutD zs none (some (b : Int)) = zs.take b := by
  unfold cutD
  rw [sIx_n, sIx_0, List.drop_zero, Nat.sub_zero]
  exact PySem.W.kmk_take_min ..
theorem cutD_from {α : Type} {zs : List α} {a : Nat} : cutD zs (some (a : Int)) none = zs.drop a := by
  unfold cutD
  rw [sIx_n, sIx_0]
  rw [show zs.drop (min a zs.length) = zs.drop a from PySem.W.kmk_drop_min ..]
  refine List.take_of_length_le ?_
  rw [List.length_drop]
  omega
theorem gSum_ints {ns : List Int} : gSum (ns.map D.int) st = .ok (.int ns.sum) st := by simp [gSum, intsD_map]
theorem gAllB_bls {bs : List Bool} : gAllB (bs.map D.bl) st = .ok (.bl (bs.all id)) st := by simp [gAllB, blsD_map]
theorem gAnyB_bls {bs : List Bool} : gAnyB (bs.map D.bl) st = .ok (.bl (bs.any id)) st := by simp [gAnyB, blsD_map]
@[simp] theorem oMul_int {a b : Int} (hc : okMul a b = true) : oMul (.int a) (.int b) st = .ok (.int (a * b)) st := by simp [oMul, hc]
theorem oMul_str {z : List Nat} {k : Int} (h2 : 2 ≤ k) (hz : k ≤ 16777216) (hl : z.length * k.toNat ≤ 16777216) : oMul (.str z) (.int k) st = .ok (.str (repD k.toNat z)) st := by
  simp [oMul, h2, hz, hl]
theorem fLcm_e {a b : Int} (ha : a.natAbs < 18446744073709551616) (hb : b.natAbs < 18446744073709551616) : fLcm [.int a, .int b] st = .ok (.int (Nat.lcm a.natAbs b.natAbs : Nat)) st := by simp [fLcm, ha, hb]
theorem fList_tup : fList [.tup xs] st = .ok (.ref st.length) (st ++ [.lst xs]) := rfl
theorem fList_ref (hh : lstAt st n = some xs) : fList [.ref n] st = .ok (.ref st.length) (st ++ [.lst xs]) := by simp [fList, dSeq, hh]
theorem sExL_e : sExL f τ st = (f τ st).bind fun d s1 => match dSeqL s1 d with
  | some xs => .ok xs s1
  | none => .bad := rfl
theorem oAdd_ref (hh : lstAt st n = some xs) (h2 : lstAt st m = some ys) (hl : xs.length + ys.length ≤ 16777216) : oAdd (.ref n) (.ref m) st = .ok (.ref st.length) (st ++ [.lst (xs ++ ys)]) := by simp [oAdd, hh, h2, hl]
theorem oIx_str {z : List Nat} {k : Nat} {c : Nat} (hz : z.length ≤ 16777216) (hk : z[k]? = some c) : oIx (.str z) (.int k) st = .ok (.str [c]) st := by
  have := atI_nat (xs := z) (j := k) (v := c) hk
  simp [oIx, hz, this]
theorem fLen_str {z : List Nat} (hz : z.length ≤ 16777216) : fLen [.str z] st = .ok (.int z.length) st := by simp [fLen, hz]
end
/-- a while loop, by an invariant with a measure -/
theorem while_inv {g : EM Bool} {u : SM} (P : Nat → Sl → Store → Prop) (Done : Sl → Store → Prop)
    (hs : ∀ n τ st, P n τ st → (∃ s1, g τ st = .ok false s1 ∧ Done τ s1) ∨ (∃ s1, g τ st = .ok true s1 ∧ ∃ τ2 s2, (u τ s1 = .nx τ2 s2 ∨ u τ s1 = .ct τ2 s2) ∧ ∃ m, m < n ∧ P m τ2 s2)) :
    ∀ (k n : Nat) (τ : Sl) (st : Store), n < k → P n τ st → ∃ τ' st', whileN g u k τ st = .nx τ' st' ∧ Done τ' st'
  | 0, _, _, _, h, _ => absurd h (Nat.not_lt_zero _)
  | k + 1, n, τ, st, h, hp => by
    unfold whileN
    rcases hs n τ st hp with ⟨s1, e, hd⟩ | ⟨s1, e, τ2, s2, e2, m, hm, hp2⟩
    · rw [e, bindE_ok, if_neg Bool.false_ne_true]
      exact ⟨τ, s1, rfl, hd⟩
    · rw [e, bindE_ok, if_pos rfl]
      obtain ⟨τ', st', e3, hd⟩ := while_inv P Done hs k m τ2 s2 (by omega) hp2
      refine ⟨τ', st', ?_, hd⟩
      rcases e2 with e2 | e2 <;> simp only [e2] <;> exact e3
/-- a comprehension that reads alone -/
theorem comp_map {α : Type} {q : Sq} {set : D → Sl → Option Sl} {fe : EM D} {τ : Sl} {st : Store} (hq : q.chk st = true) (g h : α → D) : ∀ (xs : List α) (acc : List D), (∀ a ∈ xs, ∃ τ1, set (g a) τ = some τ1 ∧ fe τ1 st = .ok (h a) st) → compL q set tYes fe τ (xs.map g) acc st = .ok (acc ++ xs.map h) st
  | [], acc, _ => by
    rw [List.map_nil, List.map_nil, List.append_nil]
    unfold compL
    rw [if_pos hq]
  | a :: xs, acc, hs => by
    obtain ⟨τ1, e1, e2⟩ := hs a (List.mem_cons_self ..)
    rw [List.map_cons]
    unfold compL
    rw [if_pos hq, e1]
    simp only [tYes, ER.bindN_ok, if_true, e2]
    rw [comp_map hq g h xs (acc ++ [h a]) fun b hb => hs b (List.mem_cons_of_mem _ hb), List.map_cons, List.append_assoc]
    rfl
/-- a loop that folds -/
theorem for_fold {α β : Type} {q : Sq} {set : D → Sl → Option Sl} {u : SM} {st : Store} (hq : q.chk st = true) (g : α → D) (F : β → α → β) (E : β → Option D → Sl) (I : β → Prop) : ∀ (xs : List α) (b : β) (t : Option D), I b →
    (∀ b t a, a ∈ xs → I b → I (F b a) ∧ ∃ τ1, set (g a) (E b t) = some τ1 ∧ u τ1 st = .nx (E (F b a) (some (g a))) st) → (∃ t', forL q set u (xs.map g) (E b t) st = .nx (E (xs.foldl F b) t') st) ∧ I (xs.foldl F b)
  | [], b, t, hI, _ => ⟨⟨t, by rw [List.map_nil, forL, if_pos hq]; rfl⟩, hI⟩
  | a :: xs, b, t, hI, hs => by
    obtain ⟨h1, τ1, e1, e2⟩ := hs b t a (List.mem_cons_self ..) hI
    obtain ⟨⟨t', e3⟩, h3⟩ := for_fold hq g F E I xs (F b a) (some (g a)) h1 fun b t a ha => hs b t a (List.mem_cons_of_mem _ ha)
    refine ⟨⟨t', ?_⟩, h3⟩
    rw [List.map_cons, forL, if_pos hq, e1]
    simp only [e2]
    exact e3
end HM

/-! HM, part V: growth of stores, comprehensions with tests, keyword calls. -/
namespace HM
open PySem PySem.Spec PyProof.Rows L2
section
variable {τ : Sl} {st : Store} {fs fk : EM (List D)} {n k np : Nat} {is : List Nat} {mf : FM}
@[simp] theorem eCallK_e : eCallK n k np is mf fs fk τ st = (fs τ st).bind fun ds s1 => (fk τ s1).bind fun es s2 => if ds.length = n ∧ es.length = k ∧ (arr is (ds ++ es)).length = np then mf (arr is (ds ++ es)) s2 else .bad := rfl
end
/-- cells are added alone -/
structure Gr (a b : Store) : Prop where
  ex : ∃ l, b = a ++ l
theorem Gr.refl {a : Store} : Gr a a := ⟨[], by simp⟩
theorem Gr.app {a : Store} {c : Cell} : Gr a (a ++ [c]) := ⟨[c], rfl⟩
theorem Gr.trans {a b c : Store} (x : Gr a b) (y : Gr b c) : Gr a c := by
  obtain ⟨l, rfl⟩ := x.ex
  obtain ⟨m, rfl⟩ := y.ex
  exact ⟨l ++ m, by simp⟩
theorem Gr.lst {a b : Store} {n : Nat} {xs : List D} (x : Gr a b) (h : lstAt a n = some xs) : lstAt b n = some xs := by
  obtain ⟨l, rfl⟩ := x.ex
  rw [lstAt_left (lstAt_lt h)]
  exact h
theorem Gr.fr {a b : Store} (x : Gr a b) : Fr a b := by
  obtain ⟨l, rfl⟩ := x.ex
  exact ⟨by simp, fun n _ h => by rw [List.getElem?_append_left h]⟩
theorem Gr.ds {a b : Store} {ns : List Int} (x : Gr a b) (H : DS ns a) : DS ns b := by
  obtain ⟨c0, p, h, q, hp, c1⟩ := H
  exact ⟨x.lst c0, p, h, q, hp, x.lst c1⟩
/-- the last cell is written -/
theorem Gr.put {a b : Store} {m : Nat} {c : Cell} (x : Gr a b) (h : a.length ≤ m) : Gr a (b.set m c) := by
  obtain ⟨l, rfl⟩ := x.ex
  exact ⟨l.set (m - a.length) c, List.set_append_right m c h⟩
theorem Gr.len {a b : Store} (x : Gr a b) : a.length ≤ b.length := by
  obtain ⟨l, rfl⟩ := x.ex
  simp
theorem DS.put2 {ns : List Int} {s : Store} {m : Nat} {c : Cell} (H : DS ns s) (h0 : m ≠ 0) (h1 : m ≠ 1) : DS ns (s.set m c) := by
  obtain ⟨c0, p, h, q, hp, c1⟩ := H
  exact ⟨by rw [lstAt_ne (Ne.symm h0)]; exact c0, p, h, q, hp, by rw [lstAt_ne (Ne.symm h1)]; exact c1⟩
theorem Fr.put2 {st s : Store} {m : Nat} {c : Cell} (F : Fr st s) (h : st.length ≤ m) : Fr st (s.set m c) :=
  ⟨by rw [List.length_set]; exact F.len, fun n h1 h2 => by rw [List.getElem?_set_ne (by omega)]; exact F.at' n h1 h2⟩
theorem DS.len {ns : List Int} {s : Store} (H : DS ns s) : 2 ≤ s.length := by
  obtain ⟨p, h, q, _, c1⟩ := H.c1
  exact lstAt_lt c1
theorem rng_eq (n : Nat) : rng 0 n = (List.range n).map fun k => D.int (k : Nat) := by
  unfold rng
  simp
theorem rng_mem {n : Nat} {i : Nat} {d : D} (h : (rng 0 n)[i]? = some d) : ∃ k : Nat, k < n ∧ d = .int k := by
  rw [rng_eq, List.getElem?_map] at h
  cases hx : (List.range n)[i]? with
  | none => rw [hx] at h; cases h
  | some a =>
    have := List.mem_range.mp (List.mem_of_getElem? hx)
    rw [hx] at h
    exact ⟨a, this, (Option.some.inj h).symm⟩
@[simp] theorem iZip_e {fa fb : EM D} {τ : Sl} {st : Store} : iZip fa fb τ st = (fa τ st).bind fun d s1 => (fb τ s1).bind fun e s2 => zip2 d e s2 := rfl
@[simp] theorem zip2_tup {xs ys : List D} {st : Store} : zip2 (.tup xs) (.tup ys) st = .ok (.fix (zipD xs ys)) st := rfl
def okRg (k : Int → Int → Store → ER D) (d : D) (st : Store) : ER D := match d with
  | .int j => k 0 j st
  | _ => .bad
@[simp] theorem eRg1_e {k : Int → Int → Store → ER D} {fa : EM D} {τ : Sl} {st : Store} : eRg1 k fa τ st = (fa τ st).bind (okRg k) := rfl
@[simp] theorem okRg_int {k : Int → Int → Store → ER D} {j : Int} {st : Store} : okRg k (.int j) st = k 0 j st := rfl
theorem rng_len {n : Nat} : (rng 0 (n : Nat)).length = n := by
  unfold rng
  simp
theorem lstAt_new {a : Store} {xs : List D} : lstAt (a ++ [.lst xs]) a.length = some xs := by simp [lstAt]
/-- a comprehension with a test -/
theorem comp_gen {q : Sq} {set : D → Sl → Option Sl} {ft : EM Bool} {fe : EM D} {τ : Sl} (P : Nat → List D → Store → Prop) (hc : ∀ k acc st, P k acc st → q.chk st = true) :
    ∀ (xs : List D) (k : Nat) (acc : List D) (st : Store), P k acc st →
    (∀ (i : Nat) (d : D) (acc' : List D) (st : Store), xs[i]? = some d → P (k + i) acc' st → ∃ τ1, set d τ = some τ1 ∧ ∃ b s1, ft τ1 st = .ok b s1 ∧ (b = false → P (k + i + 1) acc' s1) ∧ (b = true → ∃ x s2, fe τ1 s1 = .ok x s2 ∧ P (k + i + 1) (acc' ++ [x]) s2)) →
    ∃ ys st', compL q set ft fe τ xs acc st = .ok ys st' ∧ P (k + xs.length) ys st'
  | [], k, acc, st, h0, _ => ⟨acc, st, by
      unfold compL
      rw [if_pos (hc _ _ _ h0)], h0⟩
  | d :: ds, k, acc, st, h0, hs => by
    obtain ⟨τ1, e1, b, s1, e2, h2, h3⟩ := hs 0 d acc st rfl h0
    have next : ∀ acc s, P (k + 1) acc s → ∃ ys st', compL q set ft fe τ ds acc s = .ok ys st' ∧ P (k + (d :: ds).length) ys st' := fun acc s h => by
      rw [List.length_cons, show k + (ds.length + 1) = k + 1 + ds.length by omega]
      refine comp_gen P hc ds (k + 1) acc s h fun i d acc' st hi hp => ?_
      rw [show k + 1 + i = k + (i + 1) by omega] at hp ⊢
      exact hs (i + 1) d acc' st hi hp
    unfold compL
    rw [if_pos (hc _ _ _ h0), e1]
    simp only [e2, ER.bindN_ok]
    cases b with
    | false => exact next _ _ (h2 rfl)
    | true =>
      obtain ⟨x, s2, e3, h4⟩ := h3 rfl
      simp only [if_true, e3, ER.bindN_ok]
      exact next _ _ h4
/-- a comprehension with a test that reads alone -/
theorem comp_fil {α : Type} {q : Sq} {set : D → Sl → Option Sl} {ft : EM Bool} {fe : EM D} {τ : Sl} {st : Store} (hq : q.chk st = true) (g h : α → D) (p : α → Bool) : ∀ (xs : List α) (acc : List D), (∀ a ∈ xs, ∃ τ1, set (g a) τ = some τ1 ∧ ft τ1 st = .ok (p a) st ∧ (p a = true → fe τ1 st = .ok (h a) st)) → compL q set ft fe τ (xs.map g) acc st = .ok (acc ++ (xs.filter p).map h) st
  | [], acc, _ => by
    rw [List.map_nil, List.filter_nil, List.map_nil, List.append_nil]
    unfold compL
    rw [if_pos hq]
  | a :: xs, acc, hs => by
    obtain ⟨τ1, e1, e2, e3⟩ := hs a (List.mem_cons_self ..)
    have ih := fun acc => comp_fil hq g h p xs acc fun b hb => hs b (List.mem_cons_of_mem _ hb)
    rw [List.map_cons, List.filter_cons]
    unfold compL
    rw [if_pos hq, e1]
    simp only [e2, ER.bindN_ok]
    cases hp : p a with
    | false => simp only [Bool.false_eq_true, if_false]; exact ih acc
    | true =>
      simp only [if_true, e3 hp, ER.bindN_ok]
      rw [ih, List.map_cons, List.append_assoc]
      rfl
theorem forL_nil {set : D → Sl → Option Sl} {u : SM} {q : Sq} {τ : Sl} {st : Store} (hq : q.chk st = true) : forL q set u [] τ st = .nx τ st := by
  rw [forL, if_pos hq]
theorem forL_nx {set : D → Sl → Option Sl} {u : SM} {q : Sq} {τ τ1 τ2 : Sl} {st s2 : Store} {d : D} {ds : List D} (hq : q.chk st = true) (h1 : set d τ = some τ1) (h2 : u τ1 st = .nx τ2 s2) : forL q set u (d :: ds) τ st = forL q set u ds τ2 s2 := by
  rw [forL, if_pos hq, h1]
  simp only [h2]
theorem forL_ct {set : D → Sl → Option Sl} {u : SM} {q : Sq} {τ τ1 τ2 : Sl} {st s2 : Store} {d : D} {ds : List D} (hq : q.chk st = true) (h1 : set d τ = some τ1) (h2 : u τ1 st = .ct τ2 s2) : forL q set u (d :: ds) τ st = forL q set u ds τ2 s2 := by
  rw [forL, if_pos hq, h1]
  simp only [h2]
theorem forL_rt {set : D → Sl → Option Sl} {u : SM} {q : Sq} {τ τ1 : Sl} {st s2 : Store} {d x : D} {ds : List D} (hq : q.chk st = true) (h1 : set d τ = some τ1) (h2 : u τ1 st = .rt x s2) : forL q set u (d :: ds) τ st = .rt x s2 := by
  rw [forL, if_pos hq, h1]
  simp only [h2]
theorem forL_bk {set : D → Sl → Option Sl} {u : SM} {q : Sq} {τ τ1 τ2 : Sl} {st s2 : Store} {d : D} {ds : List D} (hq : q.chk st = true) (h1 : set d τ = some τ1) (h2 : u τ1 st = .bk τ2 s2) : forL q set u (d :: ds) τ st = .nx τ2 s2 := by
  rw [forL, if_pos hq, h1]
  simp only [h2]
theorem map_mem {α : Type} {f : α → D} {xs : List α} {i : Nat} {d : D} (h : (xs.map f)[i]? = some d) : ∃ a ∈ xs, d = f a := by
  rw [List.getElem?_map] at h
  cases hx : xs[i]? with
  | none => simp [hx] at h
  | some a => exact ⟨a, List.mem_of_getElem? hx, by simpa [hx] using h.symm⟩
theorem any_eqF {cs : List Int} {k : Int} : ((cs.map D.int).any fun y => eqF y (.int k)) = decide (k ∈ cs) := by
  induction cs with
  | nil => rfl
  | cons c cs ih =>
    rw [List.map_cons, List.any_cons, ih]
    by_cases h : k = c <;> simp [h, eq_comm]
theorem dIn_ints {cs : List Int} {k : Int} {st : Store} : dIn (.int k) (.tup (cs.map D.int)) st = some (decide (k ∈ cs)) := by
  rw [dIn_tup, if_pos, any_eqF]
  rw [List.all_eq_true]
  intro x hx
  obtain ⟨c, _, rfl⟩ := List.mem_map.mp hx
  rfl
end HM

namespace K25
open PySem PySem.Spec PyProof.Rows L2 HM
def top (i : Nat) : Stmt := PySem.Challenge.pw_closedratios_k25_spins_and_choices.main.body.getD i (.Pass ⟨0, 0, 0, 0⟩)
abbrev s_ratio : Stmt := top 3
abbrev s_minus : Stmt := top 4
abbrev s_over : Stmt := top 5
abbrev s_is_below : Stmt := top 6
abbrev s_chances : Stmt := top 8
abbrev s_reduced : Stmt := top 9
abbrev s_lowest : Stmt := top 10
abbrev s_powers : Stmt := top 12
abbrev s_scaled_powers : Stmt := top 13
abbrev s_choice_weights : Stmt := top 15
abbrev s_choice_row : Stmt := top 16
abbrev s_factor_of : Stmt := top 18
abbrev s_greater_loss : Stmt := top 19
abbrev s_row_loss : Stmt := top 20
abbrev s_rows_loss : Stmt := top 21
abbrev s_other_share : Stmt := top 23
abbrev s_spin_chances : Stmt := top 24
abbrev s_spin_row : Stmt := top 25
abbrev s_spin_rows : Stmt := top 26
abbrev s__law_begin : Stmt := top 28
abbrev s__law_draw : Stmt := top 29
abbrev s__law_is_int : Stmt := top 30
abbrev s__law_is_ints : Stmt := top 31
abbrev s__law_gcd : Stmt := top 32
abbrev s__law_f : Stmt := top 33
abbrev s__law_less : Stmt := top 34
abbrev s__law_great : Stmt := top 35
abbrev s__law_is_frac : Stmt := top 36
abbrev s__law_is_ratio : Stmt := top 37
abbrev s__law_powers : Stmt := top 38
abbrev s__law_part : Stmt := top 39
abbrev s__law_base : Stmt := top 40
abbrev s__law_is_lowest : Stmt := top 41
abbrev s__law_is_loss : Stmt := top 42
abbrev s__law_is_spin : Stmt := top 43
abbrev s__law_spin_loss : Stmt := top 44
abbrev s__law_are_spins : Stmt := top 45
abbrev s__law_is_choice : Stmt := top 46
abbrev s__law_bent_worths : Stmt := top 47
abbrev s__law_own_loss : Stmt := top 48
abbrev s__law_is_at_most : Stmt := top 49
abbrev s__law_are_choices : Stmt := top 50
abbrev s__law_is_one_better : Stmt := top 51
abbrev s_law : Stmt := top 52
def q_ONE : D := .tup [.int 1, .int 1]
def N_ratio : List PySem.Str := ["n", "d", "common"]
theorem sc_ratio : FnScope N_ratio ["n", "d"] (defScope s_ratio) := ⟨rfl, rfl, rfl, by decide +kernel, rfl, by decide +kernel, by decide +kernel⟩
def m_ratio : SM := (sSeq (sIf (tBl (eBin oEq (eVar 1) (eC (.int 0)))) (sRaise ⟨.ty "ZeroDivisionError", []⟩) sNil)
    (sSeq (sSet 2 (eCB fGcd (aCons (eVar 0) (aCons (eVar 1) aNil))))
    (sSeq (sIf (tBl (eBin oLt (eVar 1) (eC (.int 0)))) (sSet 2 (eUn oNeg (eVar 2))) sNil)
    (sRet (eTup (aCons (eBin oDiv (eVar 0) (eVar 2)) (aCons (eBin oDiv (eVar 1) (eVar 2)) aNil)))))))
theorem ok_ratio {P : Program} {w : World} {K : PySem.W.Frag} {mg : PySem.Str → Option Value} {base : Heap} {f : Addr} {fd : FuncData} (F : FnP K "ratio" s_ratio f fd) (gx : mg "ratio" = some (.ref f)) (g_gcd : mg "gcd" = some (.builtin "math.gcd")) (z_ZeroDivisionError : mg "ZeroDivisionError" = none) :
    Cal P w K mg base "ratio" 1 ["n", "d"] (runB 3 (m_ratio)) :=
  cal_mk (k := 0) F sc_ratio gx (fun _ _ _ _ _ _ us hl => match us, hl with | [_, _], _ => rfl) fun cdv A outer s H E hr tk hp =>
    (sx_cons (sx_if (et_cmp (m_eq hr.units) (xv 1) ex_int (nomark _)) (sx_one (sx_raiseB (by rfl) tk exb_ZeroDivisionError (by rfl) z_ZeroDivisionError boot_ZeroDivisionError)) sx_nil)
    (sx_cons (sx_set sc_ratio.nd (ex_callF c_gcd (by rfl) g_gcd (ea_cons (xv 0) (ea_cons (xv 1) ea_nil))))
    (sx_cons (sx_if (et_cmp m_lt (xv 1) ex_int (nomark _)) (sx_one (sx_set sc_ratio.nd (ex_un m_neg (xv 2)))) sx_nil)
    (sx_one (sx_ret (ex_tup (ea_cons (ex_op m_div (xv 0) (xv 2)) (ea_cons (ex_op m_div (xv 1) (xv 2)) ea_nil))))))))
def N_minus : List PySem.Str := ["x", "y"]
theorem sc_minus : FnScope N_minus ["x", "y"] (defScope s_minus) := ⟨rfl, rfl, rfl, by decide +kernel, rfl, by decide +kernel, by decide +kernel⟩
def m_minus (f_ratio : FM) : SM := (sRet (eCall 2 f_ratio (aCons (eBin oSub (eBin oMul (eBin oIx (eVar 0) (eC (.int 0))) (eBin oIx (eVar 1) (eC (.int 1)))) (eBin oMul (eBin oIx (eVar 1) (eC (.int 0))) (eBin oIx (eVar 0) (eC (.int 1))))) (aCons (eBin oMul (eBin oIx (eVar 0) (eC (.int 1))) (eBin oIx (eVar 1) (eC (.int 1)))) aNil))))
theorem ok_minus {P : Program} {w : World} {K : PySem.W.Frag} {mg : PySem.Str → Option Value} {base : Heap} {f : Addr} {fd : FuncData} {f_ratio : FM} (F : FnP K "minus" s_minus f fd) (gx : mg "minus" = some (.ref f)) (c_ratio : Cal P w K mg base "ratio" 1 ["n", "d"] f_ratio) :
    Cal P w K mg base "minus" 2 ["x", "y"] (runB 2 (m_minus f_ratio)) :=
  cal_mk (k := 1) F sc_minus gx (fun _ _ _ _ _ _ us hl => match us, hl with | [_, _], _ => rfl) fun cdv A outer s H E hr tk hp =>
    (sx_one (sx_ret (ex_c1 c_ratio tk hr (by decide) (ea_cons (ex_op m_sub (ex_op m_mul (ex_ix m_ix (xv 0) ex_int) (ex_ix m_ix (xv 1) ex_int)) (ex_op m_mul (ex_ix m_ix (xv 1) ex_int) (ex_ix m_ix (xv 0) ex_int))) (ea_cons (ex_op m_mul (ex_ix m_ix (xv 0) ex_int) (ex_ix m_ix (xv 1) ex_int)) ea_nil)))))
def N_over : List PySem.Str := ["x", "y"]
theorem sc_over : FnScope N_over ["x", "y"] (defScope s_over) := ⟨rfl, rfl, rfl, by decide +kernel, rfl, by decide +kernel, by decide +kernel⟩
def m_over (f_ratio : FM) : SM := (sRet (eCall 2 f_ratio (aCons (eBin oMul (eBin oIx (eVar 0) (eC (.int 0))) (eBin oIx (eVar 1) (eC (.int 1)))) (aCons (eBin oMul (eBin oIx (eVar 0) (eC (.int 1))) (eBin oIx (eVar 1) (eC (.int 0)))) aNil))))
theorem ok_over {P : Program} {w : World} {K : PySem.W.Frag} {mg : PySem.Str → Option Value} {base : Heap} {f : Addr} {fd : FuncData} {f_ratio : FM} (F : FnP K "over" s_over f fd) (gx : mg "over" = some (.ref f)) (c_ratio : Cal P w K mg base "ratio" 1 ["n", "d"] f_ratio) :
    Cal P w K mg base "over" 2 ["x", "y"] (runB 2 (m_over f_ratio)) :=
  cal_mk (k := 1) F sc_over gx (fun _ _ _ _ _ _ us hl => match us, hl with | [_, _], _ => rfl) fun cdv A outer s H E hr tk hp =>
    (sx_one (sx_ret (ex_c1 c_ratio tk hr (by decide) (ea_cons (ex_op m_mul (ex_ix m_ix (xv 0) ex_int) (ex_ix m_ix (xv 1) ex_int)) (ea_cons (ex_op m_mul (ex_ix m_ix (xv 0) ex_int) (ex_ix m_ix (xv 1) ex_int)) ea_nil)))))
def N_is_below : List PySem.Str := ["x", "y"]
theorem sc_is_below : FnScope N_is_below ["x", "y"] (defScope s_is_below) := ⟨rfl, rfl, rfl, by decide +kernel, rfl, by decide +kernel, by decide +kernel⟩
def m_is_below : SM := (sRet (eBin oLt (eBin oMul (eBin oIx (eVar 0) (eC (.int 0))) (eBin oIx (eVar 1) (eC (.int 1)))) (eBin oMul (eBin oIx (eVar 1) (eC (.int 0))) (eBin oIx (eVar 0) (eC (.int 1))))))
theorem ok_is_below {P : Program} {w : World} {K : PySem.W.Frag} {mg : PySem.Str → Option Value} {base : Heap} {f : Addr} {fd : FuncData} (F : FnP K "is_below" s_is_below f fd) (gx : mg "is_below" = some (.ref f))  :
    Cal P w K mg base "is_below" 1 ["x", "y"] (runB 2 (m_is_below)) :=
  cal_mk (k := 0) F sc_is_below gx (fun _ _ _ _ _ _ us hl => match us, hl with | [_, _], _ => rfl) fun cdv A outer s H E hr tk hp =>
    (sx_one (sx_ret (ex_cmp m_lt (ex_op m_mul (ex_ix m_ix (xv 0) ex_int) (ex_ix m_ix (xv 1) ex_int)) (ex_op m_mul (ex_ix m_ix (xv 1) ex_int) (ex_ix m_ix (xv 0) ex_int)) (nomark _))))
def N_chances : List PySem.Str := ["weights", "whole", "weight"]
theorem sc_chances : FnScope N_chances ["weights"] (defScope s_chances) := ⟨rfl, rfl, rfl, by decide +kernel, rfl, by decide +kernel, by decide +kernel⟩
def m_chances (f_ratio : FM) : SM := (sSeq (sSet 1 (eCS gSum (sEx (eVar 0))))
    (sRet (eCS gTuple (lComp [2] (iEx (eVar 0)) (gN 2) tYes (eCall 2 f_ratio (aCons (eVar 2) (aCons (eVar 1) aNil)))))))
theorem ok_chances {P : Program} {w : World} {K : PySem.W.Frag} {mg : PySem.Str → Option Value} {base : Heap} {f : Addr} {fd : FuncData} {f_ratio : FM} (F : FnP K "chances" s_chances f fd) (gx : mg "chances" = some (.ref f)) (c_ratio : Cal P w K mg base "ratio" 1 ["n", "d"] f_ratio) (z_sum : mg "sum" = none) (z_tuple : mg "tuple" = none) :
    Cal P w K mg base "chances" 2 ["weights"] (runB 3 (m_chances f_ratio)) :=
  cal_mk (k := 1) F sc_chances gx (fun _ _ _ _ _ _ us hl => match us, hl with | [_], _ => rfl) fun cdv A outer s H E hr tk hp =>
    (sx_cons (sx_set sc_chances.nd (ex_callBs (s_sum (by rfl)) (by rfl) z_sum bt_sum (es_ex (xv 0))))
    (sx_one (sx_ret (ex_callTs s_tuple (by rfl) z_tuple bt_tuple (es_el (el_comp (own := [(("weight" : PySem.Str), 2)]) (by rfl) sc_chances.nd (ei_ex (xv 0)) (blkOk_by (N := N_chances) (sc := (defScope s_chances)) (by decide +kernel)) (fun _ _ _ _ _ => (eg_name sc_chances.nd)) (fun _ _ _ _ _ => ets_nil) (fun _ _ _ _ _ => (ex_c1 c_ratio tk0 hr (by decide) (ea_cons (xv 2) (ea_cons (xv 1) ea_nil))))))))))
def N_reduced : List PySem.Str := ["weights", "common", "weight"]
theorem sc_reduced : FnScope N_reduced ["weights"] (defScope s_reduced) := ⟨rfl, rfl, rfl, by decide +kernel, rfl, by decide +kernel, by decide +kernel⟩
def m_reduced : SM := (sSeq (sSet 1 (eC (.int 0)))
    (sSeq (sFor (iEx (eVar 0)) (gN 2) (sSet 1 (eCB fGcd (aCons (eVar 1) (aCons (eVar 2) aNil)))))
    (sRet (eCS gTuple (lComp [2] (iEx (eVar 0)) (gN 2) tYes (eBin oDiv (eVar 2) (eVar 1)))))))
theorem ok_reduced {P : Program} {w : World} {K : PySem.W.Frag} {mg : PySem.Str → Option Value} {base : Heap} {f : Addr} {fd : FuncData} (F : FnP K "reduced" s_reduced f fd) (gx : mg "reduced" = some (.ref f)) (g_gcd : mg "gcd" = some (.builtin "math.gcd")) (z_tuple : mg "tuple" = none) :
    Cal P w K mg base "reduced" 1 ["weights"] (runB 3 (m_reduced)) :=
  cal_mk (k := 0) F sc_reduced gx (fun _ _ _ _ _ _ us hl => match us, hl with | [_], _ => rfl) fun cdv A outer s H E hr tk hp =>
    (sx_cons (sx_set sc_reduced.nd ex_int)
    (sx_cons (sx_for hp (by rfl) (ei_ex (xv 0)) (eg_name sc_reduced.nd) (sx_one (sx_set sc_reduced.nd (ex_callF c_gcd (by rfl) g_gcd (ea_cons (xv 1) (ea_cons (xv 2) ea_nil))))))
    (sx_one (sx_ret (ex_callTs s_tuple (by rfl) z_tuple bt_tuple (es_el (el_comp (own := [(("weight" : PySem.Str), 2)]) (by rfl) sc_reduced.nd (ei_ex (xv 0)) (blkOk_by (N := N_reduced) (sc := (defScope s_reduced)) (by decide +kernel)) (fun _ _ _ _ _ => (eg_name sc_reduced.nd)) (fun _ _ _ _ _ => ets_nil) (fun _ _ _ _ _ => (ex_op m_div (xv 2) (xv 1))))))))))
def N_lowest : List PySem.Str := ["row", "below", "part"]
theorem sc_lowest : FnScope N_lowest ["row"] (defScope s_lowest) := ⟨rfl, rfl, rfl, by decide +kernel, rfl, by decide +kernel, by decide +kernel⟩
def m_lowest (f_reduced : FM) : SM := (sSeq (sSet 1 (eC (.int 1)))
    (sSeq (sFor (iEx (eVar 0)) (gN 2) (sSet 1 (eCB fLcm (aCons (eVar 1) (aCons (eBin oIx (eVar 2) (eC (.int 1))) aNil)))))
    (sRet (eCall 1 f_reduced (aCons (eEl (lComp [2] (iEx (eVar 0)) (gN 2) tYes (eBin oMul (eBin oIx (eVar 2) (eC (.int 0))) (eBin oDiv (eVar 1) (eBin oIx (eVar 2) (eC (.int 1))))))) aNil)))))
theorem ok_lowest {P : Program} {w : World} {K : PySem.W.Frag} {mg : PySem.Str → Option Value} {base : Heap} {f : Addr} {fd : FuncData} {f_reduced : FM} (F : FnP K "lowest" s_lowest f fd) (gx : mg "lowest" = some (.ref f)) (c_reduced : Cal P w K mg base "reduced" 1 ["weights"] f_reduced) (g_lcm : mg "lcm" = some (.builtin "math.lcm")) :
    Cal P w K mg base "lowest" 2 ["row"] (runB 3 (m_lowest f_reduced)) :=
  cal_mk (k := 1) F sc_lowest gx (fun _ _ _ _ _ _ us hl => match us, hl with | [_], _ => rfl) fun cdv A outer s H E hr tk hp =>
    (sx_cons (sx_set sc_lowest.nd ex_int)
    (sx_cons (sx_for hp (by rfl) (ei_ex (xv 0)) (eg_name sc_lowest.nd) (sx_one (sx_set sc_lowest.nd (ex_callF c_lcm (by rfl) g_lcm (ea_cons (xv 1) (ea_cons (ex_ix m_ix (xv 2) ex_int) ea_nil))))))
    (sx_one (sx_ret (ex_c1 c_reduced tk hr (by decide) (ea_cons (ex_el (el_comp (own := [(("part" : PySem.Str), 2)]) (by rfl) sc_lowest.nd (ei_ex (xv 0)) (blkOk_by (N := N_lowest) (sc := (defScope s_lowest)) (by decide +kernel)) (fun _ _ _ _ _ => (eg_name sc_lowest.nd)) (fun _ _ _ _ _ => ets_nil) (fun _ _ _ _ _ => (ex_op m_mul (ex_ix m_ix (xv 2) ex_int) (ex_op m_div (xv 1) (ex_ix m_ix (xv 2) ex_int)))))) ea_nil))))))
def N_powers : List PySem.Str := ["base", "most", "found", "exponent"]
theorem sc_powers : FnScope N_powers ["base", "most"] (defScope s_powers) := ⟨rfl, rfl, rfl, by decide +kernel, rfl, by decide +kernel, by decide +kernel⟩
def m_powers : SM := (sSeq (sSet 2 (eLst (aCons (eC (.int 1)) aNil)))
    (sSeq (sFor (iRg1 (eVar 1)) (gN 3) (sExpr (eM "list" mAppend (eVar 2) (aCons (eBin oMul (eBin oIx (eVar 2) (eVar 3)) (eVar 0)) aNil))))
    (sRet (eCB fTuple (aCons (eVar 2) aNil)))))
theorem ok_powers {P : Program} {w : World} {K : PySem.W.Frag} {mg : PySem.Str → Option Value} {base : Heap} {f : Addr} {fd : FuncData} (F : FnP K "powers" s_powers f fd) (gx : mg "powers" = some (.ref f)) (z_range : mg "range" = none) (z_tuple : mg "tuple" = none) :
    Cal P w K mg base "powers" 1 ["base", "most"] (runB 4 (m_powers)) :=
  cal_mk (k := 0) F sc_powers gx (fun _ _ _ _ _ _ us hl => match us, hl with | [_, _], _ => rfl) fun cdv A outer s H E hr tk hp =>
    (sx_cons (sx_set sc_powers.nd (ex_lst (ea_cons ex_int ea_nil)))
    (sx_cons (sx_for hp (by rfl) (ei_range1 (by rfl) z_range (xv 1)) (eg_name sc_powers.nd) (sx_one (sx_expr (ex_m PySem.F.plainAttrs_list PySem.F.slot_list_append PySem.F.type_list_append me_append (xv 2) (ea_cons (ex_op m_mul (ex_ix m_ix (xv 2) (xv 3)) (xv 0)) ea_nil)))))
    (sx_one (sx_ret (ex_callT c_tuple (by rfl) z_tuple bt_tuple (ea_cons (xv 2) ea_nil))))))
def N_scaled_powers : List PySem.Str := ["p", "q", "most", "ups", "downs", "exponent"]
theorem sc_scaled_powers : FnScope N_scaled_powers ["p", "q", "most"] (defScope s_scaled_powers) := ⟨rfl, rfl, rfl, by decide +kernel, rfl, by decide +kernel, by decide +kernel⟩
def m_scaled_powers (f_powers : FM) : SM := (sSeq (sSet 3 (eCall 2 f_powers (aCons (eVar 0) (aCons (eVar 2) aNil))))
    (sSeq (sSet 4 (eCall 2 f_powers (aCons (eVar 1) (aCons (eVar 2) aNil))))
    (sRet (eCS gTuple (lComp [5] (iRg1 (eBin oAdd (eVar 2) (eC (.int 1)))) (gN 5) tYes (eBin oMul (eBin oIx (eVar 3) (eVar 5)) (eBin oIx (eVar 4) (eBin oSub (eVar 2) (eVar 5)))))))))
theorem ok_scaled_powers {P : Program} {w : World} {K : PySem.W.Frag} {mg : PySem.Str → Option Value} {base : Heap} {f : Addr} {fd : FuncData} {f_powers : FM} (F : FnP K "scaled_powers" s_scaled_powers f fd) (gx : mg "scaled_powers" = some (.ref f)) (c_powers : Cal P w K mg base "powers" 1 ["base", "most"] f_powers) (z_range : mg "range" = none) (z_tuple : mg "tuple" = none) :
    Cal P w K mg base "scaled_powers" 2 ["p", "q", "most"] (runB 6 (m_scaled_powers f_powers)) :=
  cal_mk (k := 1) F sc_scaled_powers gx (fun _ _ _ _ _ _ us hl => match us, hl with | [_, _, _], _ => rfl) fun cdv A outer s H E hr tk hp =>
    (sx_cons (sx_set sc_scaled_powers.nd (ex_c1 c_powers tk hr (by decide) (ea_cons (xv 0) (ea_cons (xv 2) ea_nil))))
    (sx_cons (sx_set sc_scaled_powers.nd (ex_c1 c_powers tk hr (by decide) (ea_cons (xv 1) (ea_cons (xv 2) ea_nil))))
    (sx_one (sx_ret (ex_callTs s_tuple (by rfl) z_tuple bt_tuple (es_el (el_comp (own := [(("exponent" : PySem.Str), 5)]) (by rfl) sc_scaled_powers.nd (ei_range1 (by rfl) z_range (ex_op m_add (xv 2) ex_int)) (blkOk_by (N := N_scaled_powers) (sc := (defScope s_scaled_powers)) (by decide +kernel)) (fun _ _ _ _ _ => (eg_name sc_scaled_powers.nd)) (fun _ _ _ _ _ => ets_nil) (fun _ _ _ _ _ => (ex_op m_mul (ex_ix m_ix (xv 3) (xv 5)) (ex_ix m_ix (xv 4) (ex_op m_sub (xv 2) (xv 5))))))))))))
def N_choice_weights : List PySem.Str := ["worths", "p", "q", "scaled", "worth"]
theorem sc_choice_weights : FnScope N_choice_weights ["worths", "p", "q"] (defScope s_choice_weights) := ⟨rfl, rfl, rfl, by decide +kernel, rfl, by decide +kernel, by decide +kernel⟩
def m_choice_weights (f_scaled_powers : FM) : SM := (sSeq (sSet 3 (eCall 3 f_scaled_powers (aCons (eVar 1) (aCons (eVar 2) (aCons (eCS gMax (sEx (eVar 0))) aNil)))))
    (sRet (eEl (lComp [4] (iEx (eVar 0)) (gN 4) tYes (eBin oIx (eVar 3) (eVar 4))))))
theorem ok_choice_weights {P : Program} {w : World} {K : PySem.W.Frag} {mg : PySem.Str → Option Value} {base : Heap} {f : Addr} {fd : FuncData} {f_scaled_powers : FM} (F : FnP K "choice_weights" s_choice_weights f fd) (gx : mg "choice_weights" = some (.ref f)) (c_scaled_powers : Cal P w K mg base "scaled_powers" 2 ["p", "q", "most"] f_scaled_powers) (z_max : mg "max" = none) :
    Cal P w K mg base "choice_weights" 3 ["worths", "p", "q"] (runB 5 (m_choice_weights f_scaled_powers)) :=
  cal_mk (k := 2) F sc_choice_weights gx (fun _ _ _ _ _ _ us hl => match us, hl with | [_, _, _], _ => rfl) fun cdv A outer s H E hr tk hp =>
    (sx_cons (sx_set sc_choice_weights.nd (ex_c1 c_scaled_powers tk hr (by decide) (ea_cons (xv 1) (ea_cons (xv 2) (ea_cons (ex_callBs (sv_max (by rfl)) (by rfl) z_max bt_max (es_ex (xv 0))) ea_nil)))))
    (sx_one (sx_ret (ex_el (el_comp (own := [(("worth" : PySem.Str), 4)]) (by rfl) sc_choice_weights.nd (ei_ex (xv 0)) (blkOk_by (N := N_choice_weights) (sc := (defScope s_choice_weights)) (by decide +kernel)) (fun _ _ _ _ _ => (eg_name sc_choice_weights.nd)) (fun _ _ _ _ _ => ets_nil) (fun _ _ _ _ _ => (ex_ix m_ix (xv 3) (xv 4))))))))
def N_choice_row : List PySem.Str := ["worths", "p", "q"]
theorem sc_choice_row : FnScope N_choice_row ["worths", "p", "q"] (defScope s_choice_row) := ⟨rfl, rfl, rfl, by decide +kernel, rfl, by decide +kernel, by decide +kernel⟩
def m_choice_row (f_reduced : FM) (f_choice_weights : FM) : SM := (sRet (eCall 1 f_reduced (aCons (eCall 3 f_choice_weights (aCons (eVar 0) (aCons (eVar 1) (aCons (eVar 2) aNil)))) aNil)))
theorem ok_choice_row {P : Program} {w : World} {K : PySem.W.Frag} {mg : PySem.Str → Option Value} {base : Heap} {f : Addr} {fd : FuncData} {f_reduced f_choice_weights : FM} (F : FnP K "choice_row" s_choice_row f fd) (gx : mg "choice_row" = some (.ref f)) (c_reduced : Cal P w K mg base "reduced" 1 ["weights"] f_reduced) (c_choice_weights : Cal P w K mg base "choice_weights" 3 ["worths", "p", "q"] f_choice_weights) :
    Cal P w K mg base "choice_row" 4 ["worths", "p", "q"] (runB 3 (m_choice_row f_reduced f_choice_weights)) :=
  cal_mk (k := 3) F sc_choice_row gx (fun _ _ _ _ _ _ us hl => match us, hl with | [_, _, _], _ => rfl) fun cdv A outer s H E hr tk hp =>
    (sx_one (sx_ret (ex_c1 c_reduced tk hr (by decide) (ea_cons (ex_c1 c_choice_weights tk hr (by decide) (ea_cons (xv 0) (ea_cons (xv 1) (ea_cons (xv 2) ea_nil)))) ea_nil))))
def N_factor_of : List PySem.Str := ["share", "less"]
theorem sc_factor_of : FnScope N_factor_of ["share", "less"] (defScope s_factor_of) := ⟨rfl, rfl, rfl, by decide +kernel, rfl, by decide +kernel, by decide +kernel⟩
def m_factor_of (f_over : FM) : SM := (sSeq (sIf (tBl (eBin oEq (eBin oIx (eVar 1) (eC (.int 0))) (eC (.int 0)))) (sRet (eC .non)) sNil)
    (sRet (eCall 2 f_over (aCons (eVar 0) (aCons (eVar 1) aNil)))))
theorem ok_factor_of {P : Program} {w : World} {K : PySem.W.Frag} {mg : PySem.Str → Option Value} {base : Heap} {f : Addr} {fd : FuncData} {f_over : FM} (F : FnP K "factor_of" s_factor_of f fd) (gx : mg "factor_of" = some (.ref f)) (c_over : Cal P w K mg base "over" 2 ["x", "y"] f_over) :
    Cal P w K mg base "factor_of" 3 ["share", "less"] (runB 2 (m_factor_of f_over)) :=
  cal_mk (k := 2) F sc_factor_of gx (fun _ _ _ _ _ _ us hl => match us, hl with | [_, _], _ => rfl) fun cdv A outer s H E hr tk hp =>
    (sx_cons (sx_if (et_cmp (m_eq hr.units) (ex_ix m_ix (xv 1) ex_int) ex_int (nomark _)) (sx_one (sx_ret ex_non)) sx_nil)
    (sx_one (sx_ret (ex_c1 c_over tk hr (by decide) (ea_cons (xv 0) (ea_cons (xv 1) ea_nil))))))
def N_greater_loss : List PySem.Str := ["loss", "other"]
theorem sc_greater_loss : FnScope N_greater_loss ["loss", "other"] (defScope s_greater_loss) := ⟨rfl, rfl, rfl, by decide +kernel, rfl, by decide +kernel, by decide +kernel⟩
def m_greater_loss (f_is_below : FM) : SM := (sSeq (sIf (tOr (tBl (eBin oIs (eVar 0) (eC .non))) (tBl (eBin oIs (eVar 1) (eC .non)))) (sRet (eC .non)) sNil)
    (sSeq (sIf (tVal (eCall 2 f_is_below (aCons (eVar 0) (aCons (eVar 1) aNil)))) (sRet (eVar 1)) sNil)
    (sRet (eVar 0))))
theorem ok_greater_loss {P : Program} {w : World} {K : PySem.W.Frag} {mg : PySem.Str → Option Value} {base : Heap} {f : Addr} {fd : FuncData} {f_is_below : FM} (F : FnP K "greater_loss" s_greater_loss f fd) (gx : mg "greater_loss" = some (.ref f)) (c_is_below : Cal P w K mg base "is_below" 1 ["x", "y"] f_is_below) :
    Cal P w K mg base "greater_loss" 2 ["loss", "other"] (runB 2 (m_greater_loss f_is_below)) :=
  cal_mk (k := 1) F sc_greater_loss gx (fun _ _ _ _ _ _ us hl => match us, hl with | [_, _], _ => rfl) fun cdv A outer s H E hr tk hp =>
    (sx_cons (sx_if (Ew.et (ew_or (et_cmp m_is (xv 0) ex_non (nomark _)) (ew_or1 (et_cmp m_is (xv 1) ex_non (nomark _))))) (sx_one (sx_ret ex_non)) sx_nil)
    (sx_cons (sx_if (et_val (ex_c1 c_is_below tk hr (by decide) (ea_cons (xv 0) (ea_cons (xv 1) ea_nil)))) (sx_one (sx_ret (xv 1))) sx_nil)
    (sx_one (sx_ret (xv 0)))))
def N_row_loss : List PySem.Str := ["row", "other", "loss", "share", "less"]
theorem sc_row_loss : FnScope N_row_loss ["row", "other"] (defScope s_row_loss) := ⟨rfl, rfl, rfl, by decide +kernel, rfl, by decide +kernel, by decide +kernel⟩
def m_row_loss (f_chances : FM) (f_greater_loss : FM) (f_factor_of : FM) : SM := (sSeq (sSet 2 (eC q_ONE))
    (sSeq (sFor (iZip (eCall 1 f_chances (aCons (eVar 0) aNil)) (eCall 1 f_chances (aCons (eVar 1) aNil))) (gT 2 (gCs 3 (gCs 4 gNil0))) (sIf (tBl (eBin oGt (eBin oIx (eVar 3) (eC (.int 0))) (eC (.int 0)))) (sSet 2 (eCall 2 f_greater_loss (aCons (eVar 2) (aCons (eCall 2 f_factor_of (aCons (eVar 3) (aCons (eVar 4) aNil))) aNil)))) sNil))
    (sRet (eVar 2))))
theorem ok_row_loss {P : Program} {w : World} {K : PySem.W.Frag} {mg : PySem.Str → Option Value} {base : Heap} {f : Addr} {fd : FuncData} {f_chances f_greater_loss f_factor_of : FM} (F : FnP K "row_loss" s_row_loss f fd) (gx : mg "row_loss" = some (.ref f)) (c_chances : Cal P w K mg base "chances" 2 ["weights"] f_chances) (c_greater_loss : Cal P w K mg base "greater_loss" 2 ["loss", "other"] f_greater_loss) (c_factor_of : Cal P w K mg base "factor_of" 3 ["share", "less"] f_factor_of) (k_ONE : Con K mg "ONE" q_ONE) (z_zip : mg "zip" = none) :
    Cal P w K mg base "row_loss" 4 ["row", "other"] (runB 5 (m_row_loss f_chances f_greater_loss f_factor_of)) :=
  cal_mk (k := 3) F sc_row_loss gx (fun _ _ _ _ _ _ us hl => match us, hl with | [_, _], _ => rfl) fun cdv A outer s H E hr tk hp =>
    (sx_cons (sx_set sc_row_loss.nd (ex_con k_ONE))
    (sx_cons (sx_for hp (by rfl) (ei_zip (by rfl) z_zip (ex_c1 c_chances tk hr (by decide) (ea_cons (xv 0) ea_nil)) (ex_c1 c_chances tk hr (by decide) (ea_cons (xv 1) ea_nil))) (eg_tup (by rfl) (egs_cons sc_row_loss.nd (egs_cons sc_row_loss.nd egs_nil))) (sx_one (sx_if (et_cmp m_gt (ex_ix m_ix (xv 3) ex_int) ex_int (nomark _)) (sx_one (sx_set sc_row_loss.nd (ex_c1 c_greater_loss tk hr (by decide) (ea_cons (xv 2) (ea_cons (ex_c1 c_factor_of tk hr (by decide) (ea_cons (xv 3) (ea_cons (xv 4) ea_nil))) ea_nil))))) sx_nil)))
    (sx_one (sx_ret (xv 2)))))
def N_rows_loss : List PySem.Str := ["rows", "pairs", "loss", "first", "second"]
theorem sc_rows_loss : FnScope N_rows_loss ["rows", "pairs"] (defScope s_rows_loss) := ⟨rfl, rfl, rfl, by decide +kernel, rfl, by decide +kernel, by decide +kernel⟩
def m_rows_loss (f_greater_loss : FM) (f_row_loss : FM) : SM := (sSeq (sSet 2 (eC q_ONE))
    (sSeq (sFor (iEx (eVar 1)) (gT 2 (gCs 3 (gCs 4 gNil0))) (sSet 2 (eCall 2 f_greater_loss (aCons (eVar 2) (aCons (eCall 2 f_row_loss (aCons (eBin oIx (eVar 0) (eVar 3)) (aCons (eBin oIx (eVar 0) (eVar 4)) aNil))) aNil)))))
    (sRet (eVar 2))))
theorem ok_rows_loss {P : Program} {w : World} {K : PySem.W.Frag} {mg : PySem.Str → Option Value} {base : Heap} {f : Addr} {fd : FuncData} {f_greater_loss f_row_loss : FM} (F : FnP K "rows_loss" s_rows_loss f fd) (gx : mg "rows_loss" = some (.ref f)) (c_greater_loss : Cal P w K mg base "greater_loss" 2 ["loss", "other"] f_greater_loss) (c_row_loss : Cal P w K mg base "row_loss" 4 ["row", "other"] f_row_loss) (k_ONE : Con K mg "ONE" q_ONE) :
    Cal P w K mg base "rows_loss" 5 ["rows", "pairs"] (runB 5 (m_rows_loss f_greater_loss f_row_loss)) :=
  cal_mk (k := 4) F sc_rows_loss gx (fun _ _ _ _ _ _ us hl => match us, hl with | [_, _], _ => rfl) fun cdv A outer s H E hr tk hp =>
    (sx_cons (sx_set sc_rows_loss.nd (ex_con k_ONE))
    (sx_cons (sx_for hp (by rfl) (ei_ex (xv 1)) (eg_tup (by rfl) (egs_cons sc_rows_loss.nd (egs_cons sc_rows_loss.nd egs_nil))) (sx_one (sx_set sc_rows_loss.nd (ex_c1 c_greater_loss tk hr (by decide) (ea_cons (xv 2) (ea_cons (ex_c1 c_row_loss tk hr (by decide) (ea_cons (ex_ix m_ix (xv 0) (xv 3)) (ea_cons (ex_ix m_ix (xv 0) (xv 4)) ea_nil))) ea_nil))))))
    (sx_one (sx_ret (xv 2)))))
def N_other_share : List PySem.Str := ["many", "truth"]
theorem sc_other_share : FnScope N_other_share ["many", "truth"] (defScope s_other_share) := ⟨rfl, rfl, rfl, by decide +kernel, rfl, by decide +kernel, by decide +kernel⟩
def m_other_share (f_over : FM) (f_minus : FM) : SM := (sRet (eCall 2 f_over (aCons (eCall 2 f_minus (aCons (eC q_ONE) (aCons (eVar 1) aNil))) (aCons (eTup (aCons (eBin oSub (eVar 0) (eC (.int 1))) (aCons (eC (.int 1)) aNil))) aNil))))
theorem ok_other_share {P : Program} {w : World} {K : PySem.W.Frag} {mg : PySem.Str → Option Value} {base : Heap} {f : Addr} {fd : FuncData} {f_over f_minus : FM} (F : FnP K "other_share" s_other_share f fd) (gx : mg "other_share" = some (.ref f)) (c_over : Cal P w K mg base "over" 2 ["x", "y"] f_over) (c_minus : Cal P w K mg base "minus" 2 ["x", "y"] f_minus) (k_ONE : Con K mg "ONE" q_ONE) :
    Cal P w K mg base "other_share" 3 ["many", "truth"] (runB 2 (m_other_share f_over f_minus)) :=
  cal_mk (k := 2) F sc_other_share gx (fun _ _ _ _ _ _ us hl => match us, hl with | [_, _], _ => rfl) fun cdv A outer s H E hr tk hp =>
    (sx_one (sx_ret (ex_c1 c_over tk hr (by decide) (ea_cons (ex_c1 c_minus tk hr (by decide) (ea_cons (ex_con k_ONE) (ea_cons (xv 1) ea_nil))) (ea_cons (ex_tup (ea_cons (ex_op m_sub (xv 0) ex_int) (ea_cons ex_int ea_nil))) ea_nil)))))
def N_spin_chances : List PySem.Str := ["many", "value", "p", "q", "truth", "rest", "found", "answer"]
theorem sc_spin_chances : FnScope N_spin_chances ["many", "value", "p", "q"] (defScope s_spin_chances) := ⟨rfl, rfl, rfl, by decide +kernel, rfl, by decide +kernel, by decide +kernel⟩
def m_spin_chances (f_ratio : FM) (f_other_share : FM) : SM := (sSeq (sSet 4 (eCall 2 f_ratio (aCons (eVar 2) (aCons (eVar 3) aNil))))
    (sSeq (sSet 5 (eCall 2 f_other_share (aCons (eVar 0) (aCons (eVar 4) aNil))))
    (sSeq (sSet 6 (eLst aNil))
    (sSeq (sFor (iRg1 (eVar 0)) (gN 7) (sIf (tBl (eBin oEq (eVar 7) (eVar 1))) (sExpr (eM "list" mAppend (eVar 6) (aCons (eVar 4) aNil))) (sExpr (eM "list" mAppend (eVar 6) (aCons (eVar 5) aNil)))))
    (sRet (eCB fTuple (aCons (eVar 6) aNil)))))))
theorem ok_spin_chances {P : Program} {w : World} {K : PySem.W.Frag} {mg : PySem.Str → Option Value} {base : Heap} {f : Addr} {fd : FuncData} {f_ratio f_other_share : FM} (F : FnP K "spin_chances" s_spin_chances f fd) (gx : mg "spin_chances" = some (.ref f)) (c_ratio : Cal P w K mg base "ratio" 1 ["n", "d"] f_ratio) (c_other_share : Cal P w K mg base "other_share" 3 ["many", "truth"] f_other_share) (z_range : mg "range" = none) (z_tuple : mg "tuple" = none) :
    Cal P w K mg base "spin_chances" 4 ["many", "value", "p", "q"] (runB 8 (m_spin_chances f_ratio f_other_share)) :=
  cal_mk (k := 3) F sc_spin_chances gx (fun _ _ _ _ _ _ us hl => match us, hl with | [_, _, _, _], _ => rfl) fun cdv A outer s H E hr tk hp =>
    (sx_cons (sx_set sc_spin_chances.nd (ex_c1 c_ratio tk hr (by decide) (ea_cons (xv 2) (ea_cons (xv 3) ea_nil))))
    (sx_cons (sx_set sc_spin_chances.nd (ex_c1 c_other_share tk hr (by decide) (ea_cons (xv 0) (ea_cons (xv 4) ea_nil))))
    (sx_cons (sx_set sc_spin_chances.nd (ex_lst ea_nil))
    (sx_cons (sx_for hp (by rfl) (ei_range1 (by rfl) z_range (xv 0)) (eg_name sc_spin_chances.nd) (sx_one (sx_if (et_cmp (m_eq hr.units) (xv 7) (xv 1) (nomark _)) (sx_one (sx_expr (ex_m PySem.F.plainAttrs_list PySem.F.slot_list_append PySem.F.type_list_append me_append (xv 6) (ea_cons (xv 4) ea_nil)))) (sx_one (sx_expr (ex_m PySem.F.plainAttrs_list PySem.F.slot_list_append PySem.F.type_list_append me_append (xv 6) (ea_cons (xv 5) ea_nil)))))))
    (sx_one (sx_ret (ex_callT c_tuple (by rfl) z_tuple bt_tuple (ea_cons (xv 6) ea_nil))))))))
def N_spin_row : List PySem.Str := ["many", "value", "p", "q"]
theorem sc_spin_row : FnScope N_spin_row ["many", "value", "p", "q"] (defScope s_spin_row) := ⟨rfl, rfl, rfl, by decide +kernel, rfl, by decide +kernel, by decide +kernel⟩
def m_spin_row (f_lowest : FM) (f_spin_chances : FM) : SM := (sRet (eCall 1 f_lowest (aCons (eCall 4 f_spin_chances (aCons (eVar 0) (aCons (eVar 1) (aCons (eVar 2) (aCons (eVar 3) aNil))))) aNil)))
theorem ok_spin_row {P : Program} {w : World} {K : PySem.W.Frag} {mg : PySem.Str → Option Value} {base : Heap} {f : Addr} {fd : FuncData} {f_lowest f_spin_chances : FM} (F : FnP K "spin_row" s_spin_row f fd) (gx : mg "spin_row" = some (.ref f)) (c_lowest : Cal P w K mg base "lowest" 2 ["row"] f_lowest) (c_spin_chances : Cal P w K mg base "spin_chances" 4 ["many", "value", "p", "q"] f_spin_chances) :
    Cal P w K mg base "spin_row" 5 ["many", "value", "p", "q"] (runB 4 (m_spin_row f_lowest f_spin_chances)) :=
  cal_mk (k := 4) F sc_spin_row gx (fun _ _ _ _ _ _ us hl => match us, hl with | [_, _, _, _], _ => rfl) fun cdv A outer s H E hr tk hp =>
    (sx_one (sx_ret (ex_c1 c_lowest tk hr (by decide) (ea_cons (ex_c1 c_spin_chances tk hr (by decide) (ea_cons (xv 0) (ea_cons (xv 1) (ea_cons (xv 2) (ea_cons (xv 3) ea_nil))))) ea_nil))))
def N_spin_rows : List PySem.Str := ["many", "p", "q", "value"]
theorem sc_spin_rows : FnScope N_spin_rows ["many", "p", "q"] (defScope s_spin_rows) := ⟨rfl, rfl, rfl, by decide +kernel, rfl, by decide +kernel, by decide +kernel⟩
def m_spin_rows (f_spin_row : FM) : SM := (sRet (eCS gTuple (lComp [3] (iRg1 (eVar 0)) (gN 3) tYes (eCall 4 f_spin_row (aCons (eVar 0) (aCons (eVar 3) (aCons (eVar 1) (aCons (eVar 2) aNil))))))))
theorem ok_spin_rows {P : Program} {w : World} {K : PySem.W.Frag} {mg : PySem.Str → Option Value} {base : Heap} {f : Addr} {fd : FuncData} {f_spin_row : FM} (F : FnP K "spin_rows" s_spin_rows f fd) (gx : mg "spin_rows" = some (.ref f)) (c_spin_row : Cal P w K mg base "spin_row" 5 ["many", "value", "p", "q"] f_spin_row) (z_range : mg "range" = none) (z_tuple : mg "tuple" = none) :
    Cal P w K mg base "spin_rows" 6 ["many", "p", "q"] (runB 4 (m_spin_rows f_spin_row)) :=
  cal_mk (k := 5) F sc_spin_rows gx (fun _ _ _ _ _ _ us hl => match us, hl with | [_, _, _], _ => rfl) fun cdv A outer s H E hr tk hp =>
    (sx_one (sx_ret (ex_callTs s_tuple (by rfl) z_tuple bt_tuple (es_el (el_comp (own := [(("value" : PySem.Str), 3)]) (by rfl) sc_spin_rows.nd (ei_range1 (by rfl) z_range (xv 0)) (blkOk_by (N := N_spin_rows) (sc := (defScope s_spin_rows)) (by decide +kernel)) (fun _ _ _ _ _ => (eg_name sc_spin_rows.nd)) (fun _ _ _ _ _ => ets_nil) (fun _ _ _ _ _ => (ex_c1 c_spin_row tk0 hr (by decide) (ea_cons (xv 0) (ea_cons (xv 3) (ea_cons (xv 1) (ea_cons (xv 2) ea_nil)))))))))))
def N__law_begin : List PySem.Str := ["script", "cell"]
theorem sc__law_begin : FnScope N__law_begin ["script"] (defScope s__law_begin) := ⟨rfl, rfl, rfl, by decide +kernel, rfl, by decide +kernel, by decide +kernel⟩
def m__law_begin : SM := (sRet (eLst (aCons (eEl (lComp [1] (iEx (eVar 0)) (gN 1) tYes (eCB fInt (aCons (eVar 1) aNil)))) (aCons (eC (.int 0)) (aCons (eC (.int 0)) (aCons (eC (.int 7)) aNil))))))
theorem ok__law_begin {P : Program} {w : World} {K : PySem.W.Frag} {mg : PySem.Str → Option Value} {base : Heap} {f : Addr} {fd : FuncData} (F : FnP K "_law_begin" s__law_begin f fd) (gx : mg "_law_begin" = some (.ref f)) (z_int : mg "int" = none) :
    Cal P w K mg base "_law_begin" 1 ["script"] (runB 2 (m__law_begin)) :=
  cal_mk (k := 0) F sc__law_begin gx (fun _ _ _ _ _ _ us hl => match us, hl with | [_], _ => rfl) fun cdv A outer s H E hr tk hp =>
    (sx_one (sx_ret (ex_lst (ea_cons (ex_el (el_comp (own := [(("cell" : PySem.Str), 1)]) (by rfl) sc__law_begin.nd (ei_ex (xv 0)) (blkOk_by (N := N__law_begin) (sc := (defScope s__law_begin)) (by decide +kernel)) (fun _ _ _ _ _ => (eg_name sc__law_begin.nd)) (fun _ _ _ _ _ => ets_nil) (fun _ _ _ _ _ => (ex_callT c_int (by rfl) z_int bt_int (ea_cons (xv 1) ea_nil))))) (ea_cons ex_int (ea_cons ex_int (ea_cons ex_int ea_nil)))))))
def N__law_draw : List PySem.Str := ["d", "many", "found", "size", "cell"]
theorem sc__law_draw : FnScope N__law_draw ["d", "many"] (defScope s__law_draw) := ⟨rfl, rfl, rfl, by decide +kernel, rfl, by decide +kernel, by decide +kernel⟩
def m__law_draw : SM := (sSeq (sIf (tBl (eBin oGt (eBin oIx (eVar 0) (eC (.int 2))) (eC (.int 0)))) (sSeq (sSet 2 (eBin oIx (eVar 0) (eC (.int 2))))
    (sSeq (sSub (eVar 0) (eC (.int 2)) (eBin oDiv (eVar 2) (eVar 1)))
    (sRet (eBin oMod (eCB fInt (aCons (eVar 2) aNil)) (eVar 1))))) sNil)
    (sSeq (sSet 3 (eC (.int 0)))
    (sSeq (sIf (tBl (eBin oLt (eBin oIx (eVar 0) (eC (.int 1))) (eCB fLen (aCons (eBin oIx (eVar 0) (eC (.int 0))) aNil)))) (sSeq (sSet 4 (eBin oIx (eBin oIx (eVar 0) (eC (.int 0))) (eBin oIx (eVar 0) (eC (.int 1)))))
    (sSet 3 (eBin oAdd (eBin oMul (eC (.int 2)) (eCB fAbs (aCons (eVar 4) aNil))) (eCB fInt (aCons (eBin oLt (eVar 4) (eC (.int 0))) aNil))))) sNil)
    (sSeq (sAugS oIAdd (eVar 0) (eC (.int 1)) (eC (.int 1)))
    (sSeq (sIf (tBl (eBin oGe (eVar 3) (eBin oMul (eC (.int 2)) (eBin oPow (eC (.int 10)) (eC (.int 18)))))) (sSeq (sSet 2 (eBin oMod (eCB fInt (aCons (eBin oDiv (eVar 3) (eC (.int 2))) aNil)) (eBin oShl (eC (.int 1)) (eC (.int 6000)))))
    (sSeq (sSub (eVar 0) (eC (.int 2)) (eBin oDiv (eVar 2) (eVar 1)))
    (sRet (eBin oMod (eCB fInt (aCons (eVar 2) aNil)) (eVar 1))))) sNil)
    (sSeq (sSub (eVar 0) (eC (.int 3)) (eBin oMod (eCB fInt (aCons (eBin oAdd (eBin oAdd (eBin oAdd (eBin oMul (eBin oIx (eVar 0) (eC (.int 3))) (eC (.int 48271))) (eBin oMul (eBin oMod (eCB fInt (aCons (eVar 3) aNil)) (eC (.int 2147483629))) (eC (.int 16807)))) (eBin oMul (eBin oIx (eVar 0) (eC (.int 1))) (eC (.int 69621)))) (eC (.int 11))) aNil)) (eC (.int 2147483647))))
    (sRet (eBin oMod (eCB fInt (aCons (eBin oDiv (eBin oIx (eVar 0) (eC (.int 3))) (eC (.int 16))) aNil)) (eVar 1)))))))))
theorem ok__law_draw {P : Program} {w : World} {K : PySem.W.Frag} {mg : PySem.Str → Option Value} {base : Heap} {f : Addr} {fd : FuncData} (F : FnP K "_law_draw" s__law_draw f fd) (gx : mg "_law_draw" = some (.ref f)) (z_int : mg "int" = none) (z_len : mg "len" = none) (z_abs : mg "abs" = none) :
    Cal P w K mg base "_law_draw" 1 ["d", "many"] (runB 5 (m__law_draw)) :=
  cal_mk (k := 0) F sc__law_draw gx (fun _ _ _ _ _ _ us hl => match us, hl with | [_, _], _ => rfl) fun cdv A outer s H E hr tk hp =>
    (sx_cons (sx_if (et_cmp m_gt (ex_ix m_ix (xv 0) ex_int) ex_int (nomark _)) (sx_cons (sx_set sc__law_draw.nd (ex_ix m_ix (xv 0) ex_int))
    (sx_cons (sx_sub (ex_op m_div (xv 2) (xv 1)) (xv 0) ex_int)
    (sx_one (sx_ret (ex_op m_mod (ex_callT c_int (by rfl) z_int bt_int (ea_cons (xv 2) ea_nil)) (xv 1)))))) sx_nil)
    (sx_cons (sx_set sc__law_draw.nd ex_int)
    (sx_cons (sx_if (et_cmp m_lt (ex_ix m_ix (xv 0) ex_int) (ex_callB c_len (by rfl) z_len bt_len (ea_cons (ex_ix m_ix (xv 0) ex_int) ea_nil)) (nomark _)) (sx_cons (sx_set sc__law_draw.nd (ex_ix m_ix (ex_ix m_ix (xv 0) ex_int) (ex_ix m_ix (xv 0) ex_int)))
    (sx_one (sx_set sc__law_draw.nd (ex_op m_add (ex_op m_mul ex_int (ex_callB c_abs (by rfl) z_abs bt_abs (ea_cons (xv 4) ea_nil))) (ex_callT c_int (by rfl) z_int bt_int (ea_cons (ex_cmp m_lt (xv 4) ex_int (nomark _)) ea_nil)))))) sx_nil)
    (sx_cons (sx_augS (xv 0) ex_int ex_int mi_add)
    (sx_cons (sx_if (et_cmp m_ge (xv 3) (ex_op m_mul ex_int (ex_op m_pow ex_int ex_int)) (nomark _)) (sx_cons (sx_set sc__law_draw.nd (ex_op m_mod (ex_callT c_int (by rfl) z_int bt_int (ea_cons (ex_op m_div (xv 3) ex_int) ea_nil)) (ex_op m_shl ex_int ex_int)))
    (sx_cons (sx_sub (ex_op m_div (xv 2) (xv 1)) (xv 0) ex_int)
    (sx_one (sx_ret (ex_op m_mod (ex_callT c_int (by rfl) z_int bt_int (ea_cons (xv 2) ea_nil)) (xv 1)))))) sx_nil)
    (sx_cons (sx_sub (ex_op m_mod (ex_callT c_int (by rfl) z_int bt_int (ea_cons (ex_op m_add (ex_op m_add (ex_op m_add (ex_op m_mul (ex_ix m_ix (xv 0) ex_int) ex_int) (ex_op m_mul (ex_op m_mod (ex_callT c_int (by rfl) z_int bt_int (ea_cons (xv 3) ea_nil)) ex_int) ex_int)) (ex_op m_mul (ex_ix m_ix (xv 0) ex_int) ex_int)) ex_int) ea_nil)) ex_int) (xv 0) ex_int)
    (sx_one (sx_ret (ex_op m_mod (ex_callT c_int (by rfl) z_int bt_int (ea_cons (ex_op m_div (ex_ix m_ix (xv 0) ex_int) ex_int) ea_nil)) (xv 1))))))))))
def N__law_is_int : List PySem.Str := ["thing"]
theorem sc__law_is_int : FnScope N__law_is_int ["thing"] (defScope s__law_is_int) := ⟨rfl, rfl, rfl, by decide +kernel, rfl, by decide +kernel, by decide +kernel⟩
def m__law_is_int : SM := (sRet (eAnd (eCB fIsi (aCons (eVar 0) (aCons (eC (.ty "int")) aNil))) (eNot (eCB fIsi (aCons (eVar 0) (aCons (eC (.ty "bool")) aNil))))))
theorem ok__law_is_int {P : Program} {w : World} {K : PySem.W.Frag} {mg : PySem.Str → Option Value} {base : Heap} {f : Addr} {fd : FuncData} (F : FnP K "_law_is_int" s__law_is_int f fd) (gx : mg "_law_is_int" = some (.ref f)) (z_int : mg "int" = none) (z_isinstance : mg "isinstance" = none) (z_bool : mg "bool" = none) :
    Cal P w K mg base "_law_is_int" 1 ["thing"] (runB 1 (m__law_is_int)) :=
  cal_mk (k := 0) F sc__law_is_int gx (fun _ _ _ _ _ _ us hl => match us, hl with | [_], _ => rfl) fun cdv A outer s H E hr tk hp =>
    (sx_one (sx_ret (ex_and (ex_callB c_isi (by rfl) z_isinstance bt_isinstance (ea_cons (xv 0) (ea_cons (ex_bltn (by rfl) z_int bt_int (by rfl) (fun _ _ => .ty _)) ea_nil))) (ex_one (ex_not (ex_callB c_isi (by rfl) z_isinstance bt_isinstance (ea_cons (xv 0) (ea_cons (ex_bltn (by rfl) z_bool bt_bool (by rfl) (fun _ _ => .ty _)) ea_nil))))))))
def N__law_is_ints : List PySem.Str := ["row", "part"]
theorem sc__law_is_ints : FnScope N__law_is_ints ["row"] (defScope s__law_is_ints) := ⟨rfl, rfl, rfl, by decide +kernel, rfl, by decide +kernel, by decide +kernel⟩
def m__law_is_ints (f__law_is_int : FM) : SM := (sRet (eAnd (eCB fIsi (aCons (eVar 0) (aCons (eC (.ty "tuple")) aNil))) (eCS gAllB (lComp [1] (iEx (eVar 0)) (gN 1) tYes (eCall 1 f__law_is_int (aCons (eVar 1) aNil))))))
theorem ok__law_is_ints {P : Program} {w : World} {K : PySem.W.Frag} {mg : PySem.Str → Option Value} {base : Heap} {f : Addr} {fd : FuncData} {f__law_is_int : FM} (F : FnP K "_law_is_ints" s__law_is_ints f fd) (gx : mg "_law_is_ints" = some (.ref f)) (c__law_is_int : Cal P w K mg base "_law_is_int" 1 ["thing"] f__law_is_int) (z_tuple : mg "tuple" = none) (z_isinstance : mg "isinstance" = none) (z_all : mg "all" = none) :
    Cal P w K mg base "_law_is_ints" 2 ["row"] (runB 2 (m__law_is_ints f__law_is_int)) :=
  cal_mk (k := 1) F sc__law_is_ints gx (fun _ _ _ _ _ _ us hl => match us, hl with | [_], _ => rfl) fun cdv A outer s H E hr tk hp =>
    (sx_one (sx_ret (ex_and (ex_callB c_isi (by rfl) z_isinstance bt_isinstance (ea_cons (xv 0) (ea_cons (ex_bltn (by rfl) z_tuple bt_tuple (by rfl) (fun _ _ => .ty _)) ea_nil))) (ex_one (ex_callBl (s_all (by rfl)) (by rfl) z_all bt_all (esl_el (el_comp (own := [(("part" : PySem.Str), 1)]) (by rfl) sc__law_is_ints.nd (ei_ex (xv 0)) (blkOk_by (N := N__law_is_ints) (sc := (defScope s__law_is_ints)) (by decide +kernel)) (fun _ _ _ _ _ => (eg_name sc__law_is_ints.nd)) (fun _ _ _ _ _ => ets_nil) (fun _ _ _ _ _ => (ex_c1 c__law_is_int tk0 hr (by decide) (ea_cons (xv 1) ea_nil))))))))))
def N__law_gcd : List PySem.Str := ["left", "right", "a", "b", "c"]
theorem sc__law_gcd : FnScope N__law_gcd ["left", "right"] (defScope s__law_gcd) := ⟨rfl, rfl, rfl, by decide +kernel, rfl, by decide +kernel, by decide +kernel⟩
def m__law_gcd : SM := (sSeq (sSet 2 (eCB fAbs (aCons (eVar 0) aNil)))
    (sSeq (sSet 3 (eCB fAbs (aCons (eVar 1) aNil)))
    (sSeq (whileN (tBl (eBin oGt (eVar 3) (eC (.int 0)))) (sSeq (sSet 4 (eBin oMod (eCB fInt (aCons (eVar 2) aNil)) (eVar 3)))
    (sSeq (sSet 2 (eVar 3))
    (sSet 3 (eVar 4)))) big)
    (sRet (eVar 2)))))
theorem ok__law_gcd {P : Program} {w : World} {K : PySem.W.Frag} {mg : PySem.Str → Option Value} {base : Heap} {f : Addr} {fd : FuncData} (F : FnP K "_law_gcd" s__law_gcd f fd) (gx : mg "_law_gcd" = some (.ref f)) (z_abs : mg "abs" = none) (z_int : mg "int" = none) :
    Cal P w K mg base "_law_gcd" 1 ["left", "right"] (runB 5 (m__law_gcd)) :=
  cal_mk (k := 0) F sc__law_gcd gx (fun _ _ _ _ _ _ us hl => match us, hl with | [_, _], _ => rfl) fun cdv A outer s H E hr tk hp =>
    (sx_cons (sx_set sc__law_gcd.nd (ex_callB c_abs (by rfl) z_abs bt_abs (ea_cons (xv 0) ea_nil)))
    (sx_cons (sx_set sc__law_gcd.nd (ex_callB c_abs (by rfl) z_abs bt_abs (ea_cons (xv 1) ea_nil)))
    (sx_cons (sx_while big hp (et_cmp m_gt (xv 3) ex_int (nomark _)) (sx_cons (sx_set sc__law_gcd.nd (ex_op m_mod (ex_callT c_int (by rfl) z_int bt_int (ea_cons (xv 2) ea_nil)) (xv 3)))
    (sx_cons (sx_set sc__law_gcd.nd (xv 3))
    (sx_one (sx_set sc__law_gcd.nd (xv 4))))))
    (sx_one (sx_ret (xv 2))))))
def N__law_f : List PySem.Str := ["n", "d", "common"]
theorem sc__law_f : FnScope N__law_f ["n", "d"] (defScope s__law_f) := ⟨rfl, rfl, rfl, by decide +kernel, rfl, by decide +kernel, by decide +kernel⟩
def m__law_f (f__law_gcd : FM) : SM := (sSeq (sSet 2 (eCall 2 f__law_gcd (aCons (eVar 0) (aCons (eVar 1) aNil))))
    (sSeq (sIf (tBl (eBin oLt (eVar 1) (eC (.int 0)))) (sSet 2 (eUn oNeg (eVar 2))) sNil)
    (sRet (eTup (aCons (eBin oDiv (eVar 0) (eVar 2)) (aCons (eBin oDiv (eVar 1) (eVar 2)) aNil))))))
theorem ok__law_f {P : Program} {w : World} {K : PySem.W.Frag} {mg : PySem.Str → Option Value} {base : Heap} {f : Addr} {fd : FuncData} {f__law_gcd : FM} (F : FnP K "_law_f" s__law_f f fd) (gx : mg "_law_f" = some (.ref f)) (c__law_gcd : Cal P w K mg base "_law_gcd" 1 ["left", "right"] f__law_gcd) :
    Cal P w K mg base "_law_f" 2 ["n", "d"] (runB 3 (m__law_f f__law_gcd)) :=
  cal_mk (k := 1) F sc__law_f gx (fun _ _ _ _ _ _ us hl => match us, hl with | [_, _], _ => rfl) fun cdv A outer s H E hr tk hp =>
    (sx_cons (sx_set sc__law_f.nd (ex_c1 c__law_gcd tk hr (by decide) (ea_cons (xv 0) (ea_cons (xv 1) ea_nil))))
    (sx_cons (sx_if (et_cmp m_lt (xv 1) ex_int (nomark _)) (sx_one (sx_set sc__law_f.nd (ex_un m_neg (xv 2)))) sx_nil)
    (sx_one (sx_ret (ex_tup (ea_cons (ex_op m_div (xv 0) (xv 2)) (ea_cons (ex_op m_div (xv 1) (xv 2)) ea_nil)))))))
def N__law_less : List PySem.Str := ["x", "y"]
theorem sc__law_less : FnScope N__law_less ["x", "y"] (defScope s__law_less) := ⟨rfl, rfl, rfl, by decide +kernel, rfl, by decide +kernel, by decide +kernel⟩
def m__law_less : SM := (sRet (eBin oLt (eBin oMul (eBin oIx (eVar 0) (eC (.int 0))) (eBin oIx (eVar 1) (eC (.int 1)))) (eBin oMul (eBin oIx (eVar 1) (eC (.int 0))) (eBin oIx (eVar 0) (eC (.int 1))))))
theorem ok__law_less {P : Program} {w : World} {K : PySem.W.Frag} {mg : PySem.Str → Option Value} {base : Heap} {f : Addr} {fd : FuncData} (F : FnP K "_law_less" s__law_less f fd) (gx : mg "_law_less" = some (.ref f))  :
    Cal P w K mg base "_law_less" 1 ["x", "y"] (runB 2 (m__law_less)) :=
  cal_mk (k := 0) F sc__law_less gx (fun _ _ _ _ _ _ us hl => match us, hl with | [_, _], _ => rfl) fun cdv A outer s H E hr tk hp =>
    (sx_one (sx_ret (ex_cmp m_lt (ex_op m_mul (ex_ix m_ix (xv 0) ex_int) (ex_ix m_ix (xv 1) ex_int)) (ex_op m_mul (ex_ix m_ix (xv 1) ex_int) (ex_ix m_ix (xv 0) ex_int)) (nomark _))))
def N__law_great : List PySem.Str := ["row", "found", "part"]
theorem sc__law_great : FnScope N__law_great ["row"] (defScope s__law_great) := ⟨rfl, rfl, rfl, by decide +kernel, rfl, by decide +kernel, by decide +kernel⟩
def m__law_great (f__law_less : FM) : SM := (sSeq (sSet 1 (eBin oIx (eVar 0) (eC (.int 0))))
    (sSeq (sFor (iEx (eVar 0)) (gN 2) (sIf (tVal (eCall 2 f__law_less (aCons (eVar 1) (aCons (eVar 2) aNil)))) (sSet 1 (eVar 2)) sNil))
    (sRet (eVar 1))))
theorem ok__law_great {P : Program} {w : World} {K : PySem.W.Frag} {mg : PySem.Str → Option Value} {base : Heap} {f : Addr} {fd : FuncData} {f__law_less : FM} (F : FnP K "_law_great" s__law_great f fd) (gx : mg "_law_great" = some (.ref f)) (c__law_less : Cal P w K mg base "_law_less" 1 ["x", "y"] f__law_less) :
    Cal P w K mg base "_law_great" 2 ["row"] (runB 3 (m__law_great f__law_less)) :=
  cal_mk (k := 1) F sc__law_great gx (fun _ _ _ _ _ _ us hl => match us, hl with | [_], _ => rfl) fun cdv A outer s H E hr tk hp =>
    (sx_cons (sx_set sc__law_great.nd (ex_ix m_ix (xv 0) ex_int))
    (sx_cons (sx_for hp (by rfl) (ei_ex (xv 0)) (eg_name sc__law_great.nd) (sx_one (sx_if (et_val (ex_c1 c__law_less tk hr (by decide) (ea_cons (xv 1) (ea_cons (xv 2) ea_nil)))) (sx_one (sx_set sc__law_great.nd (xv 2))) sx_nil)))
    (sx_one (sx_ret (xv 1)))))
def N__law_is_frac : List PySem.Str := ["thing"]
theorem sc__law_is_frac : FnScope N__law_is_frac ["thing"] (defScope s__law_is_frac) := ⟨rfl, rfl, rfl, by decide +kernel, rfl, by decide +kernel, by decide +kernel⟩
def m__law_is_frac (f__law_is_int : FM) (f__law_gcd : FM) : SM := (sSeq (sIf (tOr (HM.tNot (tVal (eCB fIsi (aCons (eVar 0) (aCons (eC (.ty "tuple")) aNil))))) (tBl (eBin oNe (eCB fLen (aCons (eVar 0) aNil)) (eC (.int 2))))) (sRet (eC (.bl false))) sNil)
    (sSeq (sIf (tOr (HM.tNot (tVal (eCall 1 f__law_is_int (aCons (eBin oIx (eVar 0) (eC (.int 0))) aNil)))) (HM.tNot (tVal (eCall 1 f__law_is_int (aCons (eBin oIx (eVar 0) (eC (.int 1))) aNil))))) (sRet (eC (.bl false))) sNil)
    (sRet (eAnd (eBin oGe (eBin oIx (eVar 0) (eC (.int 1))) (eC (.int 1))) (eBin oEq (eCall 2 f__law_gcd (aCons (eBin oIx (eVar 0) (eC (.int 0))) (aCons (eBin oIx (eVar 0) (eC (.int 1))) aNil))) (eC (.int 1)))))))
theorem ok__law_is_frac {P : Program} {w : World} {K : PySem.W.Frag} {mg : PySem.Str → Option Value} {base : Heap} {f : Addr} {fd : FuncData} {f__law_is_int f__law_gcd : FM} (F : FnP K "_law_is_frac" s__law_is_frac f fd) (gx : mg "_law_is_frac" = some (.ref f)) (c__law_is_int : Cal P w K mg base "_law_is_int" 1 ["thing"] f__law_is_int) (c__law_gcd : Cal P w K mg base "_law_gcd" 1 ["left", "right"] f__law_gcd) (z_tuple : mg "tuple" = none) (z_isinstance : mg "isinstance" = none) (z_len : mg "len" = none) :
    Cal P w K mg base "_law_is_frac" 2 ["thing"] (runB 1 (m__law_is_frac f__law_is_int f__law_gcd)) :=
  cal_mk (k := 1) F sc__law_is_frac gx (fun _ _ _ _ _ _ us hl => match us, hl with | [_], _ => rfl) fun cdv A outer s H E hr tk hp =>
    (sx_cons (sx_if (Ew.et (ew_or (et_not (et_val (ex_callB c_isi (by rfl) z_isinstance bt_isinstance (ea_cons (xv 0) (ea_cons (ex_bltn (by rfl) z_tuple bt_tuple (by rfl) (fun _ _ => .ty _)) ea_nil))))) (ew_or1 (et_cmp (m_ne hr.units) (ex_callB c_len (by rfl) z_len bt_len (ea_cons (xv 0) ea_nil)) ex_int (nomark _))))) (sx_one (sx_ret ex_bl)) sx_nil)
    (sx_cons (sx_if (Ew.et (ew_or (et_not (et_val (ex_c1 c__law_is_int tk hr (by decide) (ea_cons (ex_ix m_ix (xv 0) ex_int) ea_nil)))) (ew_or1 (et_not (et_val (ex_c1 c__law_is_int tk hr (by decide) (ea_cons (ex_ix m_ix (xv 0) ex_int) ea_nil))))))) (sx_one (sx_ret ex_bl)) sx_nil)
    (sx_one (sx_ret (ex_and (ex_cmp m_ge (ex_ix m_ix (xv 0) ex_int) ex_int (nomark _)) (ex_one (ex_cmp (m_eq hr.units) (ex_c1 c__law_gcd tk hr (by decide) (ea_cons (ex_ix m_ix (xv 0) ex_int) (ea_cons (ex_ix m_ix (xv 0) ex_int) ea_nil))) ex_int (nomark _))))))))
def N__law_is_ratio : List PySem.Str := ["thing"]
theorem sc__law_is_ratio : FnScope N__law_is_ratio ["thing"] (defScope s__law_is_ratio) := ⟨rfl, rfl, rfl, by decide +kernel, rfl, by decide +kernel, by decide +kernel⟩
def m__law_is_ratio (f__law_is_frac : FM) : SM := (sRet (eAnd (eCall 1 f__law_is_frac (aCons (eVar 0) aNil)) (eBin oGe (eBin oIx (eVar 0) (eC (.int 0))) (eC (.int 0)))))
theorem ok__law_is_ratio {P : Program} {w : World} {K : PySem.W.Frag} {mg : PySem.Str → Option Value} {base : Heap} {f : Addr} {fd : FuncData} {f__law_is_frac : FM} (F : FnP K "_law_is_ratio" s__law_is_ratio f fd) (gx : mg "_law_is_ratio" = some (.ref f)) (c__law_is_frac : Cal P w K mg base "_law_is_frac" 2 ["thing"] f__law_is_frac) :
    Cal P w K mg base "_law_is_ratio" 3 ["thing"] (runB 1 (m__law_is_ratio f__law_is_frac)) :=
  cal_mk (k := 2) F sc__law_is_ratio gx (fun _ _ _ _ _ _ us hl => match us, hl with | [_], _ => rfl) fun cdv A outer s H E hr tk hp =>
    (sx_one (sx_ret (ex_and (ex_c1 c__law_is_frac tk hr (by decide) (ea_cons (xv 0) ea_nil)) (ex_one (ex_cmp m_ge (ex_ix m_ix (xv 0) ex_int) ex_int (nomark _))))))
def N__law_powers : List PySem.Str := ["base", "most", "found", "k"]
theorem sc__law_powers : FnScope N__law_powers ["base", "most"] (defScope s__law_powers) := ⟨rfl, rfl, rfl, by decide +kernel, rfl, by decide +kernel, by decide +kernel⟩
def m__law_powers : SM := (sSeq (sSet 2 (eLst (aCons (eC (.int 1)) aNil)))
    (sSeq (sFor (iRg1 (eVar 1)) (gN 3) (sExpr (eM "list" mAppend (eVar 2) (aCons (eBin oMul (eBin oIx (eVar 2) (eVar 3)) (eVar 0)) aNil))))
    (sRet (eVar 2))))
theorem ok__law_powers {P : Program} {w : World} {K : PySem.W.Frag} {mg : PySem.Str → Option Value} {base : Heap} {f : Addr} {fd : FuncData} (F : FnP K "_law_powers" s__law_powers f fd) (gx : mg "_law_powers" = some (.ref f)) (z_range : mg "range" = none) :
    Cal P w K mg base "_law_powers" 1 ["base", "most"] (runB 4 (m__law_powers)) :=
  cal_mk (k := 0) F sc__law_powers gx (fun _ _ _ _ _ _ us hl => match us, hl with | [_, _], _ => rfl) fun cdv A outer s H E hr tk hp =>
    (sx_cons (sx_set sc__law_powers.nd (ex_lst (ea_cons ex_int ea_nil)))
    (sx_cons (sx_for hp (by rfl) (ei_range1 (by rfl) z_range (xv 1)) (eg_name sc__law_powers.nd) (sx_one (sx_expr (ex_m PySem.F.plainAttrs_list PySem.F.slot_list_append PySem.F.type_list_append me_append (xv 2) (ea_cons (ex_op m_mul (ex_ix m_ix (xv 2) (xv 3)) (xv 0)) ea_nil)))))
    (sx_one (sx_ret (xv 2)))))
def N__law_part : List PySem.Str := ["d", "q", "p"]
theorem sc__law_part : FnScope N__law_part ["d"] (defScope s__law_part) := ⟨rfl, rfl, rfl, by decide +kernel, rfl, by decide +kernel, by decide +kernel⟩
def m__law_part (f__law_draw : FM) : SM := (sSeq (sSet 1 (eBin oAdd (eC (.int 1)) (eCall 2 f__law_draw (aCons (eVar 0) (aCons (eIf (tBl (eBin oEq (eCall 2 f__law_draw (aCons (eVar 0) (aCons (eC (.int 4)) aNil))) (eC (.int 1)))) (eC (.int 1000)) (eC (.int 9))) aNil)))))
    (sSeq (sSet 2 (eBin oAdd (eC (.int 1)) (eCall 2 f__law_draw (aCons (eVar 0) (aCons (eVar 1) aNil)))))
    (sSeq (sIf (tBl (eBin oEq (eCall 2 f__law_draw (aCons (eVar 0) (aCons (eC (.int 6)) aNil))) (eC (.int 1)))) (sSet 2 (eVar 1)) sNil)
    (sRet (eTup (aCons (eVar 2) (aCons (eVar 1) aNil)))))))
theorem ok__law_part {P : Program} {w : World} {K : PySem.W.Frag} {mg : PySem.Str → Option Value} {base : Heap} {f : Addr} {fd : FuncData} {f__law_draw : FM} (F : FnP K "_law_part" s__law_part f fd) (gx : mg "_law_part" = some (.ref f)) (c__law_draw : Cal P w K mg base "_law_draw" 1 ["d", "many"] f__law_draw) :
    Cal P w K mg base "_law_part" 2 ["d"] (runB 3 (m__law_part f__law_draw)) :=
  cal_mk (k := 1) F sc__law_part gx (fun _ _ _ _ _ _ us hl => match us, hl with | [_], _ => rfl) fun cdv A outer s H E hr tk hp =>
    (sx_cons (sx_set sc__law_part.nd (ex_op m_add ex_int (ex_c1 c__law_draw tk hr (by decide) (ea_cons (xv 0) (ea_cons (ex_if (et_cmp (m_eq hr.units) (ex_c1 c__law_draw tk hr (by decide) (ea_cons (xv 0) (ea_cons ex_int ea_nil))) ex_int (nomark _)) ex_int ex_int) ea_nil)))))
    (sx_cons (sx_set sc__law_part.nd (ex_op m_add ex_int (ex_c1 c__law_draw tk hr (by decide) (ea_cons (xv 0) (ea_cons (xv 1) ea_nil)))))
    (sx_cons (sx_if (et_cmp (m_eq hr.units) (ex_c1 c__law_draw tk hr (by decide) (ea_cons (xv 0) (ea_cons ex_int ea_nil))) ex_int (nomark _)) (sx_one (sx_set sc__law_part.nd (xv 1))) sx_nil)
    (sx_one (sx_ret (ex_tup (ea_cons (xv 2) (ea_cons (xv 1) ea_nil))))))))
def N__law_base : List PySem.Str := ["d", "p"]
theorem sc__law_base : FnScope N__law_base ["d"] (defScope s__law_base) := ⟨rfl, rfl, rfl, by decide +kernel, rfl, by decide +kernel, by decide +kernel⟩
def m__law_base (f__law_draw : FM) : SM := (sSeq (sSet 1 (eBin oAdd (eC (.int 1)) (eCall 2 f__law_draw (aCons (eVar 0) (aCons (eIf (tBl (eBin oEq (eCall 2 f__law_draw (aCons (eVar 0) (aCons (eC (.int 4)) aNil))) (eC (.int 1)))) (eC (.int 1000)) (eC (.int 9))) aNil)))))
    (sRet (eTup (aCons (eVar 1) (aCons (eBin oAdd (eC (.int 1)) (eCall 2 f__law_draw (aCons (eVar 0) (aCons (eVar 1) aNil)))) aNil)))))
theorem ok__law_base {P : Program} {w : World} {K : PySem.W.Frag} {mg : PySem.Str → Option Value} {base : Heap} {f : Addr} {fd : FuncData} {f__law_draw : FM} (F : FnP K "_law_base" s__law_base f fd) (gx : mg "_law_base" = some (.ref f)) (c__law_draw : Cal P w K mg base "_law_draw" 1 ["d", "many"] f__law_draw) :
    Cal P w K mg base "_law_base" 2 ["d"] (runB 2 (m__law_base f__law_draw)) :=
  cal_mk (k := 1) F sc__law_base gx (fun _ _ _ _ _ _ us hl => match us, hl with | [_], _ => rfl) fun cdv A outer s H E hr tk hp =>
    (sx_cons (sx_set sc__law_base.nd (ex_op m_add ex_int (ex_c1 c__law_draw tk hr (by decide) (ea_cons (xv 0) (ea_cons (ex_if (et_cmp (m_eq hr.units) (ex_c1 c__law_draw tk hr (by decide) (ea_cons (xv 0) (ea_cons ex_int ea_nil))) ex_int (nomark _)) ex_int ex_int) ea_nil)))))
    (sx_one (sx_ret (ex_tup (ea_cons (xv 1) (ea_cons (ex_op m_add ex_int (ex_c1 c__law_draw tk hr (by decide) (ea_cons (xv 0) (ea_cons (xv 1) ea_nil)))) ea_nil))))))
def N__law_is_lowest : List PySem.Str := ["row", "size", "common", "weight"]
theorem sc__law_is_lowest : FnScope N__law_is_lowest ["row", "size"] (defScope s__law_is_lowest) := ⟨rfl, rfl, rfl, by decide +kernel, rfl, by decide +kernel, by decide +kernel⟩
def m__law_is_lowest (f__law_is_ints : FM) (f__law_gcd : FM) : SM := (sSeq (sIf (tOr (HM.tNot (tVal (eCall 1 f__law_is_ints (aCons (eVar 0) aNil)))) (tBl (eBin oNe (eCB fLen (aCons (eVar 0) aNil)) (eVar 1)))) (sRet (eC (.bl false))) sNil)
    (sSeq (sSet 2 (eC (.int 0)))
    (sSeq (sFor (iEx (eVar 0)) (gN 3) (sSeq (sIf (tBl (eBin oLt (eVar 3) (eC (.int 0)))) (sRet (eC (.bl false))) sNil)
    (sSet 2 (eCall 2 f__law_gcd (aCons (eVar 2) (aCons (eVar 3) aNil))))))
    (sRet (eBin oEq (eVar 2) (eC (.int 1)))))))
theorem ok__law_is_lowest {P : Program} {w : World} {K : PySem.W.Frag} {mg : PySem.Str → Option Value} {base : Heap} {f : Addr} {fd : FuncData} {f__law_is_ints f__law_gcd : FM} (F : FnP K "_law_is_lowest" s__law_is_lowest f fd) (gx : mg "_law_is_lowest" = some (.ref f)) (c__law_is_ints : Cal P w K mg base "_law_is_ints" 2 ["row"] f__law_is_ints) (c__law_gcd : Cal P w K mg base "_law_gcd" 1 ["left", "right"] f__law_gcd) (z_len : mg "len" = none) :
    Cal P w K mg base "_law_is_lowest" 3 ["row", "size"] (runB 4 (m__law_is_lowest f__law_is_ints f__law_gcd)) :=
  cal_mk (k := 2) F sc__law_is_lowest gx (fun _ _ _ _ _ _ us hl => match us, hl with | [_, _], _ => rfl) fun cdv A outer s H E hr tk hp =>
    (sx_cons (sx_if (Ew.et (ew_or (et_not (et_val (ex_c1 c__law_is_ints tk hr (by decide) (ea_cons (xv 0) ea_nil)))) (ew_or1 (et_cmp (m_ne hr.units) (ex_callB c_len (by rfl) z_len bt_len (ea_cons (xv 0) ea_nil)) (xv 1) (nomark _))))) (sx_one (sx_ret ex_bl)) sx_nil)
    (sx_cons (sx_set sc__law_is_lowest.nd ex_int)
    (sx_cons (sx_for hp (by rfl) (ei_ex (xv 0)) (eg_name sc__law_is_lowest.nd) (sx_cons (sx_if (et_cmp m_lt (xv 3) ex_int (nomark _)) (sx_one (sx_ret ex_bl)) sx_nil)
    (sx_one (sx_set sc__law_is_lowest.nd (ex_c1 c__law_gcd tk hr (by decide) (ea_cons (xv 2) (ea_cons (xv 3) ea_nil)))))))
    (sx_one (sx_ret (ex_cmp (m_eq hr.units) (xv 2) ex_int (nomark _)))))))
def N__law_is_loss : List PySem.Str := ["found", "due"]
theorem sc__law_is_loss : FnScope N__law_is_loss ["found", "due"] (defScope s__law_is_loss) := ⟨rfl, rfl, rfl, by decide +kernel, rfl, by decide +kernel, by decide +kernel⟩
def m__law_is_loss (f__law_is_ratio : FM) : SM := (sSeq (sIf (tBl (eBin oIs (eVar 1) (eC .non))) (sRet (eBin oIs (eVar 0) (eC .non))) sNil)
    (sRet (eAnd (eCall 1 f__law_is_ratio (aCons (eVar 0) aNil)) (eBin oEq (eVar 0) (eVar 1)))))
theorem ok__law_is_loss {P : Program} {w : World} {K : PySem.W.Frag} {mg : PySem.Str → Option Value} {base : Heap} {f : Addr} {fd : FuncData} {f__law_is_ratio : FM} (F : FnP K "_law_is_loss" s__law_is_loss f fd) (gx : mg "_law_is_loss" = some (.ref f)) (c__law_is_ratio : Cal P w K mg base "_law_is_ratio" 3 ["thing"] f__law_is_ratio) :
    Cal P w K mg base "_law_is_loss" 4 ["found", "due"] (runB 2 (m__law_is_loss f__law_is_ratio)) :=
  cal_mk (k := 3) F sc__law_is_loss gx (fun _ _ _ _ _ _ us hl => match us, hl with | [_, _], _ => rfl) fun cdv A outer s H E hr tk hp =>
    (sx_cons (sx_if (et_cmp m_is (xv 1) ex_non (nomark _)) (sx_one (sx_ret (ex_cmp m_is (xv 0) ex_non (nomark _)))) sx_nil)
    (sx_one (sx_ret (ex_and (ex_c1 c__law_is_ratio tk hr (by decide) (ea_cons (xv 0) ea_nil)) (ex_one (ex_cmp (m_eq hr.units) (xv 0) (xv 1) (nomark _)))))))
def N__law_is_spin : List PySem.Str := ["rows", "many", "p", "q", "v", "whole", "a"]
theorem sc__law_is_spin : FnScope N__law_is_spin ["rows", "many", "p", "q"] (defScope s__law_is_spin) := ⟨rfl, rfl, rfl, by decide +kernel, rfl, by decide +kernel, by decide +kernel⟩
def m__law_is_spin (f__law_is_lowest : FM) : SM := (sSeq (sIf (tOr (HM.tNot (tVal (eCB fIsi (aCons (eVar 0) (aCons (eC (.ty "tuple")) aNil))))) (tBl (eBin oNe (eCB fLen (aCons (eVar 0) aNil)) (eVar 1)))) (sRet (eC (.bl false))) sNil)
    (sSeq (sFor (iRg1 (eVar 1)) (gN 4) (sSeq (sIf (HM.tNot (tVal (eCall 2 f__law_is_lowest (aCons (eBin oIx (eVar 0) (eVar 4)) (aCons (eVar 1) aNil))))) (sRet (eC (.bl false))) sNil)
    (sSeq (sSet 5 (eCS gSum (sEx (eBin oIx (eVar 0) (eVar 4)))))
    (sFor (iRg1 (eVar 1)) (gN 6) (sSeq (sIf (tAnd (tBl (eBin oEq (eVar 6) (eVar 4))) (tBl (eBin oNe (eBin oMul (eBin oIx (eBin oIx (eVar 0) (eVar 4)) (eVar 6)) (eVar 3)) (eBin oMul (eVar 5) (eVar 2))))) (sRet (eC (.bl false))) sNil)
    (sIf (tAnd (tBl (eBin oNe (eVar 6) (eVar 4))) (tBl (eBin oNe (eBin oMul (eBin oMul (eBin oIx (eBin oIx (eVar 0) (eVar 4)) (eVar 6)) (eVar 3)) (eBin oSub (eVar 1) (eC (.int 1)))) (eBin oMul (eVar 5) (eBin oSub (eVar 3) (eVar 2)))))) (sRet (eC (.bl false))) sNil))))))
    (sRet (eC (.bl true)))))
theorem ok__law_is_spin {P : Program} {w : World} {K : PySem.W.Frag} {mg : PySem.Str → Option Value} {base : Heap} {f : Addr} {fd : FuncData} {f__law_is_lowest : FM} (F : FnP K "_law_is_spin" s__law_is_spin f fd) (gx : mg "_law_is_spin" = some (.ref f)) (c__law_is_lowest : Cal P w K mg base "_law_is_lowest" 3 ["row", "size"] f__law_is_lowest) (z_tuple : mg "tuple" = none) (z_isinstance : mg "isinstance" = none) (z_len : mg "len" = none) (z_range : mg "range" = none) (z_sum : mg "sum" = none) :
    Cal P w K mg base "_law_is_spin" 4 ["rows", "many", "p", "q"] (runB 7 (m__law_is_spin f__law_is_lowest)) :=
  cal_mk (k := 3) F sc__law_is_spin gx (fun _ _ _ _ _ _ us hl => match us, hl with | [_, _, _, _], _ => rfl) fun cdv A outer s H E hr tk hp =>
    (sx_cons (sx_if (Ew.et (ew_or (et_not (et_val (ex_callB c_isi (by rfl) z_isinstance bt_isinstance (ea_cons (xv 0) (ea_cons (ex_bltn (by rfl) z_tuple bt_tuple (by rfl) (fun _ _ => .ty _)) ea_nil))))) (ew_or1 (et_cmp (m_ne hr.units) (ex_callB c_len (by rfl) z_len bt_len (ea_cons (xv 0) ea_nil)) (xv 1) (nomark _))))) (sx_one (sx_ret ex_bl)) sx_nil)
    (sx_cons (sx_for hp (by rfl) (ei_range1 (by rfl) z_range (xv 1)) (eg_name sc__law_is_spin.nd) (sx_cons (sx_if (et_not (et_val (ex_c1 c__law_is_lowest tk hr (by decide) (ea_cons (ex_ix m_ix (xv 0) (xv 4)) (ea_cons (xv 1) ea_nil))))) (sx_one (sx_ret ex_bl)) sx_nil)
    (sx_cons (sx_set sc__law_is_spin.nd (ex_callBs (s_sum (by rfl)) (by rfl) z_sum bt_sum (es_ex (ex_ix m_ix (xv 0) (xv 4)))))
    (sx_one (sx_for hp (by rfl) (ei_range1 (by rfl) z_range (xv 1)) (eg_name sc__law_is_spin.nd) (sx_cons (sx_if (Ew.et (ew_and (et_cmp (m_eq hr.units) (xv 6) (xv 4) (nomark _)) (ew_and1 (et_cmp (m_ne hr.units) (ex_op m_mul (ex_ix m_ix (ex_ix m_ix (xv 0) (xv 4)) (xv 6)) (xv 3)) (ex_op m_mul (xv 5) (xv 2)) (nomark _))))) (sx_one (sx_ret ex_bl)) sx_nil)
    (sx_one (sx_if (Ew.et (ew_and (et_cmp (m_ne hr.units) (xv 6) (xv 4) (nomark _)) (ew_and1 (et_cmp (m_ne hr.units) (ex_op m_mul (ex_op m_mul (ex_ix m_ix (ex_ix m_ix (xv 0) (xv 4)) (xv 6)) (xv 3)) (ex_op m_sub (xv 1) ex_int)) (ex_op m_mul (xv 5) (ex_op m_sub (xv 3) (xv 2))) (nomark _))))) (sx_one (sx_ret ex_bl)) sx_nil))))))))
    (sx_one (sx_ret ex_bl))))
def N__law_spin_loss : List PySem.Str := ["many", "p", "q", "v", "w"]
theorem sc__law_spin_loss : FnScope N__law_spin_loss ["many", "p", "q", "v", "w"] (defScope s__law_spin_loss) := ⟨rfl, rfl, rfl, by decide +kernel, rfl, by decide +kernel, by decide +kernel⟩
def m__law_spin_loss (f__law_great : FM) (f__law_f : FM) : SM := (sSeq (sIf (tBl (eBin oEq (eVar 3) (eVar 4))) (sRet (eTup (aCons (eC (.int 1)) (aCons (eC (.int 1)) aNil)))) sNil)
    (sSeq (sIf (tBl (eBin oEq (eVar 1) (eVar 2))) (sRet (eC .non)) sNil)
    (sRet (eCall 1 f__law_great (aCons (eLst (aCons (eCall 2 f__law_f (aCons (eBin oMul (eVar 1) (eBin oSub (eVar 0) (eC (.int 1)))) (aCons (eBin oSub (eVar 2) (eVar 1)) aNil))) (aCons (eCall 2 f__law_f (aCons (eBin oSub (eVar 2) (eVar 1)) (aCons (eBin oMul (eVar 1) (eBin oSub (eVar 0) (eC (.int 1)))) aNil))) aNil))) aNil)))))
theorem ok__law_spin_loss {P : Program} {w : World} {K : PySem.W.Frag} {mg : PySem.Str → Option Value} {base : Heap} {f : Addr} {fd : FuncData} {f__law_great f__law_f : FM} (F : FnP K "_law_spin_loss" s__law_spin_loss f fd) (gx : mg "_law_spin_loss" = some (.ref f)) (c__law_great : Cal P w K mg base "_law_great" 2 ["row"] f__law_great) (c__law_f : Cal P w K mg base "_law_f" 2 ["n", "d"] f__law_f) :
    Cal P w K mg base "_law_spin_loss" 3 ["many", "p", "q", "v", "w"] (runB 5 (m__law_spin_loss f__law_great f__law_f)) :=
  cal_mk (k := 2) F sc__law_spin_loss gx (fun _ _ _ _ _ _ us hl => match us, hl with | [_, _, _, _, _], _ => rfl) fun cdv A outer s H E hr tk hp =>
    (sx_cons (sx_if (et_cmp (m_eq hr.units) (xv 3) (xv 4) (nomark _)) (sx_one (sx_ret (ex_tup (ea_cons ex_int (ea_cons ex_int ea_nil))))) sx_nil)
    (sx_cons (sx_if (et_cmp (m_eq hr.units) (xv 1) (xv 2) (nomark _)) (sx_one (sx_ret ex_non)) sx_nil)
    (sx_one (sx_ret (ex_c1 c__law_great tk hr (by decide) (ea_cons (ex_lst (ea_cons (ex_c1 c__law_f tk hr (by decide) (ea_cons (ex_op m_mul (xv 1) (ex_op m_sub (xv 0) ex_int)) (ea_cons (ex_op m_sub (xv 2) (xv 1)) ea_nil))) (ea_cons (ex_c1 c__law_f tk hr (by decide) (ea_cons (ex_op m_sub (xv 2) (xv 1)) (ea_cons (ex_op m_mul (xv 1) (ex_op m_sub (xv 0) ex_int)) ea_nil))) ea_nil))) ea_nil))))))
def N__law_are_spins : List PySem.Str := ["d", "many", "p", "q", "rows", "both", "due", "k", "v", "w", "loss", "more"]
theorem sc__law_are_spins : FnScope N__law_are_spins ["d"] (defScope s__law_are_spins) := ⟨rfl, rfl, rfl, by decide +kernel, rfl, by decide +kernel, by decide +kernel⟩
def m__law_are_spins (f__law_draw : FM) (f__law_part : FM) (f_spin_rows : FM) (f__law_is_spin : FM) (f__law_spin_loss : FM) (f__law_is_loss : FM) (f_row_loss : FM) (f__law_great : FM) (f_rows_loss : FM) : SM := (sSeq (sSet 1 (eBin oAdd (eC (.int 2)) (eCall 2 f__law_draw (aCons (eVar 0) (aCons (eIf (tBl (eBin oEq (eCall 2 f__law_draw (aCons (eVar 0) (aCons (eC (.int 3)) aNil))) (eC (.int 1)))) (eC (.int 11)) (eC (.int 4))) aNil)))))
    (sSeq (sAsg (gT 2 (gCs 2 (gCs 3 gNil0))) (eCall 1 f__law_part (aCons (eVar 0) aNil)))
    (sSeq (sSet 4 (eCall 3 f_spin_rows (aCons (eVar 1) (aCons (eVar 2) (aCons (eVar 3) aNil)))))
    (sSeq (sIf (HM.tNot (tVal (eCall 4 f__law_is_spin (aCons (eVar 4) (aCons (eVar 1) (aCons (eVar 2) (aCons (eVar 3) aNil))))))) (sRet (eC (.bl false))) sNil)
    (sSeq (sSet 5 (eLst aNil))
    (sSeq (sSet 6 (eTup (aCons (eC (.int 1)) (aCons (eC (.int 1)) aNil))))
    (sSeq (sFor (iRg1 (eCall 2 f__law_draw (aCons (eVar 0) (aCons (eC (.int 5)) aNil)))) (gN 7) (sSeq (sSet 8 (eCall 2 f__law_draw (aCons (eVar 0) (aCons (eVar 1) aNil))))
    (sSeq (sSet 9 (eCall 2 f__law_draw (aCons (eVar 0) (aCons (eVar 1) aNil))))
    (sSeq (sExpr (eM "list" mAppend (eVar 5) (aCons (eTup (aCons (eVar 8) (aCons (eVar 9) aNil))) aNil)))
    (sSeq (sSet 10 (eCall 5 f__law_spin_loss (aCons (eVar 1) (aCons (eVar 2) (aCons (eVar 3) (aCons (eVar 8) (aCons (eVar 9) aNil)))))))
    (sSeq (sIf (HM.tNot (tVal (eCall 2 f__law_is_loss (aCons (eCall 2 f_row_loss (aCons (eBin oIx (eVar 4) (eVar 8)) (aCons (eBin oIx (eVar 4) (eVar 9)) aNil))) (aCons (eVar 10) aNil))))) (sRet (eC (.bl false))) sNil)
    (sSet 6 (eIf (tOr (tBl (eBin oIs (eVar 6) (eC .non))) (tBl (eBin oIs (eVar 10) (eC .non)))) (eC .non) (eCall 1 f__law_great (aCons (eLst (aCons (eVar 6) (aCons (eVar 10) aNil))) aNil))))))))))
    (sSeq (sIf (HM.tNot (tVal (eCall 2 f__law_is_loss (aCons (eCall 2 f_rows_loss (aCons (eVar 4) (aCons (eCB fTuple (aCons (eVar 5) aNil)) aNil))) (aCons (eVar 6) aNil))))) (sRet (eC (.bl false))) sNil)
    (sSeq (sSet 11 (eBin oAdd (eC (.int 1)) (eCall 2 f__law_draw (aCons (eVar 0) (aCons (eBin oDiv (eC (.int 1000)) (eVar 3)) aNil)))))
    (sRet (eCall 4 f__law_is_spin (aCons (eCall 3 f_spin_rows (aCons (eVar 1) (aCons (eBin oMul (eVar 11) (eVar 2)) (aCons (eBin oMul (eVar 11) (eVar 3)) aNil)))) (aCons (eVar 1) (aCons (eVar 2) (aCons (eVar 3) aNil)))))))))))))))
theorem ok__law_are_spins {P : Program} {w : World} {K : PySem.W.Frag} {mg : PySem.Str → Option Value} {base : Heap} {f : Addr} {fd : FuncData} {f__law_draw f__law_part f_spin_rows f__law_is_spin f__law_spin_loss f__law_is_loss f_row_loss f__law_great f_rows_loss : FM} (F : FnP K "_law_are_spins" s__law_are_spins f fd) (gx : mg "_law_are_spins" = some (.ref f)) (c__law_draw : Cal P w K mg base "_law_draw" 1 ["d", "many"] f__law_draw) (c__law_part : Cal P w K mg base "_law_part" 2 ["d"] f__law_part) (c_spin_rows : Cal P w K mg base "spin_rows" 6 ["many", "p", "q"] f_spin_rows) (c__law_is_spin : Cal P w K mg base "_law_is_spin" 4 ["rows", "many", "p", "q"] f__law_is_spin) (c__law_spin_loss : Cal P w K mg base "_law_spin_loss" 3 ["many", "p", "q", "v", "w"] f__law_spin_loss) (c__law_is_loss : Cal P w K mg base "_law_is_loss" 4 ["found", "due"] f__law_is_loss) (c_row_loss : Cal P w K mg base "row_loss" 4 ["row", "other"] f_row_loss) (c__law_great : Cal P w K mg base "_law_great" 2 ["row"] f__law_great) (c_rows_loss : Cal P w K mg base "rows_loss" 5 ["rows", "pairs"] f_rows_loss) (z_range : mg "range" = none) (z_tuple : mg "tuple" = none) :
    Cal P w K mg base "_law_are_spins" 7 ["d"] (runB 12 (m__law_are_spins f__law_draw f__law_part f_spin_rows f__law_is_spin f__law_spin_loss f__law_is_loss f_row_loss f__law_great f_rows_loss)) :=
  cal_mk (k := 6) F sc__law_are_spins gx (fun _ _ _ _ _ _ us hl => match us, hl with | [_], _ => rfl) fun cdv A outer s H E hr tk hp =>
    (sx_cons (sx_set sc__law_are_spins.nd (ex_op m_add ex_int (ex_c1 c__law_draw tk hr (by decide) (ea_cons (xv 0) (ea_cons (ex_if (et_cmp (m_eq hr.units) (ex_c1 c__law_draw tk hr (by decide) (ea_cons (xv 0) (ea_cons ex_int ea_nil))) ex_int (nomark _)) ex_int ex_int) ea_nil)))))
    (sx_cons (sx_asg (ex_c1 c__law_part tk hr (by decide) (ea_cons (xv 0) ea_nil)) (eg_tup (by rfl) (egs_cons sc__law_are_spins.nd (egs_cons sc__law_are_spins.nd egs_nil))))
    (sx_cons (sx_set sc__law_are_spins.nd (ex_c1 c_spin_rows tk hr (by decide) (ea_cons (xv 1) (ea_cons (xv 2) (ea_cons (xv 3) ea_nil)))))
    (sx_cons (sx_if (et_not (et_val (ex_c1 c__law_is_spin tk hr (by decide) (ea_cons (xv 4) (ea_cons (xv 1) (ea_cons (xv 2) (ea_cons (xv 3) ea_nil))))))) (sx_one (sx_ret ex_bl)) sx_nil)
    (sx_cons (sx_set sc__law_are_spins.nd (ex_lst ea_nil))
    (sx_cons (sx_set sc__law_are_spins.nd (ex_tup (ea_cons ex_int (ea_cons ex_int ea_nil))))
    (sx_cons (sx_for hp (by rfl) (ei_range1 (by rfl) z_range (ex_c1 c__law_draw tk hr (by decide) (ea_cons (xv 0) (ea_cons ex_int ea_nil)))) (eg_name sc__law_are_spins.nd) (sx_cons (sx_set sc__law_are_spins.nd (ex_c1 c__law_draw tk hr (by decide) (ea_cons (xv 0) (ea_cons (xv 1) ea_nil))))
    (sx_cons (sx_set sc__law_are_spins.nd (ex_c1 c__law_draw tk hr (by decide) (ea_cons (xv 0) (ea_cons (xv 1) ea_nil))))
    (sx_cons (sx_expr (ex_m PySem.F.plainAttrs_list PySem.F.slot_list_append PySem.F.type_list_append me_append (xv 5) (ea_cons (ex_tup (ea_cons (xv 8) (ea_cons (xv 9) ea_nil))) ea_nil)))
    (sx_cons (sx_set sc__law_are_spins.nd (ex_c1 c__law_spin_loss tk hr (by decide) (ea_cons (xv 1) (ea_cons (xv 2) (ea_cons (xv 3) (ea_cons (xv 8) (ea_cons (xv 9) ea_nil)))))))
    (sx_cons (sx_if (et_not (et_val (ex_c1 c__law_is_loss tk hr (by decide) (ea_cons (ex_c1 c_row_loss tk hr (by decide) (ea_cons (ex_ix m_ix (xv 4) (xv 8)) (ea_cons (ex_ix m_ix (xv 4) (xv 9)) ea_nil))) (ea_cons (xv 10) ea_nil))))) (sx_one (sx_ret ex_bl)) sx_nil)
    (sx_one (sx_set sc__law_are_spins.nd (ex_if (Ew.et (ew_or (et_cmp m_is (xv 6) ex_non (nomark _)) (ew_or1 (et_cmp m_is (xv 10) ex_non (nomark _))))) ex_non (ex_c1 c__law_great tk hr (by decide) (ea_cons (ex_lst (ea_cons (xv 6) (ea_cons (xv 10) ea_nil))) ea_nil)))))))))))
    (sx_cons (sx_if (et_not (et_val (ex_c1 c__law_is_loss tk hr (by decide) (ea_cons (ex_c1 c_rows_loss tk hr (by decide) (ea_cons (xv 4) (ea_cons (ex_callT c_tuple (by rfl) z_tuple bt_tuple (ea_cons (xv 5) ea_nil)) ea_nil))) (ea_cons (xv 6) ea_nil))))) (sx_one (sx_ret ex_bl)) sx_nil)
    (sx_cons (sx_set sc__law_are_spins.nd (ex_op m_add ex_int (ex_c1 c__law_draw tk hr (by decide) (ea_cons (xv 0) (ea_cons (ex_op m_div ex_int (xv 3)) ea_nil)))))
    (sx_one (sx_ret (ex_c1 c__law_is_spin tk hr (by decide) (ea_cons (ex_c1 c_spin_rows tk hr (by decide) (ea_cons (xv 1) (ea_cons (ex_op m_mul (xv 11) (xv 2)) (ea_cons (ex_op m_mul (xv 11) (xv 3)) ea_nil)))) (ea_cons (xv 1) (ea_cons (xv 2) (ea_cons (xv 3) ea_nil))))))))))))))))
def N__law_is_choice : List PySem.Str := ["row", "worths", "p", "q", "up", "down", "k", "left"]
theorem sc__law_is_choice : FnScope N__law_is_choice ["row", "worths", "p", "q"] (defScope s__law_is_choice) := ⟨rfl, rfl, rfl, by decide +kernel, rfl, by decide +kernel, by decide +kernel⟩
def m__law_is_choice (f__law_is_lowest : FM) (f__law_powers : FM) : SM := (sSeq (sIf (HM.tNot (tVal (eCall 2 f__law_is_lowest (aCons (eVar 0) (aCons (eCB fLen (aCons (eVar 1) aNil)) aNil))))) (sRet (eC (.bl false))) sNil)
    (sSeq (sSet 4 (eCall 2 f__law_powers (aCons (eVar 2) (aCons (eC (.int 12)) aNil))))
    (sSeq (sSet 5 (eCall 2 f__law_powers (aCons (eVar 3) (aCons (eC (.int 12)) aNil))))
    (sSeq (sFor (iRg1 (eCB fLen (aCons (eVar 1) aNil))) (gN 6) (sSeq (sSet 7 (eBin oMul (eBin oMul (eBin oIx (eVar 0) (eVar 6)) (eBin oIx (eVar 4) (eBin oIx (eVar 1) (eC (.int 0))))) (eBin oIx (eVar 5) (eBin oIx (eVar 1) (eVar 6)))))
    (sIf (tBl (eBin oNe (eVar 7) (eBin oMul (eBin oMul (eBin oIx (eVar 0) (eC (.int 0))) (eBin oIx (eVar 4) (eBin oIx (eVar 1) (eVar 6)))) (eBin oIx (eVar 5) (eBin oIx (eVar 1) (eC (.int 0))))))) (sRet (eC (.bl false))) sNil)))
    (sRet (eC (.bl true)))))))
theorem ok__law_is_choice {P : Program} {w : World} {K : PySem.W.Frag} {mg : PySem.Str → Option Value} {base : Heap} {f : Addr} {fd : FuncData} {f__law_is_lowest f__law_powers : FM} (F : FnP K "_law_is_choice" s__law_is_choice f fd) (gx : mg "_law_is_choice" = some (.ref f)) (c__law_is_lowest : Cal P w K mg base "_law_is_lowest" 3 ["row", "size"] f__law_is_lowest) (c__law_powers : Cal P w K mg base "_law_powers" 1 ["base", "most"] f__law_powers) (z_len : mg "len" = none) (z_range : mg "range" = none) :
    Cal P w K mg base "_law_is_choice" 4 ["row", "worths", "p", "q"] (runB 8 (m__law_is_choice f__law_is_lowest f__law_powers)) :=
  cal_mk (k := 3) F sc__law_is_choice gx (fun _ _ _ _ _ _ us hl => match us, hl with | [_, _, _, _], _ => rfl) fun cdv A outer s H E hr tk hp =>
    (sx_cons (sx_if (et_not (et_val (ex_c1 c__law_is_lowest tk hr (by decide) (ea_cons (xv 0) (ea_cons (ex_callB c_len (by rfl) z_len bt_len (ea_cons (xv 1) ea_nil)) ea_nil))))) (sx_one (sx_ret ex_bl)) sx_nil)
    (sx_cons (sx_set sc__law_is_choice.nd (ex_c1 c__law_powers tk hr (by decide) (ea_cons (xv 2) (ea_cons ex_int ea_nil))))
    (sx_cons (sx_set sc__law_is_choice.nd (ex_c1 c__law_powers tk hr (by decide) (ea_cons (xv 3) (ea_cons ex_int ea_nil))))
    (sx_cons (sx_for hp (by rfl) (ei_range1 (by rfl) z_range (ex_callB c_len (by rfl) z_len bt_len (ea_cons (xv 1) ea_nil))) (eg_name sc__law_is_choice.nd) (sx_cons (sx_set sc__law_is_choice.nd (ex_op m_mul (ex_op m_mul (ex_ix m_ix (xv 0) (xv 6)) (ex_ix m_ix (xv 4) (ex_ix m_ix (xv 1) ex_int))) (ex_ix m_ix (xv 5) (ex_ix m_ix (xv 1) (xv 6)))))
    (sx_one (sx_if (et_cmp (m_ne hr.units) (xv 7) (ex_op m_mul (ex_op m_mul (ex_ix m_ix (xv 0) ex_int) (ex_ix m_ix (xv 4) (ex_ix m_ix (xv 1) (xv 6)))) (ex_ix m_ix (xv 5) (ex_ix m_ix (xv 1) ex_int))) (nomark _)) (sx_one (sx_ret ex_bl)) sx_nil))))
    (sx_one (sx_ret ex_bl))))))
def N__law_bent_worths : List PySem.Str := ["d", "worths", "style", "most", "found", "worth", "step"]
theorem sc__law_bent_worths : FnScope N__law_bent_worths ["d", "worths"] (defScope s__law_bent_worths) := ⟨rfl, rfl, rfl, by decide +kernel, rfl, by decide +kernel, by decide +kernel⟩
def m__law_bent_worths (f__law_draw : FM) : SM := (sSeq (sSet 2 (eCall 2 f__law_draw (aCons (eVar 0) (aCons (eC (.int 3)) aNil))))
    (sSeq (sSet 3 (eBin oAdd (eC (.int 1)) (eCall 2 f__law_draw (aCons (eVar 0) (aCons (eC (.int 3)) aNil)))))
    (sSeq (sSet 4 (eLst aNil))
    (sSeq (sFor (iEx (eVar 1)) (gN 5) (sSeq (sSet 6 (eCall 2 f__law_draw (aCons (eVar 0) (aCons (eBin oAdd (eVar 3) (eC (.int 1))) aNil))))
    (sSeq (sIf (tOr (tBl (eBin oEq (eVar 2) (eC (.int 2)))) (tAnd (tBl (eBin oEq (eVar 2) (eC (.int 0)))) (tBl (eBin oEq (eCall 2 f__law_draw (aCons (eVar 0) (aCons (eC (.int 2)) aNil))) (eC (.int 1)))))) (sSet 6 (eUn oNeg (eVar 6))) sNil)
    (sExpr (eM "list" mAppend (eVar 4) (aCons (eCB fMax2 (aCons (eC (.int 0)) (aCons (eCB fMin2 (aCons (eC (.int 12)) (aCons (eBin oAdd (eVar 5) (eVar 6)) aNil))) aNil))) aNil))))))
    (sRet (eCB fTuple (aCons (eVar 4) aNil)))))))
theorem ok__law_bent_worths {P : Program} {w : World} {K : PySem.W.Frag} {mg : PySem.Str → Option Value} {base : Heap} {f : Addr} {fd : FuncData} {f__law_draw : FM} (F : FnP K "_law_bent_worths" s__law_bent_worths f fd) (gx : mg "_law_bent_worths" = some (.ref f)) (c__law_draw : Cal P w K mg base "_law_draw" 1 ["d", "many"] f__law_draw) (z_min : mg "min" = none) (z_max : mg "max" = none) (z_tuple : mg "tuple" = none) :
    Cal P w K mg base "_law_bent_worths" 2 ["d", "worths"] (runB 7 (m__law_bent_worths f__law_draw)) :=
  cal_mk (k := 1) F sc__law_bent_worths gx (fun _ _ _ _ _ _ us hl => match us, hl with | [_, _], _ => rfl) fun cdv A outer s H E hr tk hp =>
    (sx_cons (sx_set sc__law_bent_worths.nd (ex_c1 c__law_draw tk hr (by decide) (ea_cons (xv 0) (ea_cons ex_int ea_nil))))
    (sx_cons (sx_set sc__law_bent_worths.nd (ex_op m_add ex_int (ex_c1 c__law_draw tk hr (by decide) (ea_cons (xv 0) (ea_cons ex_int ea_nil)))))
    (sx_cons (sx_set sc__law_bent_worths.nd (ex_lst ea_nil))
    (sx_cons (sx_for hp (by rfl) (ei_ex (xv 1)) (eg_name sc__law_bent_worths.nd) (sx_cons (sx_set sc__law_bent_worths.nd (ex_c1 c__law_draw tk hr (by decide) (ea_cons (xv 0) (ea_cons (ex_op m_add (xv 3) ex_int) ea_nil))))
    (sx_cons (sx_if (Ew.et (ew_or (et_cmp (m_eq hr.units) (xv 2) ex_int (nomark _)) (ew_or1 (Ew.et (ew_and (et_cmp (m_eq hr.units) (xv 2) ex_int (nomark _)) (ew_and1 (et_cmp (m_eq hr.units) (ex_c1 c__law_draw tk hr (by decide) (ea_cons (xv 0) (ea_cons ex_int ea_nil))) ex_int (nomark _)))))))) (sx_one (sx_set sc__law_bent_worths.nd (ex_un m_neg (xv 6)))) sx_nil)
    (sx_one (sx_expr (ex_m PySem.F.plainAttrs_list PySem.F.slot_list_append PySem.F.type_list_append me_append (xv 4) (ea_cons (ex_callB (c_max2 (by rfl)) (by rfl) z_max bt_max (ea_cons ex_int (ea_cons (ex_callB (c_min2 (by rfl)) (by rfl) z_min bt_min (ea_cons ex_int (ea_cons (ex_op m_add (xv 5) (xv 6)) ea_nil))) ea_nil))) ea_nil)))))))
    (sx_one (sx_ret (ex_callT c_tuple (by rfl) z_tuple bt_tuple (ea_cons (xv 4) ea_nil))))))))
def N__law_own_loss : List PySem.Str := ["row", "other", "best", "whole", "wholes", "mine", "theirs"]
theorem sc__law_own_loss : FnScope N__law_own_loss ["row", "other"] (defScope s__law_own_loss) := ⟨rfl, rfl, rfl, by decide +kernel, rfl, by decide +kernel, by decide +kernel⟩
def m__law_own_loss (f__law_f : FM) : SM := (sSeq (sSet 2 (eTup (aCons (eC (.int 1)) (aCons (eC (.int 1)) aNil))))
    (sSeq (sSet 3 (eCS gSum (sEx (eVar 0))))
    (sSeq (sSet 4 (eCS gSum (sEx (eVar 1))))
    (sSeq (sFor (iZip (eVar 0) (eVar 1)) (gT 2 (gCs 5 (gCs 6 gNil0))) (sSeq (sIf (tAnd (tBl (eBin oGt (eVar 5) (eC (.int 0)))) (tBl (eBin oEq (eVar 6) (eC (.int 0))))) (sRet (eC .non)) sNil)
    (sIf (tAnd (tBl (eBin oGt (eVar 5) (eC (.int 0)))) (tBl (eBin oLt (eBin oMul (eBin oMul (eBin oIx (eVar 2) (eC (.int 0))) (eVar 6)) (eVar 3)) (eBin oMul (eBin oMul (eVar 5) (eVar 4)) (eBin oIx (eVar 2) (eC (.int 1))))))) (sSet 2 (eTup (aCons (eBin oMul (eVar 5) (eVar 4)) (aCons (eBin oMul (eVar 6) (eVar 3)) aNil)))) sNil)))
    (sRet (eCall 2 f__law_f (aCons (eBin oIx (eVar 2) (eC (.int 0))) (aCons (eBin oIx (eVar 2) (eC (.int 1))) aNil))))))))
theorem ok__law_own_loss {P : Program} {w : World} {K : PySem.W.Frag} {mg : PySem.Str → Option Value} {base : Heap} {f : Addr} {fd : FuncData} {f__law_f : FM} (F : FnP K "_law_own_loss" s__law_own_loss f fd) (gx : mg "_law_own_loss" = some (.ref f)) (c__law_f : Cal P w K mg base "_law_f" 2 ["n", "d"] f__law_f) (z_sum : mg "sum" = none) (z_zip : mg "zip" = none) :
    Cal P w K mg base "_law_own_loss" 3 ["row", "other"] (runB 7 (m__law_own_loss f__law_f)) :=
  cal_mk (k := 2) F sc__law_own_loss gx (fun _ _ _ _ _ _ us hl => match us, hl with | [_, _], _ => rfl) fun cdv A outer s H E hr tk hp =>
    (sx_cons (sx_set sc__law_own_loss.nd (ex_tup (ea_cons ex_int (ea_cons ex_int ea_nil))))
    (sx_cons (sx_set sc__law_own_loss.nd (ex_callBs (s_sum (by rfl)) (by rfl) z_sum bt_sum (es_ex (xv 0))))
    (sx_cons (sx_set sc__law_own_loss.nd (ex_callBs (s_sum (by rfl)) (by rfl) z_sum bt_sum (es_ex (xv 1))))
    (sx_cons (sx_for hp (by rfl) (ei_zip (by rfl) z_zip (xv 0) (xv 1)) (eg_tup (by rfl) (egs_cons sc__law_own_loss.nd (egs_cons sc__law_own_loss.nd egs_nil))) (sx_cons (sx_if (Ew.et (ew_and (et_cmp m_gt (xv 5) ex_int (nomark _)) (ew_and1 (et_cmp (m_eq hr.units) (xv 6) ex_int (nomark _))))) (sx_one (sx_ret ex_non)) sx_nil)
    (sx_one (sx_if (Ew.et (ew_and (et_cmp m_gt (xv 5) ex_int (nomark _)) (ew_and1 (et_cmp m_lt (ex_op m_mul (ex_op m_mul (ex_ix m_ix (xv 2) ex_int) (xv 6)) (xv 3)) (ex_op m_mul (ex_op m_mul (xv 5) (xv 4)) (ex_ix m_ix (xv 2) ex_int)) (nomark _))))) (sx_one (sx_set sc__law_own_loss.nd (ex_tup (ea_cons (ex_op m_mul (xv 5) (xv 4)) (ea_cons (ex_op m_mul (xv 6) (xv 3)) ea_nil))))) sx_nil))))
    (sx_one (sx_ret (ex_c1 c__law_f tk hr (by decide) (ea_cons (ex_ix m_ix (xv 2) ex_int) (ea_cons (ex_ix m_ix (xv 2) ex_int) ea_nil)))))))))
def N__law_is_at_most : List PySem.Str := ["loss", "p", "q", "steps"]
theorem sc__law_is_at_most : FnScope N__law_is_at_most ["loss", "p", "q", "steps"] (defScope s__law_is_at_most) := ⟨rfl, rfl, rfl, by decide +kernel, rfl, by decide +kernel, by decide +kernel⟩
def m__law_is_at_most (f__law_powers : FM) : SM := (sRet (eBin oLe (eBin oMul (eBin oIx (eVar 0) (eC (.int 0))) (eBin oIx (eCall 2 f__law_powers (aCons (eVar 2) (aCons (eVar 3) aNil))) (eVar 3))) (eBin oMul (eBin oIx (eVar 0) (eC (.int 1))) (eBin oIx (eCall 2 f__law_powers (aCons (eVar 1) (aCons (eVar 3) aNil))) (eVar 3)))))
theorem ok__law_is_at_most {P : Program} {w : World} {K : PySem.W.Frag} {mg : PySem.Str → Option Value} {base : Heap} {f : Addr} {fd : FuncData} {f__law_powers : FM} (F : FnP K "_law_is_at_most" s__law_is_at_most f fd) (gx : mg "_law_is_at_most" = some (.ref f)) (c__law_powers : Cal P w K mg base "_law_powers" 1 ["base", "most"] f__law_powers) :
    Cal P w K mg base "_law_is_at_most" 2 ["loss", "p", "q", "steps"] (runB 4 (m__law_is_at_most f__law_powers)) :=
  cal_mk (k := 1) F sc__law_is_at_most gx (fun _ _ _ _ _ _ us hl => match us, hl with | [_, _, _, _], _ => rfl) fun cdv A outer s H E hr tk hp =>
    (sx_one (sx_ret (ex_cmp m_le (ex_op m_mul (ex_ix m_ix (xv 0) ex_int) (ex_ix m_ix (ex_c1 c__law_powers tk hr (by decide) (ea_cons (xv 2) (ea_cons (xv 3) ea_nil))) (xv 3))) (ex_op m_mul (ex_ix m_ix (xv 0) ex_int) (ex_ix m_ix (ex_c1 c__law_powers tk hr (by decide) (ea_cons (xv 1) (ea_cons (xv 3) ea_nil))) (xv 3))) (nomark _))))
def N__law_are_choices : List PySem.Str := ["d", "size", "worths", "p", "q", "row", "others", "other", "steps", "far", "bound", "left", "right", "found", "moved", "r", "s", "k", "mine", "theirs", "step", "worth"]
theorem sc__law_are_choices : FnScope N__law_are_choices ["d"] (defScope s__law_are_choices) := ⟨rfl, rfl, rfl, by decide +kernel, rfl, by decide +kernel, by decide +kernel⟩
def m__law_are_choices (f__law_draw : FM) (f__law_base : FM) (f_choice_row : FM) (f__law_bent_worths : FM) (f__law_is_choice : FM) (f_row_loss : FM) (f__law_is_loss : FM) (f__law_own_loss : FM) (f__law_is_at_most : FM) : SM := (sSeq (sSet 1 (eBin oAdd (eC (.int 1)) (eCall 2 f__law_draw (aCons (eVar 0) (aCons (eIf (tBl (eBin oEq (eCall 2 f__law_draw (aCons (eVar 0) (aCons (eC (.int 4)) aNil))) (eC (.int 1)))) (eC (.int 60)) (eC (.int 6))) aNil)))))
    (sSeq (sSet 2 (eCS gTuple (lComp [17] (iRg1 (eVar 1)) (gN 17) tYes (eCall 2 f__law_draw (aCons (eVar 0) (aCons (eC (.int 13)) aNil))))))
    (sSeq (sAsg (gT 2 (gCs 3 (gCs 4 gNil0))) (eCall 1 f__law_base (aCons (eVar 0) aNil)))
    (sSeq (sSet 5 (eCall 3 f_choice_row (aCons (eVar 2) (aCons (eVar 3) (aCons (eVar 4) aNil)))))
    (sSeq (sSet 6 (eCall 2 f__law_bent_worths (aCons (eVar 0) (aCons (eVar 2) aNil))))
    (sSeq (sSet 7 (eCall 3 f_choice_row (aCons (eVar 6) (aCons (eVar 3) (aCons (eVar 4) aNil)))))
    (sSeq (sIf (tOr (HM.tNot (tVal (eCall 4 f__law_is_choice (aCons (eVar 5) (aCons (eVar 2) (aCons (eVar 3) (aCons (eVar 4) aNil))))))) (HM.tNot (tVal (eCall 4 f__law_is_choice (aCons (eVar 7) (aCons (eVar 6) (aCons (eVar 3) (aCons (eVar 4) aNil)))))))) (sRet (eC (.bl false))) sNil)
    (sSeq (sSet 8 (eEl (lComp [18, 19] (iZip (eVar 2) (eVar 6)) (gT 2 (gCs 18 (gCs 19 gNil0))) tYes (eBin oSub (eVar 19) (eVar 18)))))
    (sSeq (sSet 9 (eCS gMax (lComp [20] (iEx (eVar 8)) (gN 20) tYes (eCB fAbs (aCons (eVar 20) aNil)))))
    (sSeq (sSet 10 (eIf (tOr (tBl (eBin oGe (eCS gMin (sEx (eVar 8))) (eC (.int 0)))) (tBl (eBin oLe (eCS gMax (sEx (eVar 8))) (eC (.int 0))))) (eVar 9) (eBin oMul (eC (.int 2)) (eVar 9))))
    (sSeq (sFor (iEx (eLst (aCons (eTup (aCons (eVar 5) (aCons (eVar 7) aNil))) (aCons (eTup (aCons (eVar 7) (aCons (eVar 5) aNil))) aNil)))) (gT 2 (gCs 11 (gCs 12 gNil0))) (sSeq (sSet 13 (eCall 2 f_row_loss (aCons (eVar 11) (aCons (eVar 12) aNil))))
    (sIf (tOr (HM.tNot (tVal (eCall 2 f__law_is_loss (aCons (eVar 13) (aCons (eCall 2 f__law_own_loss (aCons (eVar 11) (aCons (eVar 12) aNil))) aNil))))) (HM.tNot (tVal (eCall 4 f__law_is_at_most (aCons (eVar 13) (aCons (eVar 3) (aCons (eVar 4) (aCons (eVar 10) aNil)))))))) (sRet (eC (.bl false))) sNil)))
    (sSeq (sSet 14 (eBin oSub (eCall 2 f__law_draw (aCons (eVar 0) (aCons (eBin oSub (eBin oAdd (eCS gMin (sEx (eVar 2))) (eC (.int 13))) (eCS gMax (sEx (eVar 2)))) aNil))) (eCS gMin (sEx (eVar 2)))))
    (sSeq (sSet 13 (eCall 3 f_choice_row (aCons (eCS gTuple (lComp [21] (iEx (eVar 2)) (gN 21) tYes (eBin oAdd (eVar 21) (eVar 14)))) (aCons (eVar 3) (aCons (eVar 4) aNil)))))
    (sSeq (sAsg (gT 2 (gCs 15 (gCs 16 gNil0))) (eCall 1 f__law_base (aCons (eVar 0) aNil)))
    (sRet (eAnd (eCall 4 f__law_is_choice (aCons (eVar 13) (aCons (eVar 2) (aCons (eVar 3) (aCons (eVar 4) aNil))))) (eCall 4 f__law_is_choice (aCons (eCall 3 f_choice_row (aCons (eVar 2) (aCons (eVar 15) (aCons (eVar 16) aNil)))) (aCons (eVar 2) (aCons (eVar 15) (aCons (eVar 16) aNil)))))))))))))))))))))
theorem ok__law_are_choices {P : Program} {w : World} {K : PySem.W.Frag} {mg : PySem.Str → Option Value} {base : Heap} {f : Addr} {fd : FuncData} {f__law_draw f__law_base f_choice_row f__law_bent_worths f__law_is_choice f_row_loss f__law_is_loss f__law_own_loss f__law_is_at_most : FM} (F : FnP K "_law_are_choices" s__law_are_choices f fd) (gx : mg "_law_are_choices" = some (.ref f)) (c__law_draw : Cal P w K mg base "_law_draw" 1 ["d", "many"] f__law_draw) (c__law_base : Cal P w K mg base "_law_base" 2 ["d"] f__law_base) (c_choice_row : Cal P w K mg base "choice_row" 4 ["worths", "p", "q"] f_choice_row) (c__law_bent_worths : Cal P w K mg base "_law_bent_worths" 2 ["d", "worths"] f__law_bent_worths) (c__law_is_choice : Cal P w K mg base "_law_is_choice" 4 ["row", "worths", "p", "q"] f__law_is_choice) (c_row_loss : Cal P w K mg base "row_loss" 4 ["row", "other"] f_row_loss) (c__law_is_loss : Cal P w K mg base "_law_is_loss" 4 ["found", "due"] f__law_is_loss) (c__law_own_loss : Cal P w K mg base "_law_own_loss" 3 ["row", "other"] f__law_own_loss) (c__law_is_at_most : Cal P w K mg base "_law_is_at_most" 2 ["loss", "p", "q", "steps"] f__law_is_at_most) (z_range : mg "range" = none) (z_tuple : mg "tuple" = none) (z_zip : mg "zip" = none) (z_abs : mg "abs" = none) (z_max : mg "max" = none) (z_min : mg "min" = none) :
    Cal P w K mg base "_law_are_choices" 5 ["d"] (runB 22 (m__law_are_choices f__law_draw f__law_base f_choice_row f__law_bent_worths f__law_is_choice f_row_loss f__law_is_loss f__law_own_loss f__law_is_at_most)) :=
  cal_mk (k := 4) F sc__law_are_choices gx (fun _ _ _ _ _ _ us hl => match us, hl with | [_], _ => rfl) fun cdv A outer s H E hr tk hp =>
    (sx_cons (sx_set sc__law_are_choices.nd (ex_op m_add ex_int (ex_c1 c__law_draw tk hr (by decide) (ea_cons (xv 0) (ea_cons (ex_if (et_cmp (m_eq hr.units) (ex_c1 c__law_draw tk hr (by decide) (ea_cons (xv 0) (ea_cons ex_int ea_nil))) ex_int (nomark _)) ex_int ex_int) ea_nil)))))
    (sx_cons (sx_set sc__law_are_choices.nd (ex_callTs s_tuple (by rfl) z_tuple bt_tuple (es_el (el_comp (own := [(("k" : PySem.Str), 17)]) (by rfl) sc__law_are_choices.nd (ei_range1 (by rfl) z_range (xv 1)) (blkOk_by (N := N__law_are_choices) (sc := (defScope s__law_are_choices)) (by decide +kernel)) (fun _ _ _ _ _ => (eg_name sc__law_are_choices.nd)) (fun _ _ _ _ _ => ets_nil) (fun _ _ _ _ _ => (ex_c1 c__law_draw tk0 hr (by decide) (ea_cons (xv 0) (ea_cons ex_int ea_nil))))))))
    (sx_cons (sx_asg (ex_c1 c__law_base tk hr (by decide) (ea_cons (xv 0) ea_nil)) (eg_tup (by rfl) (egs_cons sc__law_are_choices.nd (egs_cons sc__law_are_choices.nd egs_nil))))
    (sx_cons (sx_set sc__law_are_choices.nd (ex_c1 c_choice_row tk hr (by decide) (ea_cons (xv 2) (ea_cons (xv 3) (ea_cons (xv 4) ea_nil)))))
    (sx_cons (sx_set sc__law_are_choices.nd (ex_c1 c__law_bent_worths tk hr (by decide) (ea_cons (xv 0) (ea_cons (xv 2) ea_nil))))
    (sx_cons (sx_set sc__law_are_choices.nd (ex_c1 c_choice_row tk hr (by decide) (ea_cons (xv 6) (ea_cons (xv 3) (ea_cons (xv 4) ea_nil)))))
    (sx_cons (sx_if (Ew.et (ew_or (et_not (et_val (ex_c1 c__law_is_choice tk hr (by decide) (ea_cons (xv 5) (ea_cons (xv 2) (ea_cons (xv 3) (ea_cons (xv 4) ea_nil))))))) (ew_or1 (et_not (et_val (ex_c1 c__law_is_choice tk hr (by decide) (ea_cons (xv 7) (ea_cons (xv 6) (ea_cons (xv 3) (ea_cons (xv 4) ea_nil)))))))))) (sx_one (sx_ret ex_bl)) sx_nil)
    (sx_cons (sx_setLc (own := [(("mine" : PySem.Str), 18), (("theirs" : PySem.Str), 19)]) (by rfl) sc__law_are_choices.nd (ei_zip (by rfl) z_zip (xv 2) (xv 6)) (blkOk_by (N := N__law_are_choices) (sc := (defScope s__law_are_choices)) (by decide +kernel)) (fun _ _ _ _ _ => (eg_tup (by rfl) (egs_cons sc__law_are_choices.nd (egs_cons sc__law_are_choices.nd egs_nil)))) (fun _ _ _ _ _ => ets_nil) (fun _ _ _ _ _ => (ex_op m_sub (xv 19) (xv 18))))
    (sx_cons (sx_set sc__law_are_choices.nd (ex_callBs (sv_max (by rfl)) (by rfl) z_max bt_max (es_el (el_comp (own := [(("step" : PySem.Str), 20)]) (by rfl) sc__law_are_choices.nd (ei_ex (xv 8)) (blkOk_by (N := N__law_are_choices) (sc := (defScope s__law_are_choices)) (by decide +kernel)) (fun _ _ _ _ _ => (eg_name sc__law_are_choices.nd)) (fun _ _ _ _ _ => ets_nil) (fun _ _ _ _ _ => (ex_callB c_abs (by rfl) z_abs bt_abs (ea_cons (xv 20) ea_nil)))))))
    (sx_cons (sx_set sc__law_are_choices.nd (ex_if (Ew.et (ew_or (et_cmp m_ge (ex_callBs (sv_min (by rfl)) (by rfl) z_min bt_min (es_ex (xv 8))) ex_int (nomark _)) (ew_or1 (et_cmp m_le (ex_callBs (sv_max (by rfl)) (by rfl) z_max bt_max (es_ex (xv 8))) ex_int (nomark _))))) (xv 9) (ex_op m_mul ex_int (xv 9))))
    (sx_cons (sx_for hp (by rfl) (ei_ex (ex_lst (ea_cons (ex_tup (ea_cons (xv 5) (ea_cons (xv 7) ea_nil))) (ea_cons (ex_tup (ea_cons (xv 7) (ea_cons (xv 5) ea_nil))) ea_nil)))) (eg_tup (by rfl) (egs_cons sc__law_are_choices.nd (egs_cons sc__law_are_choices.nd egs_nil))) (sx_cons (sx_set sc__law_are_choices.nd (ex_c1 c_row_loss tk hr (by decide) (ea_cons (xv 11) (ea_cons (xv 12) ea_nil))))
    (sx_one (sx_if (Ew.et (ew_or (et_not (et_val (ex_c1 c__law_is_loss tk hr (by decide) (ea_cons (xv 13) (ea_cons (ex_c1 c__law_own_loss tk hr (by decide) (ea_cons (xv 11) (ea_cons (xv 12) ea_nil))) ea_nil))))) (ew_or1 (et_not (et_val (ex_c1 c__law_is_at_most tk hr (by decide) (ea_cons (xv 13) (ea_cons (xv 3) (ea_cons (xv 4) (ea_cons (xv 10) ea_nil)))))))))) (sx_one (sx_ret ex_bl)) sx_nil))))
    (sx_cons (sx_set sc__law_are_choices.nd (ex_op m_sub (ex_c1 c__law_draw tk hr (by decide) (ea_cons (xv 0) (ea_cons (ex_op m_sub (ex_op m_add (ex_callBs (sv_min (by rfl)) (by rfl) z_min bt_min (es_ex (xv 2))) ex_int) (ex_callBs (sv_max (by rfl)) (by rfl) z_max bt_max (es_ex (xv 2)))) ea_nil))) (ex_callBs (sv_min (by rfl)) (by rfl) z_min bt_min (es_ex (xv 2)))))
    (sx_cons (sx_set sc__law_are_choices.nd (ex_c1 c_choice_row tk hr (by decide) (ea_cons (ex_callTs s_tuple (by rfl) z_tuple bt_tuple (es_el (el_comp (own := [(("worth" : PySem.Str), 21)]) (by rfl) sc__law_are_choices.nd (ei_ex (xv 2)) (blkOk_by (N := N__law_are_choices) (sc := (defScope s__law_are_choices)) (by decide +kernel)) (fun _ _ _ _ _ => (eg_name sc__law_are_choices.nd)) (fun _ _ _ _ _ => ets_nil) (fun _ _ _ _ _ => (ex_op m_add (xv 21) (xv 14)))))) (ea_cons (xv 3) (ea_cons (xv 4) ea_nil)))))
    (sx_cons (sx_asg (ex_c1 c__law_base tk hr (by decide) (ea_cons (xv 0) ea_nil)) (eg_tup (by rfl) (egs_cons sc__law_are_choices.nd (egs_cons sc__law_are_choices.nd egs_nil))))
    (sx_one (sx_ret (ex_and (ex_c1 c__law_is_choice tk hr (by decide) (ea_cons (xv 13) (ea_cons (xv 2) (ea_cons (xv 3) (ea_cons (xv 4) ea_nil))))) (ex_one (ex_c1 c__law_is_choice tk hr (by decide) (ea_cons (ex_c1 c_choice_row tk hr (by decide) (ea_cons (xv 2) (ea_cons (xv 15) (ea_cons (xv 16) ea_nil)))) (ea_cons (xv 2) (ea_cons (xv 15) (ea_cons (xv 16) ea_nil)))))))))))))))))))))))
def N__law_is_one_better : List PySem.Str := ["d", "many", "p", "q", "v", "low", "worths", "found", "rows", "a"]
theorem sc__law_is_one_better : FnScope N__law_is_one_better ["d"] (defScope s__law_is_one_better) := ⟨rfl, rfl, rfl, by decide +kernel, rfl, by decide +kernel, by decide +kernel⟩
def m__law_is_one_better (f__law_draw : FM) (f_choice_row : FM) (f_spin_rows : FM) (f__law_is_choice : FM) (f__law_is_spin : FM) : SM := (sSeq (sSet 1 (eBin oAdd (eC (.int 2)) (eCall 2 f__law_draw (aCons (eVar 0) (aCons (eC (.int 11)) aNil)))))
    (sSeq (sSet 2 (eBin oAdd (eC (.int 1)) (eCall 2 f__law_draw (aCons (eVar 0) (aCons (eC (.int 80)) aNil)))))
    (sSeq (sSet 3 (eBin oAdd (eC (.int 1)) (eCall 2 f__law_draw (aCons (eVar 0) (aCons (eVar 2) aNil)))))
    (sSeq (sSet 4 (eCall 2 f__law_draw (aCons (eVar 0) (aCons (eVar 1) aNil))))
    (sSeq (sSet 5 (eCall 2 f__law_draw (aCons (eVar 0) (aCons (eC (.int 12)) aNil))))
    (sSeq (sSet 6 (eCS gTuple (lComp [9] (iRg1 (eVar 1)) (gN 9) tYes (eBin oAdd (eVar 5) (eCB fInt (aCons (eBin oEq (eVar 9) (eVar 4)) aNil))))))
    (sSeq (sSet 7 (eCall 3 f_choice_row (aCons (eVar 6) (aCons (eVar 2) (aCons (eVar 3) aNil)))))
    (sSeq (sSet 8 (eCall 3 f_spin_rows (aCons (eVar 1) (aCons (eVar 2) (aCons (eBin oAdd (eVar 2) (eBin oMul (eBin oSub (eVar 1) (eC (.int 1))) (eVar 3))) aNil)))))
    (sSeq (sIf (tOr (HM.tNot (tVal (eCall 4 f__law_is_choice (aCons (eVar 7) (aCons (eVar 6) (aCons (eVar 2) (aCons (eVar 3) aNil))))))) (HM.tNot (tVal (eCall 4 f__law_is_spin (aCons (eVar 8) (aCons (eVar 1) (aCons (eVar 2) (aCons (eBin oAdd (eVar 2) (eBin oMul (eBin oSub (eVar 1) (eC (.int 1))) (eVar 3))) aNil)))))))) (sRet (eC (.bl false))) sNil)
    (sRet (eBin oEq (eBin oIx (eVar 8) (eVar 4)) (eVar 7))))))))))))
theorem ok__law_is_one_better {P : Program} {w : World} {K : PySem.W.Frag} {mg : PySem.Str → Option Value} {base : Heap} {f : Addr} {fd : FuncData} {f__law_draw f_choice_row f_spin_rows f__law_is_choice f__law_is_spin : FM} (F : FnP K "_law_is_one_better" s__law_is_one_better f fd) (gx : mg "_law_is_one_better" = some (.ref f)) (c__law_draw : Cal P w K mg base "_law_draw" 1 ["d", "many"] f__law_draw) (c_choice_row : Cal P w K mg base "choice_row" 4 ["worths", "p", "q"] f_choice_row) (c_spin_rows : Cal P w K mg base "spin_rows" 6 ["many", "p", "q"] f_spin_rows) (c__law_is_choice : Cal P w K mg base "_law_is_choice" 4 ["row", "worths", "p", "q"] f__law_is_choice) (c__law_is_spin : Cal P w K mg base "_law_is_spin" 4 ["rows", "many", "p", "q"] f__law_is_spin) (z_range : mg "range" = none) (z_int : mg "int" = none) (z_tuple : mg "tuple" = none) :
    Cal P w K mg base "_law_is_one_better" 7 ["d"] (runB 10 (m__law_is_one_better f__law_draw f_choice_row f_spin_rows f__law_is_choice f__law_is_spin)) :=
  cal_mk (k := 6) F sc__law_is_one_better gx (fun _ _ _ _ _ _ us hl => match us, hl with | [_], _ => rfl) fun cdv A outer s H E hr tk hp =>
    (sx_cons (sx_set sc__law_is_one_better.nd (ex_op m_add ex_int (ex_c1 c__law_draw tk hr (by decide) (ea_cons (xv 0) (ea_cons ex_int ea_nil)))))
    (sx_cons (sx_set sc__law_is_one_better.nd (ex_op m_add ex_int (ex_c1 c__law_draw tk hr (by decide) (ea_cons (xv 0) (ea_cons ex_int ea_nil)))))
    (sx_cons (sx_set sc__law_is_one_better.nd (ex_op m_add ex_int (ex_c1 c__law_draw tk hr (by decide) (ea_cons (xv 0) (ea_cons (xv 2) ea_nil)))))
    (sx_cons (sx_set sc__law_is_one_better.nd (ex_c1 c__law_draw tk hr (by decide) (ea_cons (xv 0) (ea_cons (xv 1) ea_nil))))
    (sx_cons (sx_set sc__law_is_one_better.nd (ex_c1 c__law_draw tk hr (by decide) (ea_cons (xv 0) (ea_cons ex_int ea_nil))))
    (sx_cons (sx_set sc__law_is_one_better.nd (ex_callTs s_tuple (by rfl) z_tuple bt_tuple (es_el (el_comp (own := [(("a" : PySem.Str), 9)]) (by rfl) sc__law_is_one_better.nd (ei_range1 (by rfl) z_range (xv 1)) (blkOk_by (N := N__law_is_one_better) (sc := (defScope s__law_is_one_better)) (by decide +kernel)) (fun _ _ _ _ _ => (eg_name sc__law_is_one_better.nd)) (fun _ _ _ _ _ => ets_nil) (fun _ _ _ _ _ => (ex_op m_add (xv 5) (ex_callT c_int (by rfl) z_int bt_int (ea_cons (ex_cmp (m_eq hr.units) (xv 9) (xv 4) (nomark _)) ea_nil))))))))
    (sx_cons (sx_set sc__law_is_one_better.nd (ex_c1 c_choice_row tk hr (by decide) (ea_cons (xv 6) (ea_cons (xv 2) (ea_cons (xv 3) ea_nil)))))
    (sx_cons (sx_set sc__law_is_one_better.nd (ex_c1 c_spin_rows tk hr (by decide) (ea_cons (xv 1) (ea_cons (xv 2) (ea_cons (ex_op m_add (xv 2) (ex_op m_mul (ex_op m_sub (xv 1) ex_int) (xv 3))) ea_nil)))))
    (sx_cons (sx_if (Ew.et (ew_or (et_not (et_val (ex_c1 c__law_is_choice tk hr (by decide) (ea_cons (xv 7) (ea_cons (xv 6) (ea_cons (xv 2) (ea_cons (xv 3) ea_nil))))))) (ew_or1 (et_not (et_val (ex_c1 c__law_is_spin tk hr (by decide) (ea_cons (xv 8) (ea_cons (xv 1) (ea_cons (xv 2) (ea_cons (ex_op m_add (xv 2) (ex_op m_mul (ex_op m_sub (xv 1) ex_int) (xv 3))) ea_nil)))))))))) (sx_one (sx_ret ex_bl)) sx_nil)
    (sx_one (sx_ret (ex_cmp (m_eq hr.units) (ex_ix m_ix (xv 8) (xv 4)) (xv 7) (nomark _)))))))))))))
def N_law : List PySem.Str := ["script", "d"]
theorem sc_law : FnScope N_law ["script"] (defScope s_law) := ⟨rfl, rfl, rfl, by decide +kernel, rfl, by decide +kernel, by decide +kernel⟩
def m_law (f__law_begin : FM) (f__law_are_spins : FM) (f__law_are_choices : FM) (f__law_is_one_better : FM) : SM := (sSeq (sSet 1 (eCall 1 f__law_begin (aCons (eVar 0) aNil)))
    (sRet (eAnd (eCall 1 f__law_are_spins (aCons (eVar 1) aNil)) (eAnd (eCall 1 f__law_are_choices (aCons (eVar 1) aNil)) (eCall 1 f__law_is_one_better (aCons (eVar 1) aNil))))))
theorem ok_law {P : Program} {w : World} {K : PySem.W.Frag} {mg : PySem.Str → Option Value} {base : Heap} {f : Addr} {fd : FuncData} {f__law_begin f__law_are_spins f__law_are_choices f__law_is_one_better : FM} (F : FnP K "law" s_law f fd) (c__law_begin : Cal P w K mg base "_law_begin" 1 ["script"] f__law_begin) (c__law_are_spins : Cal P w K mg base "_law_are_spins" 7 ["d"] f__law_are_spins) (c__law_are_choices : Cal P w K mg base "_law_are_choices" 5 ["d"] f__law_are_choices) (c__law_is_one_better : Cal P w K mg base "_law_is_one_better" 7 ["d"] f__law_is_one_better) :
    FnM P w K mg base 8 f fd ["script"] (runB 2 (m_law f__law_begin f__law_are_spins f__law_are_choices f__law_is_one_better)) :=
  fn_def (k := 7) F sc_law fun cdv A outer s H E hr tk hp =>
    (sx_cons (sx_set sc_law.nd (ex_c1 c__law_begin tk hr (by decide) (ea_cons (xv 0) ea_nil)))
    (sx_one (sx_ret (ex_and (ex_c1 c__law_are_spins tk hr (by decide) (ea_cons (xv 1) ea_nil)) (ex_and (ex_c1 c__law_are_choices tk hr (by decide) (ea_cons (xv 1) ea_nil)) (ex_one (ex_c1 c__law_is_one_better tk hr (by decide) (ea_cons (xv 1) ea_nil))))))))
end K25

/-! fractions in lowest terms -/
namespace HM
open PySem PySem.Spec L2
/-- the sign that makes a denominator positive, times the greatest common divisor -/
def com (n d : Int) : Int := if d < 0 then -((Nat.gcd n.natAbs d.natAbs : Nat) : Int) else (Nat.gcd n.natAbs d.natAbs : Nat)
def rn (n d : Int) : Int := n.fdiv (com n d)
def rd (n d : Int) : Int := d.fdiv (com n d)
abbrev fr (a b : Int) : D := .tup [.int a, .int b]
abbrev rat (n d : Int) : D := fr (rn n d) (rd n d)
theorem com_abs {n d : Int} : (com n d).natAbs = Nat.gcd n.natAbs d.natAbs := by
  unfold com
  split <;> omega
theorem com_ne {n d : Int} (h : d ≠ 0) : com n d ≠ 0 := by
  have := Nat.gcd_pos_of_pos_right n.natAbs (Int.natAbs_pos.mpr h)
  have := com_abs (n := n) (d := d)
  omega
theorem com_le {n d : Int} (h : d ≠ 0) : (com n d).natAbs ≤ d.natAbs := by
  rw [com_abs]
  exact Nat.le_of_dvd (Int.natAbs_pos.mpr h) (Nat.gcd_dvd_right _ _)
theorem rat_n {n d : Int} (h : d ≠ 0) : n = com n d * rn n d := by
  have z : com n d ∣ n := by
    rw [← Int.natAbs_dvd_natAbs, com_abs]
    exact Nat.gcd_dvd_left _ _
  obtain ⟨k, hk⟩ := z
  have e : rn n d = k := by
    unfold rn
    rw [hk]
    have hc : com n d ≠ 0 := com_ne h
    rw [← hk]
    rw (occs := .pos [1]) [hk]
    exact Int.mul_fdiv_cancel_left k hc
  rw [e]
  exact hk
theorem rat_d {n d : Int} (h : d ≠ 0) : d = com n d * rd n d := by
  have z : com n d ∣ d := by
    rw [← Int.natAbs_dvd_natAbs, com_abs]
    exact Nat.gcd_dvd_right _ _
  obtain ⟨k, hk⟩ := z
  have e : rd n d = k := by
    unfold rd
    have hc : com n d ≠ 0 := com_ne h
    rw (occs := .pos [1]) [hk]
    exact Int.mul_fdiv_cancel_left k hc
  rw [e]
  exact hk
theorem rat_pos {n d : Int} (h : d ≠ 0) : 0 < rd n d := by
  have e := rat_d (n := n) h
  have hg := com_ne (n := n) h
  by_cases hd : d < 0
  · have hc : com n d < 0 := by
      have : com n d = -((Nat.gcd n.natAbs d.natAbs : Nat) : Int) := by unfold com; rw [if_pos hd]
      omega
    rcases Int.lt_trichotomy 0 (rd n d) with z | z | z
    · exact z
    · rw [← z] at e
      simp at e
      exact absurd e h
    · have := Int.mul_pos_of_neg_of_neg hc z
      omega
  · have hc : 0 < com n d := by
      have : com n d = ((Nat.gcd n.natAbs d.natAbs : Nat) : Int) := by unfold com; rw [if_neg hd]
      omega
    rcases Int.lt_trichotomy 0 (rd n d) with z | z | z
    · exact z
    · rw [← z] at e
      simp at e
      exact absurd e h
    · have := Int.mul_neg_of_pos_of_neg hc z
      omega
theorem rat_cop {n d : Int} (h : d ≠ 0) : Nat.gcd (rn n d).natAbs (rd n d).natAbs = 1 := by
  have e1 := congrArg Int.natAbs (rat_n (n := n) h)
  have e2 := congrArg Int.natAbs (rat_d (n := n) h)
  rw [Int.natAbs_mul] at e1 e2
  have z : Nat.gcd n.natAbs d.natAbs = (com n d).natAbs * Nat.gcd (rn n d).natAbs (rd n d).natAbs := by
    rw [← Nat.gcd_mul_left, ← e1, ← e2]
  rw [← com_abs] at z
  have hc : 0 < (com n d).natAbs := Int.natAbs_pos.mpr (com_ne h)
  have : (com n d).natAbs * 1 = (com n d).natAbs * Nat.gcd (rn n d).natAbs (rd n d).natAbs := by omega
  exact (Nat.eq_of_mul_eq_mul_left hc this).symm
theorem rat_cross {n d : Int} (h : d ≠ 0) : rn n d * d = n * rd n d := by
  have e1 := rat_n (n := n) h
  have e2 := rat_d (n := n) h
  calc rn n d * d = rn n d * (com n d * rd n d) := by rw [← e2]
    _ = com n d * rn n d * rd n d := by rw [← Int.mul_assoc, Int.mul_comm (rn n d)]
    _ = n * rd n d := by rw [← e1]
theorem rn_le {n d : Int} (h : d ≠ 0) : (rn n d).natAbs ≤ n.natAbs := by
  have e1 := congrArg Int.natAbs (rat_n (n := n) h)
  rw [Int.natAbs_mul] at e1
  have hc : 0 < (com n d).natAbs := Int.natAbs_pos.mpr (com_ne h)
  rw [e1]
  exact Nat.le_mul_of_pos_left _ hc
theorem rd_le {n d : Int} (h : d ≠ 0) : (rd n d).natAbs ≤ d.natAbs := by
  have e1 := congrArg Int.natAbs (rat_d (n := n) h)
  rw [Int.natAbs_mul] at e1
  have hc : 0 < (com n d).natAbs := Int.natAbs_pos.mpr (com_ne h)
  rw [e1]
  exact Nat.le_mul_of_pos_left _ hc
/-- two pairs in lowest terms that are equal crosswise are equal -/
theorem low_eq {a b c d : Int} (hb : 0 < b) (hd : 0 < d) (h1 : Nat.gcd a.natAbs b.natAbs = 1) (h2 : Nat.gcd c.natAbs d.natAbs = 1) (e : a * d = c * b) : a = c ∧ b = d := by
  have e' := congrArg Int.natAbs e
  rw [Int.natAbs_mul, Int.natAbs_mul] at e'
  have bd : b.natAbs ∣ d.natAbs := by
    have z : b.natAbs ∣ a.natAbs * d.natAbs := ⟨c.natAbs, by rw [e', Nat.mul_comm]⟩
    exact Nat.Coprime.dvd_of_dvd_mul_left ((Nat.gcd_comm _ _).trans h1 : Nat.Coprime _ _) z
  have db : d.natAbs ∣ b.natAbs := by
    have z : d.natAbs ∣ c.natAbs * b.natAbs := ⟨a.natAbs, by rw [← e', Nat.mul_comm]⟩
    exact Nat.Coprime.dvd_of_dvd_mul_left ((Nat.gcd_comm _ _).trans h2 : Nat.Coprime _ _) z
  have ebd : b = d := by
    have := Nat.dvd_antisymm bd db
    omega
  subst ebd
  exact ⟨Int.eq_of_mul_eq_mul_right (by omega) e, rfl⟩
theorem rat_eq {n d m e : Int} (hd : d ≠ 0) (he : e ≠ 0) (h : n * e = m * d) : rn n d = rn m e ∧ rd n d = rd m e := by
  refine low_eq (rat_pos hd) (rat_pos he) (rat_cop hd) (rat_cop he) ?_
  have c1 := rat_cross (n := n) hd
  have c2 := rat_cross (n := m) he
  -- (rn n d * rd m e) * (d * e) = (rn m e * rd n d) * (d * e)
  refine Int.eq_of_mul_eq_mul_right (show d * e ≠ 0 from Int.mul_ne_zero hd he) ?_
  calc rn n d * rd m e * (d * e) = (rn n d * d) * (rd m e * e) := by simp only [Int.mul_assoc, Int.mul_comm, Int.mul_left_comm]
    _ = (n * rd n d) * (rd m e * e) := by rw [c1]
    _ = (n * e) * (rd n d * rd m e) := by simp only [Int.mul_assoc, Int.mul_comm, Int.mul_left_comm]
    _ = (m * d) * (rd n d * rd m e) := by rw [h]
    _ = (m * rd m e) * (rd n d * d) := by simp only [Int.mul_assoc, Int.mul_comm, Int.mul_left_comm]
    _ = (rn m e * e) * (rd n d * d) := by rw [c2]
    _ = rn m e * rd n d * (d * e) := by simp only [Int.mul_assoc, Int.mul_comm, Int.mul_left_comm]
/-- a fraction in lowest terms is its own -/
theorem rat_self {a b : Int} (hb : 0 < b) (h : Nat.gcd a.natAbs b.natAbs = 1) : rn a b = a ∧ rd a b = b :=
  low_eq (rat_pos (by omega)) hb (rat_cop (by omega)) h (rat_cross (by omega))
/-! sizes -/
theorem okMul_of {i j : Int} {k l : Nat} (hi : i.natAbs < 2 ^ k) (hj : j.natAbs < 2 ^ l) (h : k + l < 1000000) : okMul i j = true := by
  refine decide_eq_true (.inr ?_)
  have a : ∀ {x k : Nat}, x < 2 ^ k → x.log2 ≤ k := fun {x k} h => by
    by_cases z : x = 0
    · subst z
      exact Nat.zero_le _
    · exact Nat.le_of_lt ((Nat.log2_lt z).mpr h)
  have := a hi
  have := a hj
  omega
theorem mul_lt {i j : Int} {k l : Nat} (hi : i.natAbs < 2 ^ k) (hj : j.natAbs < 2 ^ l) : (i * j).natAbs < 2 ^ (k + l) := by
  rw [Int.natAbs_mul, Nat.pow_add]
  exact Nat.mul_lt_mul'' hi hj
theorem add_lt {i j : Int} {k : Nat} (hi : i.natAbs < 2 ^ k) (hj : j.natAbs < 2 ^ k) : (i + j).natAbs < 2 ^ (k + 1) := by
  rw [Nat.pow_succ]
  omega
theorem sub_lt {i j : Int} {k : Nat} (hi : i.natAbs < 2 ^ k) (hj : j.natAbs < 2 ^ k) : (i - j).natAbs < 2 ^ (k + 1) := by
  rw [Nat.pow_succ]
  omega
theorem lt_up {x k l : Nat} (h : x < 2 ^ k) (hl : k ≤ l) : x < 2 ^ l := Nat.lt_of_lt_of_le h (Nat.pow_le_pow_right (by decide) hl)
theorem okDiv_com {n d i : Int} {k : Nat} (h : d ≠ 0) (hd : d.natAbs < 2 ^ k) (hk : k ≤ 9000) : okDiv i (com n d) = true := by
  have hc := com_ne (n := n) h
  refine decide_eq_true ⟨hc, ?_⟩
  have hl := com_le (n := n) h
  have : (com n d).natAbs ≠ 0 := by omega
  rw [Nat.log2_lt this]
  exact Nat.lt_of_le_of_lt hl (lt_up hd hk)
end HM

namespace K25
open PySem PySem.Spec PyProof.Rows L2 HM

def f_ratio : FM := runB 3 (m_ratio)
theorem le_ratio : ∀ ds st, Le st (runB 3 (m_ratio) ds st) (f_ratio ds st) := fun _ _ => .refl _
def f_minus : FM := runB 2 (m_minus f_ratio)
theorem le_minus : ∀ ds st, Le st (runB 2 (m_minus f_ratio) ds st) (f_minus ds st) := fun _ _ => .refl _
def f_over : FM := runB 2 (m_over f_ratio)
theorem le_over : ∀ ds st, Le st (runB 2 (m_over f_ratio) ds st) (f_over ds st) := fun _ _ => .refl _
def f_is_below : FM := runB 2 (m_is_below)
theorem le_is_below : ∀ ds st, Le st (runB 2 (m_is_below) ds st) (f_is_below ds st) := fun _ _ => .refl _
def f_chances : FM := runB 3 (m_chances f_ratio)
theorem le_chances : ∀ ds st, Le st (runB 3 (m_chances f_ratio) ds st) (f_chances ds st) := fun _ _ => .refl _
def f_reduced : FM := runB 3 (m_reduced)
theorem le_reduced : ∀ ds st, Le st (runB 3 (m_reduced) ds st) (f_reduced ds st) := fun _ _ => .refl _
def f_lowest : FM := runB 3 (m_lowest f_reduced)
theorem le_lowest : ∀ ds st, Le st (runB 3 (m_lowest f_reduced) ds st) (f_lowest ds st) := fun _ _ => .refl _
def f_powers : FM := runB 4 (m_powers)
theorem le_powers : ∀ ds st, Le st (runB 4 (m_powers) ds st) (f_powers ds st) := fun _ _ => .refl _
def f_scaled_powers : FM := runB 6 (m_scaled_powers f_powers)
theorem le_scaled_powers : ∀ ds st, Le st (runB 6 (m_scaled_powers f_powers) ds st) (f_scaled_powers ds st) := fun _ _ => .refl _
def f_choice_weights : FM := runB 5 (m_choice_weights f_scaled_powers)
theorem le_choice_weights : ∀ ds st, Le st (runB 5 (m_choice_weights f_scaled_powers) ds st) (f_choice_weights ds st) := fun _ _ => .refl _
def f_choice_row : FM := runB 3 (m_choice_row f_reduced f_choice_weights)
theorem le_choice_row : ∀ ds st, Le st (runB 3 (m_choice_row f_reduced f_choice_weights) ds st) (f_choice_row ds st) := fun _ _ => .refl _
def f_factor_of : FM := runB 2 (m_factor_of f_over)
theorem le_factor_of : ∀ ds st, Le st (runB 2 (m_factor_of f_over) ds st) (f_factor_of ds st) := fun _ _ => .refl _
def f_greater_loss : FM := runB 2 (m_greater_loss f_is_below)
theorem le_greater_loss : ∀ ds st, Le st (runB 2 (m_greater_loss f_is_below) ds st) (f_greater_loss ds st) := fun _ _ => .refl _
def f_row_loss : FM := runB 5 (m_row_loss f_chances f_greater_loss f_factor_of)
theorem le_row_loss : ∀ ds st, Le st (runB 5 (m_row_loss f_chances f_greater_loss f_factor_of) ds st) (f_row_loss ds st) := fun _ _ => .refl _
def f_rows_loss : FM := runB 5 (m_rows_loss f_greater_loss f_row_loss)
theorem le_rows_loss : ∀ ds st, Le st (runB 5 (m_rows_loss f_greater_loss f_row_loss) ds st) (f_rows_loss ds st) := fun _ _ => .refl _
def f_other_share : FM := runB 2 (m_other_share f_over f_minus)
theorem le_other_share : ∀ ds st, Le st (runB 2 (m_other_share f_over f_minus) ds st) (f_other_share ds st) := fun _ _ => .refl _
def f_spin_chances : FM := runB 8 (m_spin_chances f_ratio f_other_share)
theorem le_spin_chances : ∀ ds st, Le st (runB 8 (m_spin_chances f_ratio f_other_share) ds st) (f_spin_chances ds st) := fun _ _ => .refl _
def f_spin_row : FM := runB 4 (m_spin_row f_lowest f_spin_chances)
theorem le_spin_row : ∀ ds st, Le st (runB 4 (m_spin_row f_lowest f_spin_chances) ds st) (f_spin_row ds st) := fun _ _ => .refl _
def f_spin_rows : FM := runB 4 (m_spin_rows f_spin_row)
theorem le_spin_rows : ∀ ds st, Le st (runB 4 (m_spin_rows f_spin_row) ds st) (f_spin_rows ds st) := fun _ _ => .refl _
def f__law_begin : FM := runB 2 (m__law_begin)
theorem le__law_begin : ∀ ds st, Le st (runB 2 (m__law_begin) ds st) (f__law_begin ds st) := fun _ _ => .refl _
def f__law_draw : FM := runB 5 (m__law_draw)
theorem le__law_draw : ∀ ds st, Le st (runB 5 (m__law_draw) ds st) (f__law_draw ds st) := fun _ _ => .refl _
def f__law_is_int : FM := runB 1 (m__law_is_int)
theorem le__law_is_int : ∀ ds st, Le st (runB 1 (m__law_is_int) ds st) (f__law_is_int ds st) := fun _ _ => .refl _
def f__law_is_ints : FM := runB 2 (m__law_is_ints f__law_is_int)
theorem le__law_is_ints : ∀ ds st, Le st (runB 2 (m__law_is_ints f__law_is_int) ds st) (f__law_is_ints ds st) := fun _ _ => .refl _
def f__law_gcd : FM := runB 5 (m__law_gcd)
theorem le__law_gcd : ∀ ds st, Le st (runB 5 (m__law_gcd) ds st) (f__law_gcd ds st) := fun _ _ => .refl _
def f__law_f : FM := runB 3 (m__law_f f__law_gcd)
theorem le__law_f : ∀ ds st, Le st (runB 3 (m__law_f f__law_gcd) ds st) (f__law_f ds st) := fun _ _ => .refl _
def f__law_less : FM := runB 2 (m__law_less)
theorem le__law_less : ∀ ds st, Le st (runB 2 (m__law_less) ds st) (f__law_less ds st) := fun _ _ => .refl _
def f__law_great : FM := runB 3 (m__law_great f__law_less)
theorem le__law_great : ∀ ds st, Le st (runB 3 (m__law_great f__law_less) ds st) (f__law_great ds st) := fun _ _ => .refl _
def f__law_is_frac : FM := runB 1 (m__law_is_frac f__law_is_int f__law_gcd)
theorem le__law_is_frac : ∀ ds st, Le st (runB 1 (m__law_is_frac f__law_is_int f__law_gcd) ds st) (f__law_is_frac ds st) := fun _ _ => .refl _
def f__law_is_ratio : FM := runB 1 (m__law_is_ratio f__law_is_frac)
theorem le__law_is_ratio : ∀ ds st, Le st (runB 1 (m__law_is_ratio f__law_is_frac) ds st) (f__law_is_ratio ds st) := fun _ _ => .refl _
def f__law_powers : FM := runB 4 (m__law_powers)
theorem le__law_powers : ∀ ds st, Le st (runB 4 (m__law_powers) ds st) (f__law_powers ds st) := fun _ _ => .refl _
def f__law_part : FM := runB 3 (m__law_part f__law_draw)
theorem le__law_part : ∀ ds st, Le st (runB 3 (m__law_part f__law_draw) ds st) (f__law_part ds st) := fun _ _ => .refl _
def f__law_base : FM := runB 2 (m__law_base f__law_draw)
theorem le__law_base : ∀ ds st, Le st (runB 2 (m__law_base f__law_draw) ds st) (f__law_base ds st) := fun _ _ => .refl _
def f__law_is_lowest : FM := runB 4 (m__law_is_lowest f__law_is_ints f__law_gcd)
theorem le__law_is_lowest : ∀ ds st, Le st (runB 4 (m__law_is_lowest f__law_is_ints f__law_gcd) ds st) (f__law_is_lowest ds st) := fun _ _ => .refl _
def f__law_is_loss : FM := runB 2 (m__law_is_loss f__law_is_ratio)
theorem le__law_is_loss : ∀ ds st, Le st (runB 2 (m__law_is_loss f__law_is_ratio) ds st) (f__law_is_loss ds st) := fun _ _ => .refl _
def f__law_is_spin : FM := runB 7 (m__law_is_spin f__law_is_lowest)
theorem le__law_is_spin : ∀ ds st, Le st (runB 7 (m__law_is_spin f__law_is_lowest) ds st) (f__law_is_spin ds st) := fun _ _ => .refl _
def f__law_spin_loss : FM := runB 5 (m__law_spin_loss f__law_great f__law_f)
theorem le__law_spin_loss : ∀ ds st, Le st (runB 5 (m__law_spin_loss f__law_great f__law_f) ds st) (f__law_spin_loss ds st) := fun _ _ => .refl _
def f__law_are_spins : FM := runB 12 (m__law_are_spins f__law_draw f__law_part f_spin_rows f__law_is_spin f__law_spin_loss f__law_is_loss f_row_loss f__law_great f_rows_loss)
theorem le__law_are_spins : ∀ ds st, Le st (runB 12 (m__law_are_spins f__law_draw f__law_part f_spin_rows f__law_is_spin f__law_spin_loss f__law_is_loss f_row_loss f__law_great f_rows_loss) ds st) (f__law_are_spins ds st) := fun _ _ => .refl _
def f__law_is_choice : FM := runB 8 (m__law_is_choice f__law_is_lowest f__law_powers)
theorem le__law_is_choice : ∀ ds st, Le st (runB 8 (m__law_is_choice f__law_is_lowest f__law_powers) ds st) (f__law_is_choice ds st) := fun _ _ => .refl _
def f__law_bent_worths : FM := runB 7 (m__law_bent_worths f__law_draw)
theorem le__law_bent_worths : ∀ ds st, Le st (runB 7 (m__law_bent_worths f__law_draw) ds st) (f__law_bent_worths ds st) := fun _ _ => .refl _
def f__law_own_loss : FM := runB 7 (m__law_own_loss f__law_f)
theorem le__law_own_loss : ∀ ds st, Le st (runB 7 (m__law_own_loss f__law_f) ds st) (f__law_own_loss ds st) := fun _ _ => .refl _
def f__law_is_at_most : FM := runB 4 (m__law_is_at_most f__law_powers)
theorem le__law_is_at_most : ∀ ds st, Le st (runB 4 (m__law_is_at_most f__law_powers) ds st) (f__law_is_at_most ds st) := fun _ _ => .refl _
def f__law_are_choices : FM := runB 22 (m__law_are_choices f__law_draw f__law_base f_choice_row f__law_bent_worths f__law_is_choice f_row_loss f__law_is_loss f__law_own_loss f__law_is_at_most)
theorem le__law_are_choices : ∀ ds st, Le st (runB 22 (m__law_are_choices f__law_draw f__law_base f_choice_row f__law_bent_worths f__law_is_choice f_row_loss f__law_is_loss f__law_own_loss f__law_is_at_most) ds st) (f__law_are_choices ds st) := fun _ _ => .refl _
def f__law_is_one_better : FM := runB 10 (m__law_is_one_better f__law_draw f_choice_row f_spin_rows f__law_is_choice f__law_is_spin)
theorem le__law_is_one_better : ∀ ds st, Le st (runB 10 (m__law_is_one_better f__law_draw f_choice_row f_spin_rows f__law_is_choice f__law_is_spin) ds st) (f__law_is_one_better ds st) := fun _ _ => .refl _
def f_law : FM := runB 2 (m_law f__law_begin f__law_are_spins f__law_are_choices f__law_is_one_better)
theorem le_law : ∀ ds st, Le st (runB 2 (m_law f__law_begin f__law_are_spins f__law_are_choices f__law_is_one_better) ds st) (f_law ds st) := fun _ _ => .refl _

theorem gcd_loop {st : Store} {g : EM Bool} {u : SM} {x y : Option D}
    (hg : ∀ (a b : Nat) c, g [x, y, some (.int a), some (.int b), c] st = .ok (decide (0 < b)) st)
    (hu : ∀ (a b : Nat) c, 0 < b → u [x, y, some (.int a), some (.int b), c] st = .nx [x, y, some (.int b), some (.int (a % b : Nat)), some (.int (a % b : Nat))] st) :
    ∀ (n a b : Nat) (c : Option D), b < n → ∃ c', whileN g u n [x, y, some (.int a), some (.int b), c] st = .nx [x, y, some (.int (Nat.gcd a b : Nat)), some (.int 0), c'] st
  | 0, a, b, c, h => absurd h (Nat.not_lt_zero _)
  | n + 1, a, b, c, h => by
    unfold whileN
    rw [hg, bindE_ok]
    by_cases hb : 0 < b
    · rw [decide_eq_true hb, if_pos rfl, hu a b c hb]
      obtain ⟨c', e⟩ := gcd_loop hg hu n b (a % b) (some (.int (a % b : Nat))) (Nat.lt_of_lt_of_le (Nat.mod_lt a hb) (by omega))
      refine ⟨c', ?_⟩
      rw [Nat.gcd_comm a b, Nat.gcd_rec b a, Nat.gcd_comm]
      exact e
    · have : b = 0 := by omega
      subst this
      rw [if_neg (by simp)]
      exact ⟨c, by rw [Nat.gcd_zero_right]; rfl⟩
theorem r_gcd {st : Store} {i j : Int} (h : j.natAbs < 2 ^ 9000) : f__law_gcd [.int i, .int j] st = .ok (.int (Nat.gcd i.natAbs j.natAbs : Nat)) st := by
  unfold f__law_gcd
  rw [runB_e]
  unfold m__law_gcd
  have hw : ∃ c', whileN (tBl (eBin oGt (eVar 3) (eC (.int 0)))) (sSeq (sSet 4 (eBin oMod (eCB fInt (aCons (eVar 2) aNil)) (eVar 3))) (sSeq (sSet 2 (eVar 3)) (sSet 3 (eVar 4)))) big [some (.int i), some (.int j), some (.int (i.natAbs : Nat)), some (.int (j.natAbs : Nat)), none] st = .nx [some (.int i), some (.int j), some (.int (Nat.gcd i.natAbs j.natAbs : Nat)), some (.int 0), c'] st := by
    refine gcd_loop (fun a b c => ?_) (fun a b c hb => ?_) big _ _ none (Nat.lt_of_lt_of_le h (le_big (k := 9000) (by decide) (Nat.le_refl _)))
    · simp
    · have om : okMod (a : Int) (b : Int) = true := okMod_of (by omega)
      have e : (a : Int).fmod (b : Int) = (a % b : Nat) := by
        rw [Int.fmod_eq_emod_of_nonneg _ (by omega)]
        rfl
      simp [om, e]
  obtain ⟨c', hw⟩ := hw
  simp [hw]

theorem r_is_int {st : Store} {i : Int} : f__law_is_int [.int i] st = .ok (.bl true) st := by
  simp [f__law_is_int, runB_e, m__law_is_int]

/-! draws -/
theorem r_begin {ns : List Int} (hl : ns.length ≤ 63) : ∃ st', f__law_begin [.rol (ns.map D.int)] [] = .ok (.ref 1) st' ∧ DS ns st' ∧ st'.length = 2 := by
  obtain ⟨ys, st1, e, ⟨h1, h2⟩, hl2⟩ := comp_inv (q := .fix (ns.map D.int)) (set := gN 1) (fe := eCB fInt (aCons (eVar 1) aNil)) (τ := [some (.rol (ns.map D.int)), none]) (fun acc s => acc = (ns.map D.int).take acc.length ∧ s = ([] : Store)) (fun _ _ _ => rfl) (ns.map D.int) [] [] ⟨rfl, rfl⟩ fun i d acc s hi ha hp => by
    obtain ⟨h1, rfl⟩ := hp
    refine ⟨_, rfl, d, [], ?_, ?_, rfl⟩
    · have : ∃ k, d = .int k := by
        rw [List.getElem?_map] at hi
        cases hz : ns[i]? with
        | none => simp [hz] at hi
        | some k => exact ⟨k, by simpa [hz] using hi.symm⟩
      obtain ⟨k, rfl⟩ := this
      simp [gN]
    · simp only [List.length_nil, Nat.zero_add] at ha
      rw [List.length_append, List.length_singleton, ha, List.take_succ, hi, ← ha, ← h1]
      rfl
  have hy : ys = ns.map D.int := by
    rw [h1, List.take_of_length_le]
    simp at hl2
    simp [hl2]
  subst hy h2
  refine ⟨[.lst (ns.map D.int), .lst [.ref 0, .int 0, .int 0, .int 7]], ?_, ⟨rfl, 0, 0, 7, by decide, rfl⟩, rfl⟩
  have e : compL (.fix (ns.map D.int)) (gN 1) tYes (eCB fInt (aCons (eVar 1) aNil)) (wipeD [some (.rol (ns.map D.int)), none] [1]) (ns.map D.int) [] [] = .ok (ns.map D.int) [] := e
  have hs : ns.length ≤ 16777216 := by omega
  simp [f__law_begin, runB_e, m__law_begin, lComp_e, lc1, hs, e]
theorem r_draw {ns : List Int} {st : Store} {many : Int} (H : DS ns st) (h0 : 0 < many) (h1 : many.natAbs.log2 < 9000) :
    ∃ v st', f__law_draw [.ref 1, .int many] st = .ok (.int v) st' ∧ 0 ≤ v ∧ v < many ∧ DS ns st' ∧ Fr st st' := by
  obtain ⟨c0, p, h, q, hp, c1⟩ := H
  have set1 : ∀ p' h' q' : Int, 0 ≤ p' → ∀ s, s = st ∨ (∃ ys, s = st.set 1 (.lst ys)) ∨ (∃ ys zs, s = (st.set 1 (.lst ys)).set 1 (.lst zs)) → DS ns (s.set 1 (.lst [.ref 0, .int p', .int h', .int q'])) ∧ Fr st (s.set 1 (.lst [.ref 0, .int p', .int h', .int q'])) := by
    intro p' h' q' hp' s hs
    have e : s.set 1 (.lst [.ref 0, .int p', .int h', .int q']) = st.set 1 (.lst [.ref 0, .int p', .int h', .int q']) := by
      rcases hs with rfl | ⟨ys, rfl⟩ | ⟨ys, zs, rfl⟩ <;> simp [List.set_set]
    rw [e]
    refine ⟨⟨by rw [lstAt_ne (by decide)]; exact c0, p', h', q', hp', lstAt_set c1⟩, by simp, fun n hn _ => ?_⟩
    rw [List.getElem?_set_ne (Ne.symm hn)]
  have od : ∀ i, okDiv i many = true := fun i => okDiv_of (by omega) h1
  have om : ∀ i, okMod i many = true := fun i => okMod_of (by omega)
  have b0 : ∀ i : Int, 0 ≤ i.fmod many := fun i => Int.fmod_nonneg_of_pos i h0
  have b1 : ∀ i : Int, i.fmod many < many := fun i => Int.fmod_lt_of_pos i h0
  unfold f__law_draw
  rw [runB_e]
  unfold m__law_draw
  by_cases hh : 0 < h
  · obtain ⟨d1, d2⟩ := set1 p (h.fdiv many) q hp st (.inl rfl)
    refine ⟨h.fmod many, _, ?_, b0 _, b1 _, d1, d2⟩
    have x2 : ixN 4 2 = some 2 := rfl
    simp [oIx_ref c1, hh, od, om, oSet_ref c1, x2]
  · -- the size of the script's number here
    have main : ∀ (size : Int) (c : Option D), (0 ≤ size) → ∃ v st', ((sSeq (sAugS oIAdd (eVar 0) (eC (.int 1)) (eC (.int 1)))
        (sSeq (sIf (tBl (eBin oGe (eVar 3) (eBin oMul (eC (.int 2)) (eBin oPow (eC (.int 10)) (eC (.int 18)))))) (sSeq (sSet 2 (eBin oMod (eCB fInt (aCons (eBin oDiv (eVar 3) (eC (.int 2))) aNil)) (eBin oShl (eC (.int 1)) (eC (.int 6000)))))
        (sSeq (sSub (eVar 0) (eC (.int 2)) (eBin oDiv (eVar 2) (eVar 1)))
        (sRet (eBin oMod (eCB fInt (aCons (eVar 2) aNil)) (eVar 1))))) sNil)
        (sSeq (sSub (eVar 0) (eC (.int 3)) (eBin oMod (eCB fInt (aCons (eBin oAdd (eBin oAdd (eBin oAdd (eBin oMul (eBin oIx (eVar 0) (eC (.int 3))) (eC (.int 48271))) (eBin oMul (eBin oMod (eCB fInt (aCons (eVar 3) aNil)) (eC (.int 2147483629))) (eC (.int 16807)))) (eBin oMul (eBin oIx (eVar 0) (eC (.int 1))) (eC (.int 69621)))) (eC (.int 11))) aNil)) (eC (.int 2147483647))))
        (sRet (eBin oMod (eCB fInt (aCons (eBin oDiv (eBin oIx (eVar 0) (eC (.int 3))) (eC (.int 16))) aNil)) (eVar 1)))))) [some (.ref 1), some (.int many), none, some (.int size), c] st).fin = .ok (.int v) st' ∧ 0 ≤ v ∧ v < many ∧ DS ns st' ∧ Fr st st' := by
      intro size c hs
      have x1 : ixN 4 1 = some 1 := rfl
      have x2 : ixN 4 2 = some 2 := rfl
      have x3 : ixN 4 3 = some 3 := rfl
      obtain ⟨st1, e1⟩ : ∃ st1, st1 = st.set 1 (.lst [.ref 0, .int (p + 1), .int h, .int q]) := ⟨_, rfl⟩
      have l1 : lstAt st1 1 = some [.ref 0, .int (p + 1), .int h, .int q] := by
        rw [e1]
        exact lstAt_set c1
      have d48 : okMul q 48271 = true := okMul_r (by decide)
      have d16 : ∀ i, okMul i 16807 = true := fun i => okMul_r (by decide)
      have d69 : ∀ i, okMul i 69621 = true := fun i => okMul_r (by decide)
      have m1 : ∀ i, okMod i 2147483629 = true := fun i => okMod_of (by decide)
      have m2 : ∀ i, okMod i 2147483647 = true := fun i => okMod_of (by decide)
      have v16 : ∀ i, okDiv i 16 = true := fun i => okDiv_of (by decide) (by decide)
      have v2 : ∀ i, okDiv i 2 = true := fun i => okDiv_of (by decide) (by decide)
      by_cases hz : 2000000000000000000 ≤ size
      · have p1 : okPow 10 18 = true := by decide
        have p2 : okMul 2 1000000000000000000 = true := okMul_r (by decide)
        have p3 : okPow 1 6000 = true := by decide
        obtain ⟨M, eM⟩ : ∃ M : Int, M = 2 ^ 6000 := ⟨_, rfl⟩
        have hM : M ≠ 0 := by
          have : (0 : Int) < 2 ^ 6000 := Int.pow_pos (by decide)
          omega
        have om2 : ∀ i, okMod i M = true := fun i => okMod_of hM
        obtain ⟨d1, d2⟩ := set1 (p + 1) (((size.fdiv 2).fmod M).fdiv many) q (by omega) st1 (.inr (.inl ⟨_, e1⟩))
        refine ⟨((size.fdiv 2).fmod M).fmod many, _, ?_, b0 _, b1 _, d1, d2⟩
        simp [oGetL_ref c1, oSet_ref c1, x1, x2, ← e1, hz, p1, p2, p3, v2, od, om, ← eM, om2, oSet_ref l1]
      · have p1 : okPow 10 18 = true := by decide
        have p2 : okMul 2 1000000000000000000 = true := okMul_r (by decide)
        obtain ⟨q', eq'⟩ : ∃ q', q' = (q * 48271 + size.fmod 2147483629 * 16807 + (p + 1) * 69621 + 11).fmod 2147483647 := ⟨_, rfl⟩
        obtain ⟨d1, d2⟩ := set1 (p + 1) h q' (by omega) st1 (.inr (.inl ⟨_, e1⟩))
        have l2 : lstAt (st1.set 1 (.lst [.ref 0, .int (p + 1), .int h, .int q'])) 1 = some [.ref 0, .int (p + 1), .int h, .int q'] := lstAt_set l1
        refine ⟨(q'.fdiv 16).fmod many, _, ?_, b0 _, b1 _, d1, d2⟩
        simp [oGetL_ref c1, oSet_ref c1, x1, x2, x3, ← e1, hz, p1, p2, v2, v16, od, om, m1, m2, d48, d16, d69, oIx_ref l1, oSet_ref l1, oIx_ref l2, ← eq']
    by_cases hp2 : p < ns.length
    · have hc : ∃ c : Int, atI (ns.map D.int) p = some (.int c) := by
        have hp3 : p.toNat < ns.length := by omega
        refine ⟨ns[p.toNat], ?_⟩
        have := atI_nat (xs := ns.map D.int) (j := p.toNat) (v := D.int ns[p.toNat]) (by simp [hp3])
        rwa [Int.toNat_of_nonneg hp] at this
      obtain ⟨c, hc⟩ := hc
      obtain ⟨v, st', e, r⟩ := main (2 * (c.natAbs : Nat) + (if c < 0 then 1 else 0)) (some (.int c)) (by split <;> omega)
      refine ⟨v, st', ?_, r⟩
      rw [← e]
      have k2 : okMul 2 (c.natAbs : Nat) = true := okMul_l (by decide)
      simp [oIx_ref c1, hh, oIx_ref c0, fLen_ref c0, hp2, hc, k2]
    · obtain ⟨v, st', e, r⟩ := main 0 none (by omega)
      refine ⟨v, st', ?_, r⟩
      rw [← e]
      simp [oIx_ref c1, hh, oIx_ref c0, fLen_ref c0, hp2]

/-- a fraction in lowest terms, of at most so many bits -/
structure FQ (k : Nat) (a b : Int) : Prop where
  pos : 0 < b
  cop : Nat.gcd a.natAbs b.natAbs = 1
  an : a.natAbs < 2 ^ k
  bn : b.natAbs < 2 ^ k
theorem FQ.up {k l : Nat} {a b : Int} (h : FQ k a b) (hl : k ≤ l) : FQ l a b := ⟨h.pos, h.cop, lt_up h.an hl, lt_up h.bn hl⟩
theorem FQ.rat {k : Nat} {n d : Int} (h : d ≠ 0) (hn : n.natAbs < 2 ^ k) (hd : d.natAbs < 2 ^ k) : FQ k (rn n d) (rd n d) :=
  ⟨rat_pos h, rat_cop h, Nat.lt_of_le_of_lt (rn_le h) hn, Nat.lt_of_le_of_lt (rd_le h) hd⟩
theorem r_ratio {n d : Int} {st : Store} {k : Nat} (h : d ≠ 0) (hb : d.natAbs < 2 ^ k) (hk : k ≤ 9000) : f_ratio [.int n, .int d] st = .ok (rat n d) st := by
  have o : ∀ i, okDiv i (com n d) = true := fun i => okDiv_com h hb hk
  unfold rat fr rn rd
  by_cases hd : d < 0
  · have e : com n d = -((Nat.gcd n.natAbs d.natAbs : Nat) : Int) := by unfold com; rw [if_pos hd]
    rw [e] at o
    simp [f_ratio, runB_e, m_ratio, h, hd, e, o]
  · have e : com n d = ((Nat.gcd n.natAbs d.natAbs : Nat) : Int) := by unfold com; rw [if_neg hd]
    rw [e] at o
    simp [f_ratio, runB_e, m_ratio, h, hd, e, o]
theorem r_f {n d : Int} {st : Store} {k : Nat} (h : d ≠ 0) (hb : d.natAbs < 2 ^ k) (hk : k ≤ 9000) : f__law_f [.int n, .int d] st = .ok (rat n d) st := by
  have o : ∀ i, okDiv i (com n d) = true := fun i => okDiv_com h hb hk
  have g : f__law_gcd [.int n, .int d] st = _ := r_gcd (lt_up hb hk)
  unfold rat fr rn rd
  by_cases hd : d < 0
  · have e : com n d = -((Nat.gcd n.natAbs d.natAbs : Nat) : Int) := by unfold com; rw [if_pos hd]
    rw [e] at o
    simp [f__law_f, runB_e, m__law_f, h, hd, e, o, g]
  · have e : com n d = ((Nat.gcd n.natAbs d.natAbs : Nat) : Int) := by unfold com; rw [if_neg hd]
    rw [e] at o
    simp [f__law_f, runB_e, m__law_f, h, hd, e, o, g]
section
variable {k l : Nat} {a b c e : Int} {st : Store}
theorem om {i j : Int} (h1 : i.natAbs < 2 ^ k) (h2 : j.natAbs < 2 ^ l) (h : k + l ≤ 9000) : okMul i j = true := okMul_of h1 h2 (by omega)
theorem ne2 {b e : Int} (hb : 0 < b) (he : 0 < e) : b * e ≠ 0 := Int.ne_of_gt (Int.mul_pos hb he)
end

/-! fractions as rational numbers -/
def qd (q : Rat) : D := fr q.num (q.den : Nat)
theorem den_ne {q : Rat} : ((q.den : Nat) : Int) ≠ 0 := by have := q.den_pos; omega
theorem qd_inj {x y : Rat} (h : qd x = qd y) : x = y := by
  unfold qd fr at h
  have h1 := D.tup.inj h
  have h2 := D.int.inj (List.cons.inj h1).1
  have h3 := D.int.inj (List.cons.inj (List.cons.inj h1).2).1
  exact Rat.ext h2 (by omega)
theorem rat_qd {n d : Int} (h : d ≠ 0) : rat n d = qd (Rat.divInt n d) := by
  obtain ⟨q, eq⟩ : ∃ q, q = Rat.divInt n d := ⟨_, rfl⟩
  have e := Rat.num_divInt_den q
  rw [eq, ← eq] at e
  have e2 : q.num * d = n * (q.den : Nat) := (Rat.divInt_eq_divInt_iff den_ne h).mp (by rw [Rat.num_divInt_den]; exact eq)
  have e3 := rat_cross (n := n) (d := d) h
  have e4 : rn n d * (q.den : Nat) = q.num * rd n d := by
    refine Int.eq_of_mul_eq_mul_right h ?_
    calc rn n d * (q.den : Nat) * d = (rn n d * d) * (q.den : Nat) := by ac_rfl
      _ = (n * rd n d) * (q.den : Nat) := by rw [e3]
      _ = (n * (q.den : Nat)) * rd n d := by ac_rfl
      _ = (q.num * d) * rd n d := by rw [e2]
      _ = _ := by ac_rfl
  have := low_eq (rat_pos h) (by have := q.den_pos; omega : (0 : Int) < (q.den : Nat)) (rat_cop h) (by rw [Int.natAbs_natCast]; exact q.reduced) e4
  unfold rat qd
  rw [← eq, this.1, this.2]
/-- of so many bits -/
structure QB (k : Nat) (q : Rat) : Prop where
  an : q.num.natAbs < 2 ^ k
  bn : q.den < 2 ^ k
theorem QB.up {k l : Nat} {q : Rat} (h : QB k q) (hl : k ≤ l) : QB l q := ⟨lt_up h.an hl, lt_up h.bn hl⟩
theorem QB.fq {k : Nat} {q : Rat} (h : QB k q) : FQ k q.num (q.den : Nat) := ⟨by have := q.den_pos; omega, by rw [Int.natAbs_natCast]; exact q.reduced, h.an, by rw [Int.natAbs_natCast]; exact h.bn⟩
theorem QB.bi {k : Nat} {q : Rat} (h : QB k q) : ((q.den : Nat) : Int).natAbs < 2 ^ k := by rw [Int.natAbs_natCast]; exact h.bn
theorem QB.of {k : Nat} {n d : Int} (h : d ≠ 0) (hn : n.natAbs < 2 ^ k) (hd : d.natAbs < 2 ^ k) : QB k (Rat.divInt n d) := by
  have e := rat_qd (n := n) h
  unfold rat qd fr at e
  have h1 := D.tup.inj e
  have h2 := D.int.inj (List.cons.inj h1).1
  have h3 := D.int.inj (List.cons.inj (List.cons.inj h1).2).1
  refine ⟨by rw [← h2]; exact Nat.lt_of_le_of_lt (rn_le h) hn, ?_⟩
  have := Nat.lt_of_le_of_lt (rd_le (n := n) h) hd
  rw [h3, Int.natAbs_natCast] at this
  exact this
theorem QB.sub {k l : Nat} {x y : Rat} (hx : QB k x) (hy : QB l y) : QB (k + l + 1) (x - y) := by
  rw [Rat.sub_def', ← Rat.divInt_ofNat]
  refine .of (by have := x.den_pos; have := y.den_pos; have := Nat.mul_pos x.den_pos y.den_pos; omega) (sub_lt (mul_lt hx.an hy.bi) (by rw [Nat.add_comm k l]; exact mul_lt hy.an hx.bi)) (lt_up (k := k + l) ?_ (by omega))
  rw [Int.natAbs_natCast, Nat.pow_add]
  exact Nat.mul_lt_mul'' hx.bn hy.bn
theorem QB.add {k l : Nat} {x y : Rat} (hx : QB k x) (hy : QB l y) : QB (k + l + 1) (x + y) := by
  rw [Rat.add_def', ← Rat.divInt_ofNat]
  refine .of (by have := x.den_pos; have := y.den_pos; have := Nat.mul_pos x.den_pos y.den_pos; omega) (add_lt (mul_lt hx.an hy.bi) (by rw [Nat.add_comm k l]; exact mul_lt hy.an hx.bi)) (lt_up (k := k + l) ?_ (by omega))
  rw [Int.natAbs_natCast, Nat.pow_add]
  exact Nat.mul_lt_mul'' hx.bn hy.bn
theorem QB.mul {k l : Nat} {x y : Rat} (hx : QB k x) (hy : QB l y) : QB (k + l) (x * y) := by
  rw [Rat.mul_def', ← Rat.divInt_ofNat]
  refine .of (by have := x.den_pos; have := y.den_pos; have := Nat.mul_pos x.den_pos y.den_pos; omega) (mul_lt hx.an hy.an) ?_
  rw [Int.natAbs_natCast, Nat.pow_add]
  exact Nat.mul_lt_mul'' hx.bn hy.bn
theorem num_ne {y : Rat} (h : y ≠ 0) : y.num ≠ 0 := fun e => h (Rat.num_eq_zero.mp e)
theorem div_eq {x y : Rat} : x / y = Rat.divInt (x.num * (y.den : Nat)) ((x.den : Nat) * y.num) := by
  rw [Rat.div_def, Rat.inv_def]
  have := Rat.num_divInt_den x
  conv => lhs; lhs; rw [← this]
  rw [Rat.divInt_mul_divInt]
theorem QB.div {k l : Nat} {x y : Rat} (hx : QB k x) (hy : QB l y) (h : y ≠ 0) : QB (k + l) (x / y) := by
  rw [div_eq]
  exact .of (Int.mul_ne_zero den_ne (num_ne h)) (mul_lt hx.an hy.bi) (mul_lt hx.bi hy.an)
theorem r_ratioQ {n d : Int} {st : Store} {k : Nat} (h : d ≠ 0) (hb : d.natAbs < 2 ^ k) (hk : k ≤ 9000) : f_ratio [.int n, .int d] st = .ok (qd (Rat.divInt n d)) st := by
  rw [← rat_qd h]
  exact r_ratio h hb hk
theorem r_fQ {n d : Int} {st : Store} {k : Nat} (h : d ≠ 0) (hb : d.natAbs < 2 ^ k) (hk : k ≤ 9000) : f__law_f [.int n, .int d] st = .ok (qd (Rat.divInt n d)) st := by
  rw [← rat_qd h]
  exact r_f h hb hk
theorem lt_dec {x y : Rat} : decide (x.num * (y.den : Nat) < y.num * (x.den : Nat)) = decide (x < y) := by
  have := Rat.lt_iff x y
  exact decide_eq_decide.mpr this.symm
theorem qd_tup {x : Rat} : qd x = .tup [.int x.num, .int (x.den : Nat)] := rfl
theorem eq_qd {x y : Rat} {st : Store} : oEq (qd x) (qd y) st = .ok (.bl (decide (x = y))) st := by
  have e : ([D.int x.num, D.int (x.den : Nat)] = [D.int y.num, D.int (y.den : Nat)]) = (x = y) := propext ⟨fun h => qd_inj (congrArg D.tup h), fun h => by rw [h]⟩
  rw [qd_tup, qd_tup, oEq_tup (by simp) (by simp)]
  simp only [e]
theorem ne_qd {x y : Rat} {st : Store} : oNe (qd x) (qd y) st = .ok (.bl (!(decide (x = y)))) st := by
  have e : ([D.int x.num, D.int (x.den : Nat)] = [D.int y.num, D.int (y.den : Nat)]) = (x = y) := propext ⟨fun h => qd_inj (congrArg D.tup h), fun h => by rw [h]⟩
  rw [qd_tup, qd_tup, oNe_tup (by simp) (by simp)]
  simp only [e]
theorem one_qd : D.tup [.int 1, .int 1] = qd 1 := rfl
theorem zero_qd : D.tup [.int 0, .int 1] = qd 0 := rfl

theorem r_overQ {k l : Nat} {x y : Rat} {st : Store} (hx : QB k x) (hy : QB l y) (h : y ≠ 0) (hk : k + l ≤ 9000) : f_over [qd x, qd y] st = .ok (qd (x / y)) st := by
  have o1 := om hx.an hy.bi (by omega)
  have o2 := om hx.bi hy.an (by omega)
  have z := r_ratioQ (st := st) (n := x.num * (y.den : Nat)) (Int.mul_ne_zero den_ne (num_ne h)) (mul_lt hx.bi hy.an) hk
  rw [← div_eq] at z
  rw [qd_tup] at z
  simp [f_over, runB_e, m_over, qd_tup, o1, o2, z]

theorem r_minusQ {k l : Nat} {x y : Rat} {st : Store} (hx : QB k x) (hy : QB l y) (hk : k + l ≤ 9000) : f_minus [qd x, qd y] st = .ok (qd (x - y)) st := by
  have o1 := om hx.an hy.bi (by omega)
  have o2 := om hy.an hx.bi (by omega)
  have o3 := om hx.bi hy.bi (by omega)
  have z := r_ratioQ (st := st) (n := x.num * (y.den : Nat) - y.num * (x.den : Nat)) (d := (x.den : Nat) * (y.den : Nat)) (Int.mul_ne_zero den_ne den_ne) (mul_lt hx.bi hy.bi) hk
  rw [← Int.natCast_mul, Rat.divInt_ofNat, ← Rat.sub_def', Int.natCast_mul] at z
  rw [qd_tup] at z
  simp [f_minus, runB_e, m_minus, qd_tup, o1, o2, o3, z]

theorem r_belowQ {k l : Nat} {x y : Rat} {st : Store} (hx : QB k x) (hy : QB l y) (hk : k + l ≤ 9000) : f_is_below [qd x, qd y] st = .ok (.bl (decide (x < y))) st := by
  have o1 := om hx.an hy.bi (by omega)
  have o2 := om hy.an hx.bi (by omega)
  rw [← lt_dec]
  simp [f_is_below, runB_e, m_is_below, qd_tup, o1, o2]

theorem r_llessQ {k l : Nat} {x y : Rat} {st : Store} (hx : QB k x) (hy : QB l y) (hk : k + l ≤ 9000) : f__law_less [qd x, qd y] st = .ok (.bl (decide (x < y))) st := by
  have o1 := om hx.an hy.bi (by omega)
  have o2 := om hy.an hx.bi (by omega)
  rw [← lt_dec]
  simp [f__law_less, runB_e, m__law_less, qd_tup, o1, o2]
theorem r_is_fracQ {k : Nat} {x : Rat} {st : Store} (hx : QB k x) (hk : k ≤ 8000) : f__law_is_frac [qd x] st = .ok (.bl true) st := by
  have g : f__law_gcd [.int x.num, .int (x.den : Nat)] st = _ := r_gcd (lt_up hx.bi (by omega))
  rw [Int.natAbs_natCast, show x.num.natAbs.gcd x.den = 1 from x.reduced] at g
  have h1 : (1 : Int) ≤ (x.den : Nat) := by have := x.den_pos; omega
  simp [f__law_is_frac, runB_e, m__law_is_frac, qd_tup, r_is_int, g, h1]
/-- the greatest -/
def gmax (x : Rat) (l : List Rat) : Rat := l.foldl (fun m p => if m < p then p else m) x
theorem r_lgreatQ {k m : Nat} {x : Rat} {l : List Rat} {st : Store} (hm : lstAt st m = some ((x :: l).map qd)) (hx : ∀ p ∈ x :: l, QB k p) (hk : k ≤ 4000) : f__law_great [.ref m] st = .ok (qd (gmax x (x :: l))) st := by
  have main := for_fold (q := .cell m ((x :: l).map qd)) (set := gN 2) (u := sIf (tVal (eCall 2 f__law_less (aCons (eVar 1) (aCons (eVar 2) aNil)))) (sSet 1 (eVar 2)) sNil) (st := st) (by simp [Sq.chk, hm]) qd (fun m p => if m < p then p else m) (fun b t => [some (.ref m), some (qd b), t]) (fun b => QB k b) (x :: l) x none (hx x (List.mem_cons_self ..)) (fun b t a ha hb => by
    have h1 := hx a ha
    refine ⟨by split <;> assumption, [some (.ref m), some (qd b), some (qd a)], rfl, ?_⟩
    have h2 := r_llessQ (st := st) hb h1 (by omega)
    by_cases h : b < a
    · rw [decide_eq_true h] at h2; simp [h2, if_pos h]
    · rw [decide_eq_false h] at h2; simp [h2, if_neg h])
  obtain ⟨⟨t', e⟩, _⟩ := main
  obtain ⟨L, eL⟩ : ∃ L, L = (x :: l).map qd := ⟨_, rfl⟩
  have h0 : atI L 0 = some (qd x) := by rw [eL, List.map_cons, atI_0]
  rw [← eL] at e hm
  unfold f__law_great
  rw [runB_e]
  unfold m__law_great
  simp [sFor_e, oIx_ref hm, h0, dSq_ref hm, List.replicate, e]
  simp [gmax]

/-! rows of whole numbers in lowest terms -/
def itup (cs : List Int) : D := .tup (cs.map D.int)
def lg (g : Nat) (l : List Int) : Nat := l.foldl (fun a w => Nat.gcd a w.natAbs) g
theorem lg_dvd : ∀ (l : List Int) (g : Nat), lg g l ∣ g ∧ ∀ w ∈ l, lg g l ∣ w.natAbs
  | [], g => ⟨Nat.dvd_refl _, by simp⟩
  | w :: l, g => by
    have ih := lg_dvd l (Nat.gcd g w.natAbs)
    refine ⟨Nat.dvd_trans ih.1 (Nat.gcd_dvd_left ..), fun v hv => ?_⟩
    rcases List.mem_cons.mp hv with rfl | hv
    · exact Nat.dvd_trans ih.1 (Nat.gcd_dvd_right ..)
    · exact ih.2 v hv
theorem dvd_lg {d : Nat} : ∀ (l : List Int) (g : Nat), d ∣ g → (∀ w ∈ l, d ∣ w.natAbs) → d ∣ lg g l
  | [], g, h, _ => h
  | w :: l, g, h, hl => dvd_lg l _ (Nat.dvd_gcd h (hl w (List.mem_cons_self ..))) fun v hv => hl v (List.mem_cons_of_mem _ hv)
theorem lg_pos {l : List Int} {w : Int} (hw : w ∈ l) (h : w ≠ 0) : 0 < lg 0 l := by
  refine Nat.pos_of_ne_zero fun e => ?_
  have := (lg_dvd l 0).2 w hw
  rw [e] at this
  have := Nat.eq_zero_of_zero_dvd this
  omega
theorem lg_le {l : List Int} {w : Int} (hw : w ∈ l) (h : w ≠ 0) : lg 0 l ≤ w.natAbs := Nat.le_of_dvd (by omega) ((lg_dvd l 0).2 w hw)
structure Low (xs : List Int) : Prop where
  nn : ∀ x ∈ xs, 0 ≤ x
  g1 : lg 0 xs = 1
theorem low_red {ws : List Int} (h : ∀ w ∈ ws, 0 ≤ w) (hg : 0 < lg 0 ws) : Low (ws.map fun w => w.fdiv (lg 0 ws : Nat)) ∧ ∀ w ∈ ws, (lg 0 ws : Nat) * w.fdiv (lg 0 ws : Nat) = w := by
  have e : ∀ w ∈ ws, (lg 0 ws : Nat) * w.fdiv (lg 0 ws : Nat) = w := fun w hw => by
    have h1 : ((lg 0 ws : Nat) : Int) ∣ w := by
      have := (lg_dvd ws 0).2 w hw
      exact Int.ofNat_dvd_left.mpr this
    rw [Int.fdiv_eq_ediv_of_nonneg _ (by omega)]
    exact Int.mul_ediv_cancel' h1
  refine ⟨⟨fun x hx => ?_, ?_⟩, e⟩
  · obtain ⟨w, hw, rfl⟩ := List.mem_map.mp hx
    exact Int.fdiv_nonneg (h w hw) (by omega)
  · have h1 : (lg 0 ws) * lg 0 (ws.map fun w => w.fdiv (lg 0 ws : Nat)) ∣ lg 0 ws := by
      refine dvd_lg ws 0 (Nat.dvd_zero _) fun w hw => ?_
      have h2 := (lg_dvd (ws.map fun w => w.fdiv (lg 0 ws : Nat)) 0).2 _ (List.mem_map.mpr ⟨w, hw, rfl⟩)
      have h3 := congrArg Int.natAbs (e w hw)
      rw [Int.natAbs_mul, Int.natAbs_natCast] at h3
      rw [← h3]
      exact Nat.mul_dvd_mul_left _ h2
    obtain ⟨c, hc⟩ := h1
    have h4 : lg 0 (ws.map fun w => w.fdiv (lg 0 ws : Nat)) * c = 1 := by
      refine Nat.eq_of_mul_eq_mul_left hg ?_
      rw [Nat.mul_one, ← Nat.mul_assoc]
      exact hc.symm
    exact Nat.eq_one_of_mul_eq_one_right h4
theorem r_reduced {st : Store} {m : Nat} {ws : List Int} (hm : lstAt st m = some (ws.map D.int)) (hl : ws.length ≤ 16777216) (hg : 0 < lg 0 ws) (hb : lg 0 ws < 2 ^ 8000) : f_reduced [.ref m] st = .ok (itup (ws.map fun w => w.fdiv (lg 0 ws : Nat))) st := by
  have main := for_fold (q := .cell m (ws.map D.int)) (set := gN 2) (u := sSet 1 (eCB fGcd (aCons (eVar 1) (aCons (eVar 2) aNil)))) (st := st) (by simp [Sq.chk, hm]) D.int (fun (a : Nat) (w : Int) => Nat.gcd a w.natAbs) (fun b t => [some (.ref m), some (.int (b : Nat)), t]) (fun _ => True) ws 0 none trivial (fun b t a ha _ => ⟨trivial, [some (.ref m), some (.int (b : Nat)), some (.int a)], rfl, by simp⟩)
  obtain ⟨⟨t', e⟩, _⟩ := main
  have od : ∀ i, okDiv i (lg 0 ws : Nat) = true := fun i => okDiv_of (by omega) (by
    rw [Int.natAbs_natCast]
    exact Nat.lt_of_le_of_lt (log2_le hb) (by decide))
  have c := comp_map (q := .cell m (ws.map D.int)) (set := gN 2) (fe := eBin oDiv (eVar 2) (eVar 1)) (τ := [some (.ref m), some (.int (lg 0 ws : Nat)), none]) (st := st) (by simp [Sq.chk, hm]) D.int (fun w => .int (w.fdiv (lg 0 ws : Nat))) ws [] (fun w _ => ⟨[some (.ref m), some (.int (lg 0 ws : Nat)), some (.int w)], rfl, by simp [od]⟩)
  rw [List.nil_append] at c
  obtain ⟨G, eG⟩ : ∃ G, G = lg 0 ws := ⟨_, rfl⟩
  have e : forL (.cell m (ws.map D.int)) (gN 2) (sSet 1 (eCB fGcd (aCons (eVar 1) (aCons (eVar 2) aNil)))) (ws.map D.int) [some (.ref m), some (.int 0), none] st = .nx [some (.ref m), some (.int (lg 0 ws : Nat)), t'] st := e
  rw [← eG] at e c ⊢
  have er : (ws.map fun w => D.int (w.fdiv (G : Nat))) = (ws.map fun w => w.fdiv (G : Nat)).map D.int := by rw [List.map_map]; rfl
  rw [er] at c
  obtain ⟨R, eR⟩ : ∃ R, R = ws.map fun w => w.fdiv (G : Nat) := ⟨_, rfl⟩
  rw [← eR] at c ⊢
  obtain ⟨W, eW⟩ : ∃ W, W = ws.map D.int := ⟨_, rfl⟩
  have lW : W.length ≤ 16777216 := by rw [eW, List.length_map]; exact hl
  rw [← eW] at e c hm
  unfold f_reduced
  rw [runB_e]
  unfold m_reduced
  simp [sFor_e, dSq_ref hm, List.replicate, e, lComp_e, lc1, wipeD, lW, c]
  rfl
/-- whole numbers in proportion to fractions -/
def Prp (xs : List Int) (ps : List Rat) : Prop := ∃ c : Rat, 0 < c ∧ xs.map (fun x : Int => (x : Rat)) = ps.map (c * ·)
theorem lg_mul {c : Nat} : ∀ (l : List Int) (g : Nat), lg (c * g) (l.map fun w => (c : Int) * w) = c * lg g l
  | [], g => rfl
  | w :: l, g => by
    have ih := lg_mul (c := c) l (Nat.gcd g w.natAbs)
    show lg (Nat.gcd (c * g) ((c : Int) * w).natAbs) _ = _
    rw [Int.natAbs_mul, Int.natAbs_natCast, Nat.gcd_mul_left]
    exact ih
theorem low_uniq {xs ys : List Int} (hx : Low xs) (hy : Low ys) {ps : List Rat} (h1 : Prp xs ps) (h2 : Prp ys ps) : xs = ys := by
  obtain ⟨c, hc, e1⟩ := h1
  obtain ⟨d, hd, e2⟩ := h2
  have hlen : xs.length = ys.length := by
    have a := congrArg List.length e1
    have b := congrArg List.length e2
    simp at a b
    omega
  have pt : ∀ i (h : i < xs.length) (h' : i < ys.length), (xs[i] : Rat) * d = (ys[i] : Rat) * c := fun i h h' => by
    have hp : i < ps.length := by
      have a := congrArg List.length e1
      simp at a
      omega
    have a : (xs[i] : Rat) = c * ps[i] := by
      have := congrArg (fun l => l[i]?) e1
      simpa [h, hp] using this
    have b : (ys[i] : Rat) = d * ps[i] := by
      have := congrArg (fun l => l[i]?) e2
      simpa [h', hp] using this
    rw [a, b]
    grind
  -- to whole numbers
  have hr : ∃ m n : Nat, 0 < m ∧ 0 < n ∧ ∀ i (h : i < xs.length) (h' : i < ys.length), (n : Int) * xs[i] = (m : Int) * ys[i] := by
    have hq : (0 : Rat) < c / d := by
      rw [Rat.div_def]
      exact Rat.mul_pos hc (Rat.inv_pos.mpr hd)
    obtain ⟨q, eq⟩ : ∃ q, q = c / d := ⟨_, rfl⟩
    rw [← eq] at hq
    have hn : 0 < q.num := by
      have h1 : 0 ≤ q.num := Rat.num_nonneg.mpr (Rat.le_of_lt hq)
      have h2 : q.num ≠ 0 := fun e => Rat.ne_of_gt hq (Rat.num_eq_zero.mp e)
      omega
    refine ⟨q.num.toNat, q.den, by omega, q.den_pos, fun i h h' => ?_⟩
    have a := pt i h h'
    have hq2 : q * q.den = q.num := by
      have := Rat.num_divInt_den q
      rw [Rat.divInt_eq_div] at this
      have hz : ((q.den : Int) : Rat) ≠ 0 := by
        have := q.den_pos
        rw [Rat.intCast_natCast]
        exact fun e => by
          have := Rat.natCast_eq_zero_iff.mp e
          omega
      have h3 : ((q.num : Rat) / ((q.den : Int) : Rat)) * ((q.den : Int) : Rat) = q.num := Rat.div_mul_cancel hz
      rw [this] at h3
      exact h3
    have hcd : c = q * d := by
      rw [eq, Rat.div_mul_cancel (Rat.ne_of_gt hd)]
    have e3 : ((q.den : Nat) : Rat) * (xs[i] : Rat) = (q.num : Rat) * (ys[i] : Rat) := by
      have hd0 : d ≠ 0 := Rat.ne_of_gt hd
      have : (xs[i] : Rat) = q * (ys[i] : Rat) := by
        have h4 : (xs[i] : Rat) * d = (q * (ys[i] : Rat)) * d := by rw [a, hcd]; grind
        have := congrArg (· / d) h4
        simpa [Rat.mul_div_cancel hd0] using this
      rw [this, ← hq2]
      grind
    have e4 : (((q.den : Nat) : Int) * xs[i] : Int) = q.num * ys[i] := by
      apply Rat.intCast_inj.mp
      push_cast
      exact e3
    rw [e4]
    congr 1
    omega
  obtain ⟨m, n, hm, hn, hi⟩ := hr
  have el : (xs.map fun w => (n : Int) * w) = ys.map fun w => (m : Int) * w := by
    refine List.ext_getElem (by simp [hlen]) fun i h h' => ?_
    simp at h h'
    simpa using hi i h h'
  have a := lg_mul (c := n) xs 0
  have b := lg_mul (c := m) ys 0
  rw [el, Nat.mul_zero, hx.g1] at a
  rw [Nat.mul_zero, hy.g1] at b
  have mn : m = n := by omega
  refine List.ext_getElem hlen fun i h h' => ?_
  have := hi i h h'
  rw [mn] at this
  exact Int.eq_of_mul_eq_mul_left (by omega) this

/-! chances, losses -/
/-- a row of weights -/
structure Wt (B : Nat) (ws : List Int) : Prop where
  nn : ∀ w ∈ ws, 0 ≤ w
  pos : 0 < ws.sum
  bd : ws.sum.natAbs < 2 ^ B
  len : ws.length ≤ 16777216
theorem sum_ge : ∀ {ws : List Int} {w : Int}, (∀ w ∈ ws, 0 ≤ w) → w ∈ ws → w ≤ ws.sum ∧ 0 ≤ ws.sum - w
  | v :: ws, w, h, hw => by
    have hs : 0 ≤ ws.sum := by
      have : ∀ l : List Int, (∀ w ∈ l, 0 ≤ w) → 0 ≤ l.sum := fun l => by
        induction l with
        | nil => simp
        | cons a l ih =>
          intro h
          have := ih fun w hw => h w (List.mem_cons_of_mem _ hw)
          have := h a (List.mem_cons_self ..)
          rw [List.sum_cons]
          omega
      exact this ws fun w hw => h w (List.mem_cons_of_mem _ hw)
    rw [List.sum_cons]
    have hv := h v (List.mem_cons_self ..)
    rcases List.mem_cons.mp hw with rfl | hw
    · omega
    · have := sum_ge (fun w hw => h w (List.mem_cons_of_mem _ hw)) hw
      omega
def ch (ws : List Int) (w : Int) : Rat := Rat.divInt w ws.sum
theorem Wt.qb {B : Nat} {ws : List Int} (h : Wt B ws) {w : Int} (hw : w ∈ ws) : QB B (ch ws w) := by
  have := sum_ge h.nn hw
  have := h.nn w hw
  have h2 := h.bd
  have := h.pos
  exact .of (by omega) (by omega) h2
theorem r_chancesQ {B : Nat} {ws : List Int} {st : Store} (h : Wt B ws) (hB : B ≤ 9000) : f_chances [itup ws] st = .ok (.tup (ws.map fun w => qd (ch ws w))) st := by
  have hp := h.pos
  have z : ∀ w, f_ratio [.int w, .int ws.sum] st = .ok (qd (ch ws w)) st := fun w => r_ratioQ (by omega) h.bd hB
  have c := comp_map (q := .fix (ws.map D.int)) (set := gN 2) (fe := eCall 2 f_ratio (aCons (eVar 2) (aCons (eVar 1) aNil))) (τ := [some (itup ws), some (.int ws.sum), none]) (st := st) rfl D.int (fun w => qd (ch ws w)) ws [] (fun w _ => ⟨[some (itup ws), some (.int ws.sum), some (.int w)], rfl, by simp [z]⟩)
  rw [List.nil_append] at c
  obtain ⟨S, eS⟩ : ∃ S, S = ws.sum := ⟨_, rfl⟩
  have e1 : gSum (ws.map D.int) st = .ok (.int S) st := eS ▸ gSum_ints
  rw [← eS] at c
  obtain ⟨W, eW⟩ : ∃ W, W = ws.map D.int := ⟨_, rfl⟩
  have lW : W.length ≤ 16777216 := by rw [eW, List.length_map]; exact h.len
  have eI : itup ws = .tup W := by rw [eW]; rfl
  rw [eI] at c ⊢
  rw [← eW] at c e1
  unfold f_chances
  rw [runB_e]
  unfold m_chances
  simp [List.replicate, e1, lComp_e, lc1, wipeD, lW, c]
theorem zipD_map {α β : Type} {f : α → D} {g : β → D} : ∀ {xs : List α} {ys : List β}, zipD (xs.map f) (ys.map g) = (List.zip xs ys).map fun p => .tup [f p.1, g p.2] := by
  intro xs
  induction xs with
  | nil => intro ys; rfl
  | cons x xs ih =>
    intro ys
    cases ys with
    | nil => rfl
    | cons y ys =>
      have := @ih ys
      simp [zipD] at this ⊢
      try exact this
def od : Option Rat → D
  | none => .non
  | some q => qd q
/-- a factor, a greater loss -/
def fac (P Q : Rat) : Option Rat := if Q = 0 then none else some (P / Q)
def glo (a b : Option Rat) : Option Rat := match a, b with
  | some x, some y => some (if x < y then y else x)
  | _, _ => none
def OB (k : Nat) (a : Option Rat) : Prop := ∀ x, a = some x → QB k x
theorem r_factorQ {k l : Nat} {P Q : Rat} {st : Store} (hP : QB k P) (hQ : QB l Q) (hk : k + l ≤ 9000) : f_factor_of [qd P, qd Q] st = .ok (od (fac P Q)) st := by
  have e : atI [D.int Q.num, .int (Q.den : Nat)] 0 = some (.int Q.num) := atI_0
  unfold f_factor_of fac
  rw [runB_e]
  unfold m_factor_of
  by_cases h : Q = 0
  · subst h
    simp [qd_tup]
    rfl
  · have hn := num_ne h
    have z := r_overQ (st := st) hP hQ h hk
    rw [if_neg h]
    rw [qd_tup (x := Q)] at z ⊢
    simp [e, hn, z]
    rfl
theorem r_greaterQ {k l : Nat} {a b : Option Rat} {st : Store} (ha : OB k a) (hb : OB l b) (hk : k + l ≤ 9000) : f_greater_loss [od a, od b] st = .ok (od (glo a b)) st := by
  unfold f_greater_loss
  rw [runB_e]
  unfold m_greater_loss
  cases a with
  | none => simp [od, glo]
  | some x =>
    cases b with
    | none => simp [od, glo, qd_tup]
    | some y =>
      have z := r_belowQ (st := st) (ha x rfl) (hb y rfl) hk
      have i1 : ∀ s, oIs (qd x) .non s = .ok (.bl false) s := fun _ => rfl
      have i2 : ∀ s, oIs (qd y) .non s = .ok (.bl false) s := fun _ => rfl
      by_cases h : x < y
      · rw [decide_eq_true h] at z
        simp [od, glo, i1, i2, z, h]
      · rw [decide_eq_false h] at z
        simp [od, glo, i1, i2, z, h]
theorem OB.fac {k l : Nat} {P Q : Rat} (hP : QB k P) (hQ : QB l Q) : OB (k + l) (fac P Q) := fun x hx => by
  unfold K25.fac at hx
  split at hx
  · cases hx
  · rename_i h
    cases hx
    exact hP.div hQ h
theorem OB.glo {k : Nat} {a b : Option Rat} (ha : OB k a) (hb : OB k b) : OB k (glo a b) := fun x hx => by
  cases a with
  | none => cases hx
  | some y =>
    cases b with
    | none => cases hx
    | some z =>
      have hx : some (if y < z then z else y) = some x := hx
      split at hx <;> cases hx
      · exact hb _ rfl
      · exact ha _ rfl
def stp (a : Option Rat) (p : Rat × Rat) : Option Rat := if 0 < p.1 then glo a (fac p.1 p.2) else a
def lss (ps : List (Rat × Rat)) : Option Rat := ps.foldl stp (some 1)
def prw (ws vs : List Int) : List (Rat × Rat) := List.zip (ws.map (ch ws)) (vs.map (ch vs))
theorem qb_one {k : Nat} (h : 1 ≤ k) : QB k 1 := ⟨lt_up (k := 1) (by decide) h, lt_up (k := 1) (by decide) h⟩
theorem r_row_lossQ {B : Nat} {ws vs : List Int} {st : Store} (hw : Wt B ws) (hv : Wt B vs) (hl : ws.length = vs.length) (hB : B ≤ 2000) (hB1 : 1 ≤ B) : f_row_loss [itup ws, itup vs] st = .ok (od (lss (prw ws vs))) st ∧ OB (B + B) (lss (prw ws vs)) := by
  have c1 := r_chancesQ (st := st) hw (by omega)
  have c2 := r_chancesQ (st := st) hv (by omega)
  have hq : ∀ p ∈ prw ws vs, QB B p.1 ∧ QB B p.2 := fun p hp => by
    have := List.of_mem_zip hp
    obtain ⟨w, h1, h2⟩ := List.mem_map.mp this.1
    obtain ⟨v, h3, h4⟩ := List.mem_map.mp this.2
    rw [← h2, ← h4]
    exact ⟨hw.qb h1, hv.qb h3⟩
  obtain ⟨A, hA⟩ : ∃ A, A = ws.map fun w => qd (ch ws w) := ⟨_, rfl⟩
  obtain ⟨C, hC⟩ : ∃ C, C = vs.map fun w => qd (ch vs w) := ⟨_, rfl⟩
  have eZ : ∀ s, zip2 (.tup A) (.tup C) s = .ok (.fix ((prw ws vs).map fun p => .tup [qd p.1, qd p.2])) s := fun s => by
    have a1 : A = (ws.map (ch ws)).map qd := by rw [hA, List.map_map]; rfl
    have a2 : C = (vs.map (ch vs)).map qd := by rw [hC, List.map_map]; rfl
    rw [zip2_tup, a1, a2, zipD_map]
    rfl
  rw [← hA] at c1
  rw [← hC] at c2
  have main := for_fold (q := .fix ((prw ws vs).map fun p => D.tup [qd p.1, qd p.2])) (set := gT 2 (gCs 3 (gCs 4 gNil0))) (u := sIf (tBl (eBin oGt (eBin oIx (eVar 3) (eC (.int 0))) (eC (.int 0)))) (sSet 2 (eCall 2 f_greater_loss (aCons (eVar 2) (aCons (eCall 2 f_factor_of (aCons (eVar 3) (aCons (eVar 4) aNil))) aNil)))) sNil) (st := st) rfl (fun p : Rat × Rat => D.tup [qd p.1, qd p.2])
    (fun (b : Option Rat × Option D × Option D) p => (stp b.1 p, some (qd p.1), some (qd p.2))) (fun b _ => [some (itup ws), some (itup vs), some (od b.1), b.2.1, b.2.2]) (fun b => OB (B + B) b.1) (prw ws vs) (some 1, none, none) none (fun x hx => by cases hx; exact qb_one (by omega)) (fun b t p hp hb => by
      have hp := hq p hp
      have o1 := OB.fac hp.1 hp.2
      refine ⟨?_, [some (itup ws), some (itup vs), some (od b.1), some (qd p.1), some (qd p.2)], rfl, ?_⟩
      · show OB _ (stp b.1 p)
        unfold stp
        split
        · exact hb.glo o1
        · exact hb
      · have z1 := r_factorQ (st := st) hp.1 hp.2 (by omega)
        have z2 := r_greaterQ (st := st) hb o1 (by omega)
        have i0 : ∀ s, oIx (qd p.1) (.int 0) s = .ok (.int p.1.num) s := fun s => by rw [qd_tup]; simp
        have hn : (0 < p.1.num) = (0 < p.1) := by
          refine propext ⟨fun h => ?_, fun h => ?_⟩
          · exact Rat.lt_of_le_of_ne (Rat.num_nonneg.mp (by omega)) (fun e => by rw [← e] at h; simp at h)
          · have a := Rat.num_nonneg.mpr (Rat.le_of_lt h)
            have b := num_ne (Rat.ne_of_gt h)
            omega
        unfold stp
        by_cases h : 0 < p.1
        · have h' : 0 < p.1.num := by rw [hn]; exact h
          simp [i0, h', h, z1, z2]
        · have h' : ¬ 0 < p.1.num := by rw [hn]; exact h
          simp [i0, h', h])
  obtain ⟨⟨t', e⟩, h2⟩ := main
  have hfst : ∀ (l : List (Rat × Rat)) (a : Option Rat) (x y : Option D), (l.foldl (fun (b : Option Rat × Option D × Option D) p => (stp b.1 p, some (qd p.1), some (qd p.2))) (a, x, y)).1 = l.foldl stp a := fun l => by
    induction l with
    | nil => intro a x y; rfl
    | cons p l ih => intro a x y; exact ih _ _ _
  refine ⟨?_, ?_⟩
  · have e : forL (.fix ((prw ws vs).map fun p => D.tup [qd p.1, qd p.2])) (gT 2 (gCs 3 (gCs 4 gNil0))) (sIf (tBl (eBin oGt (eBin oIx (eVar 3) (eC (.int 0))) (eC (.int 0)))) (sSet 2 (eCall 2 f_greater_loss (aCons (eVar 2) (aCons (eCall 2 f_factor_of (aCons (eVar 3) (aCons (eVar 4) aNil))) aNil)))) sNil) ((prw ws vs).map fun p => D.tup [qd p.1, qd p.2]) [some (itup ws), some (itup vs), some (qd 1), none, none] st = _ := e
    rw [hfst] at e
    obtain ⟨Z, hZ⟩ : ∃ Z, Z = (prw ws vs).map fun p => D.tup [qd p.1, qd p.2] := ⟨_, rfl⟩
    rw [← hZ] at e eZ
    unfold f_row_loss
    rw [runB_e]
    unfold m_row_loss
    have q1 : q_ONE = qd 1 := rfl
    simp [List.replicate, q1, sFor_e, c1, c2, -zip2_tup, eZ, e]
    rfl
  · rw [hfst] at h2
    exact h2

/-! what a loss is -/
def IsL (ps : List (Rat × Rat)) (o : Option Rat) : Prop := match o with
  | none => ∃ p ∈ ps, 0 < p.1 ∧ p.2 = 0
  | some L => 1 ≤ L ∧ (∀ p ∈ ps, 0 < p.1 → p.2 ≠ 0 ∧ p.1 / p.2 ≤ L) ∧ (L = 1 ∨ ∃ p ∈ ps, 0 < p.1 ∧ p.2 ≠ 0 ∧ L = p.1 / p.2)
theorem isL_stp {ps : List (Rat × Rat)} {a : Option Rat} {p : Rat × Rat} (h : IsL ps a) : IsL (ps ++ [p]) (stp a p) := by
  unfold stp
  cases a with
  | none =>
    obtain ⟨r, hr, h1⟩ := h
    have : (if 0 < p.1 then glo none (fac p.1 p.2) else none) = none := by split <;> rfl
    rw [this]
    exact ⟨r, List.mem_append_left _ hr, h1⟩
  | some L =>
    obtain ⟨h1, h2, h3⟩ := h
    by_cases hp : 0 < p.1
    · rw [if_pos hp]
      unfold fac
      by_cases hq : p.2 = 0
      · rw [if_pos hq]
        exact ⟨p, by simp, hp, hq⟩
      · rw [if_neg hq]
        show IsL _ (some (if L < p.1 / p.2 then p.1 / p.2 else L))
        by_cases hl : L < p.1 / p.2
        · rw [if_pos hl]
          refine ⟨Rat.le_trans h1 (Rat.le_of_lt hl), fun r hr hr1 => ?_, .inr ⟨p, by simp, hp, hq, rfl⟩⟩
          rcases List.mem_append.mp hr with hr | hr
          · exact ⟨(h2 r hr hr1).1, Rat.le_trans (h2 r hr hr1).2 (Rat.le_of_lt hl)⟩
          · rw [List.mem_singleton.mp hr]
            exact ⟨hq, Rat.le_refl⟩
        · rw [if_neg hl]
          refine ⟨h1, fun r hr hr1 => ?_, ?_⟩
          · rcases List.mem_append.mp hr with hr | hr
            · exact h2 r hr hr1
            · rw [List.mem_singleton.mp hr]
              exact ⟨hq, Rat.not_lt.mp hl⟩
          · rcases h3 with h3 | ⟨r, hr, h4⟩
            · exact .inl h3
            · exact .inr ⟨r, List.mem_append_left _ hr, h4⟩
    · rw [if_neg hp]
      refine ⟨h1, fun r hr hr1 => ?_, ?_⟩
      · rcases List.mem_append.mp hr with hr | hr
        · exact h2 r hr hr1
        · rw [List.mem_singleton.mp hr] at hr1
          exact absurd hr1 hp
      · rcases h3 with h3 | ⟨r, hr, h4⟩
        · exact .inl h3
        · exact .inr ⟨r, List.mem_append_left _ hr, h4⟩
theorem isL_fold : ∀ (l done : List (Rat × Rat)) (a : Option Rat), IsL done a → IsL (done ++ l) (l.foldl stp a)
  | [], done, a, h => by rw [List.append_nil]; exact h
  | p :: l, done, a, h => by
    have := isL_fold l (done ++ [p]) (stp a p) (isL_stp h)
    rw [List.append_assoc] at this
    exact this
theorem lss_isL (ps : List (Rat × Rat)) : IsL ps (lss ps) := by
  have := isL_fold ps [] (some 1) ⟨Rat.le_refl, by simp, .inl rfl⟩
  rwa [List.nil_append] at this
theorem isL_uniq {ps : List (Rat × Rat)} {a b : Option Rat} (ha : IsL ps a) (hb : IsL ps b) : a = b := by
  cases a with
  | none =>
    cases b with
    | none => rfl
    | some L =>
      obtain ⟨p, hp, h1, h2⟩ := ha
      exact absurd h2 (hb.2.1 p hp h1).1
  | some L =>
    cases b with
    | none =>
      obtain ⟨p, hp, h1, h2⟩ := hb
      exact absurd h2 (ha.2.1 p hp h1).1
    | some M =>
      have le : ∀ L M : Rat, IsL ps (some L) → IsL ps (some M) → L ≤ M := fun L M ⟨_, _, h3⟩ ⟨g1, g2, _⟩ => by
        rcases h3 with rfl | ⟨p, hp, h4, _, rfl⟩
        · exact g1
        · exact (g2 p hp h4).2
      rw [Rat.le_antisymm (le L M ha hb) (le M L hb ha)]
theorem r_is_lossQ {k : Nat} {a : Option Rat} {st : Store} (hk : OB k a) (h8 : k ≤ 8000) (hp : ∀ x, a = some x → 1 ≤ x) : f__law_is_loss [od a, od a] st = .ok (.bl true) st := by
  unfold f__law_is_loss
  rw [runB_e]
  unfold m__law_is_loss
  cases a with
  | none => simp [od]
  | some x =>
    have z := r_is_fracQ (st := st) (hk x rfl) h8
    have i2 : ∀ s, oIs (qd x) .non s = .ok (.bl false) s := fun _ => rfl
    have h0 : 0 ≤ x.num := Rat.num_nonneg.mpr (Rat.le_trans (by decide) (hp x rfl))
    have i0 : ∀ s, oIx (qd x) (.int 0) s = .ok (.int x.num) s := fun s => by rw [qd_tup]; simp
    have z2 : f__law_is_ratio [qd x] st = .ok (.bl true) st := by
      unfold f__law_is_ratio
      rw [runB_e]
      unfold m__law_is_ratio
      simp [z, i0, h0]
    simp [od, i2, z2, eq_qd]
theorem isL_ge {ps : List (Rat × Rat)} {a : Option Rat} (h : IsL ps a) : ∀ x, a = some x → 1 ≤ x := fun x e => by subst e; exact h.1
/-! sums -/
theorem sum_mul {c : Rat} : ∀ ps : List Rat, (ps.map (c * ·)).sum = c * ps.sum
  | [] => by simp
  | p :: ps => by
    rw [List.map_cons, List.sum_cons, List.sum_cons, sum_mul ps]
    grind
theorem sum_cast : ∀ xs : List Int, (xs.map fun x : Int => (x : Rat)).sum = (xs.sum : Int)
  | [] => by simp
  | x :: xs => by
    rw [List.map_cons, List.sum_cons, List.sum_cons, sum_cast xs, Rat.intCast_add]
/-- the chances of weights in proportion -/
theorem prp_ch {xs : List Int} {ps : List Rat} (h : Prp xs ps) (hs : ps.sum = 1) : xs.map (ch xs) = ps ∧ 0 < xs.sum := by
  obtain ⟨c, hc, e⟩ := h
  have e1 : (xs.sum : Rat) = c := by rw [← sum_cast, e, sum_mul, hs, Rat.mul_one]
  have hp : 0 < xs.sum := by
    have : (0 : Rat) < (xs.sum : Int) := by rw [e1]; exact hc
    exact Rat.intCast_pos.mp this
  refine ⟨?_, hp⟩
  have e2 : xs.map (ch xs) = (xs.map fun x : Int => (x : Rat)).map (· / c) := by
    rw [List.map_map]
    refine List.map_congr_left fun x _ => ?_
    show Rat.divInt x xs.sum = (x : Rat) / c
    rw [Rat.divInt_eq_div, e1]
  rw [e2, e, List.map_map]
  conv => rhs; rw [← List.map_id ps]
  refine List.map_congr_left fun p _ => ?_
  show c * p / c = p
  have hz := Rat.ne_of_gt hc
  grind

/-! lowest: whole numbers from fractions -/
def lc (g : Nat) (ps : List Rat) : Nat := ps.foldl (fun b p => Nat.lcm b p.den) g
theorem lc_dvd : ∀ (ps : List Rat) (g : Nat), g ∣ lc g ps ∧ ∀ p ∈ ps, p.den ∣ lc g ps
  | [], g => ⟨Nat.dvd_refl _, by simp⟩
  | p :: ps, g => by
    have ih := lc_dvd ps (Nat.lcm g p.den)
    refine ⟨Nat.dvd_trans (Nat.dvd_lcm_left ..) ih.1, fun r hr => ?_⟩
    rcases List.mem_cons.mp hr with rfl | hr
    · exact Nat.dvd_trans (Nat.dvd_lcm_right ..) ih.1
    · exact ih.2 r hr
theorem lc_of {N : Nat} : ∀ (ps : List Rat) (g : Nat), g ∣ N → (∀ p ∈ ps, p.den ∣ N) → lc g ps ∣ N
  | [], g, h, _ => h
  | p :: ps, g, h, hp => lc_of ps _ (Nat.lcm_dvd h (hp p (List.mem_cons_self ..))) fun r hr => hp r (List.mem_cons_of_mem _ hr)
def zs (B : Nat) (ps : List Rat) : List Int := ps.map fun p => p.num * ((B : Nat) : Int).fdiv (p.den : Nat)
theorem rat_num (p : Rat) : p * ((p.den : Int) : Rat) = p.num := by
  have h := Rat.num_divInt_den p
  rw [Rat.divInt_eq_div] at h
  have hz : ((p.den : Int) : Rat) ≠ 0 := fun e => by
    have := p.den_pos
    have := Rat.intCast_eq_zero_iff.mp e
    omega
  have := Rat.div_mul_cancel (a := (p.num : Rat)) hz
  rwa [h] at this
theorem zs_eq {B : Nat} {p : Rat} (h : p.den ∣ B) : ((p.num * ((B : Nat) : Int).fdiv (p.den : Nat) : Int) : Rat) = p * ((B : Int) : Rat) := by
  obtain ⟨c, rfl⟩ := h
  have hd : (p.den : Int) ≠ 0 := den_ne
  rw [Int.fdiv_eq_ediv_of_nonneg _ (by omega), Int.natCast_mul, Int.mul_ediv_cancel_left _ hd, Rat.intCast_mul, Rat.intCast_mul, ← rat_num p, Rat.mul_assoc]
theorem sum_red {g : Int} {f : Int → Int} : ∀ {l : List Int}, (∀ w ∈ l, g * f w = w) → g * (l.map f).sum = l.sum
  | [], _ => by simp
  | w :: l, h => by
    rw [List.map_cons, List.sum_cons, List.sum_cons, Int.mul_add, h w (List.mem_cons_self ..), sum_red fun v hv => h v (List.mem_cons_of_mem _ hv)]
theorem r_lowestQ {st : Store} {ps : List Rat} {N : Nat} (hN0 : 0 < N) (hN : N < 2 ^ 60) (hd : ∀ p ∈ ps, p.den ∣ N) (hn : ∀ p ∈ ps, 0 ≤ p ∧ p.num.natAbs < 2 ^ 60) (hs : ps.sum = 1) (hl : ps.length ≤ 16777216) :
    ∃ xs st', f_lowest [.tup (ps.map qd)] st = .ok (itup xs) st' ∧ Gr st st' ∧ Low xs ∧ Prp xs ps ∧ xs.sum ≤ (N : Nat) := by
  have main := for_fold (q := .fix (ps.map qd)) (set := gN 2) (u := sSet 1 (eCB fLcm (aCons (eVar 1) (aCons (eBin oIx (eVar 2) (eC (.int 1))) aNil)))) (st := st) rfl qd (fun (b : Nat) (p : Rat) => Nat.lcm b p.den) (fun b t => [some (.tup (ps.map qd)), some (.int (b : Nat)), t]) (fun b => b ∣ N) ps 1 none (Nat.one_dvd _) (fun b t p hp hb => by
    refine ⟨Nat.lcm_dvd hb (hd p hp), [some (.tup (ps.map qd)), some (.int (b : Nat)), some (qd p)], rfl, ?_⟩
    have l1 : b ≤ N := Nat.le_of_dvd hN0 hb
    have l2 : p.den ≤ N := Nat.le_of_dvd hN0 (hd p hp)
    have z := fLcm_e (st := st) (a := (b : Nat)) (b := (p.den : Nat)) (by rw [Int.natAbs_natCast]; omega) (by rw [Int.natAbs_natCast]; omega)
    rw [Int.natAbs_natCast, Int.natAbs_natCast] at z
    simp [qd_tup, z])
  obtain ⟨⟨t', e⟩, hB⟩ := main
  have e : forL (.fix (ps.map qd)) (gN 2) (sSet 1 (eCB fLcm (aCons (eVar 1) (aCons (eBin oIx (eVar 2) (eC (.int 1))) aNil)))) (ps.map qd) [some (.tup (ps.map qd)), some (.int 1), none] st = .nx [some (.tup (ps.map qd)), some (.int (lc 1 ps : Nat)), t'] st := e
  obtain ⟨B, eB⟩ : ∃ B, B = lc 1 ps := ⟨_, rfl⟩
  have hB : B ∣ N := eB ▸ hB
  have dB : ∀ p ∈ ps, p.den ∣ B := fun p hp => eB ▸ (lc_dvd ps 1).2 p hp
  have B0 : 0 < B := Nat.pos_of_dvd_of_pos hB hN0
  rw [← eB] at e
  have c := comp_map (q := .fix (ps.map qd)) (set := gN 2) (fe := eBin oMul (eBin oIx (eVar 2) (eC (.int 0))) (eBin oDiv (eVar 1) (eBin oIx (eVar 2) (eC (.int 1))))) (τ := [some (.tup (ps.map qd)), some (.int (B : Nat)), none]) (st := st) rfl qd (fun p => .int (p.num * ((B : Nat) : Int).fdiv (p.den : Nat))) ps [] (fun p hp => by
    refine ⟨[some (.tup (ps.map qd)), some (.int (B : Nat)), some (qd p)], rfl, ?_⟩
    have h1 := (hn p hp).2
    have h2 : p.den ≤ N := Nat.le_of_dvd hN0 (hd p hp)
    have o1 : okMul p.num (((B : Nat) : Int).fdiv (p.den : Nat)) = true := okMul_l (by omega)
    have o2 : okDiv (B : Nat) (p.den : Nat) = true := okDiv_of den_ne (by
      rw [Int.natAbs_natCast]
      exact Nat.lt_of_le_of_lt (log2_le (k := 60) (by omega)) (by decide))
    simp [qd_tup, o1, o2])
  rw [List.nil_append, show (ps.map fun p => D.int (p.num * ((B : Nat) : Int).fdiv (p.den : Nat))) = (zs B ps).map D.int by unfold zs; rw [List.map_map]; rfl] at c
  have zc : (zs B ps).map (fun x : Int => (x : Rat)) = ps.map (((B : Int) : Rat) * ·) := by
    unfold zs
    rw [List.map_map]
    refine List.map_congr_left fun p hp => ?_
    show ((p.num * ((B : Nat) : Int).fdiv (p.den : Nat) : Int) : Rat) = _
    rw [zs_eq (dB p hp), Rat.mul_comm]
  have Bq : (0 : Rat) < ((B : Int) : Rat) := Rat.intCast_pos.mpr (by omega)
  have zn : ∀ z ∈ zs B ps, 0 ≤ z := fun z hz => by
    obtain ⟨p, hp, rfl⟩ := List.mem_map.mp hz
    have h1 : 0 ≤ p.num := Rat.num_nonneg.mpr (hn p hp).1
    exact Int.mul_nonneg h1 (Int.fdiv_nonneg (by omega) (by omega))
  have zsum : (((zs B ps).sum : Int) : Rat) = ((B : Int) : Rat) := by rw [← sum_cast, zc, sum_mul, hs, Rat.mul_one]
  have zsum : (zs B ps).sum = B := Rat.intCast_inj.mp zsum
  obtain ⟨z, hz, hz0⟩ : ∃ z ∈ zs B ps, z ≠ 0 := Classical.byContradiction fun h => by
    have hall : ∀ z ∈ zs B ps, z = 0 := fun z hz => Classical.byContradiction fun h2 => h ⟨z, hz, h2⟩
    have : ∀ l : List Int, (∀ z ∈ l, z = 0) → l.sum = 0 := fun l => by
      induction l with
      | nil => simp
      | cons a l ih =>
        intro h
        rw [List.sum_cons, h a (List.mem_cons_self ..), ih fun z hz => h z (List.mem_cons_of_mem _ hz)]
        rfl
    rw [this _ hall] at zsum
    omega
  have zle := sum_ge zn hz
  have gp := lg_pos hz hz0
  have gl := lg_le hz hz0
  have gb : lg 0 (zs B ps) < 2 ^ 60 := by
    have := Nat.le_of_dvd hN0 hB
    have := zn z hz
    omega
  obtain ⟨lo, le⟩ := low_red zn gp
  have r := r_reduced (st := st ++ [.lst ((zs B ps).map D.int)]) (m := st.length) lstAt_new (by unfold zs; rw [List.length_map]; exact hl) gp (lt_up gb (by decide))
  refine ⟨_, _, ?_, Gr.app (c := .lst ((zs B ps).map D.int)), lo, ⟨((B : Int) : Rat) / ((lg 0 (zs B ps) : Nat) : Int), ?_, ?_⟩, ?_⟩
  · obtain ⟨W, hW⟩ : ∃ W, W = ps.map qd := ⟨_, rfl⟩
    have lW : W.length ≤ 16777216 := by rw [hW, List.length_map]; exact hl
    rw [← hW] at e c ⊢
    unfold f_lowest
    rw [runB_e]
    unfold m_lowest
    simp [List.replicate, sFor_e, e, lComp_e, lc1, wipeD, lW, c, r]
  · rw [Rat.div_def]
    exact Rat.mul_pos Bq (Rat.inv_pos.mpr (Rat.intCast_pos.mpr (by omega)))
  · have hg : (((lg 0 (zs B ps) : Nat) : Int) : Rat) ≠ 0 := fun e => by
      have := Rat.intCast_eq_zero_iff.mp e
      omega
    rw [List.map_map]
    have : ∀ w ∈ zs B ps, ((w.fdiv (lg 0 (zs B ps) : Nat) : Int) : Rat) = (w : Rat) / ((lg 0 (zs B ps) : Nat) : Int) := fun w hw => by
      have h1 := congrArg (fun z : Int => (z : Rat)) (le w hw)
      simp only [Rat.intCast_mul] at h1
      rw [← h1]
      grind
    rw [show (zs B ps).map ((fun x : Int => (x : Rat)) ∘ fun w => w.fdiv (lg 0 (zs B ps) : Nat)) = (zs B ps).map (fun w : Int => (w : Rat) / (((lg 0 (zs B ps) : Nat) : Int) : Rat)) from List.map_congr_left this]
    have : (zs B ps).map (fun w : Int => (w : Rat) / ((lg 0 (zs B ps) : Nat) : Int)) = ((zs B ps).map (fun x : Int => (x : Rat))).map (· / (((lg 0 (zs B ps) : Nat) : Int) : Rat)) := by rw [List.map_map]; rfl
    rw [this, zc, List.map_map]
    refine List.map_congr_left fun p _ => ?_
    show _ * p / _ = _ / _ * p
    grind
  · have h1 := sum_red le
    rw [zsum] at h1
    have h2 := Nat.le_of_dvd hN0 hB
    have h3 : 1 * ((zs B ps).map fun w => w.fdiv (lg 0 (zs B ps) : Nat)).sum ≤ (lg 0 (zs B ps) : Nat) * ((zs B ps).map fun w => w.fdiv (lg 0 (zs B ps) : Nat)).sum ∨ ((zs B ps).map fun w => w.fdiv (lg 0 (zs B ps) : Nat)).sum < 0 := by
      by_cases h : 0 ≤ ((zs B ps).map fun w => w.fdiv (lg 0 (zs B ps) : Nat)).sum
      · exact .inl (Int.mul_le_mul_of_nonneg_right (by omega) h)
      · exact .inr (by omega)
    rcases h3 with h3 | h3 <;> omega
theorem r_is_ints {xs : List Int} {st : Store} (hl : xs.length ≤ 16777216) : f__law_is_ints [itup xs] st = .ok (.bl true) st := by
  have c := comp_map (q := .fix (xs.map D.int)) (set := gN 1) (fe := eCall 1 f__law_is_int (aCons (eVar 1) aNil)) (τ := [some (itup xs), none]) (st := st) rfl D.int (fun _ => .bl true) xs [] (fun x _ => ⟨[some (itup xs), some (.int x)], rfl, by simp [r_is_int]⟩)
  rw [List.nil_append, show (xs.map fun _ => D.bl true) = (xs.map fun _ => true).map D.bl by rw [List.map_map]; rfl] at c
  have ha : (xs.map fun _ => true).all id = true := by simp
  obtain ⟨V, hV⟩ : ∃ V, V = xs.map fun _ => true := ⟨_, rfl⟩
  have ha : gAllB (V.map D.bl) st = .ok (.bl true) st := by rw [gAllB_bls, hV, ha]
  rw [← hV] at c
  obtain ⟨W, hW⟩ : ∃ W, W = xs.map D.int := ⟨_, rfl⟩
  have lW : W.length ≤ 16777216 := by rw [hW, List.length_map]; exact hl
  have eI : itup xs = .tup W := by rw [hW]; rfl
  rw [eI] at c ⊢
  rw [← hW] at c
  unfold f__law_is_ints
  rw [runB_e]
  unfold m__law_is_ints
  simp [lComp_e, lc1, wipeD, lW, c, ha]
theorem r_is_lowest {xs : List Int} {n : Int} {st : Store} (h : Low xs) (hn : n = xs.length) (hl : xs.length ≤ 16777216) (hb : ∀ x ∈ xs, x.natAbs < 2 ^ 8000) : f__law_is_lowest [itup xs, .int n] st = .ok (.bl true) st := by
  subst hn
  have main := for_fold (q := .fix (xs.map D.int)) (set := gN 3) (u := sSeq (sIf (tBl (eBin oLt (eVar 3) (eC (.int 0)))) (sRet (eC (.bl false))) sNil)
    (sSet 2 (eCall 2 f__law_gcd (aCons (eVar 2) (aCons (eVar 3) aNil))))) (st := st) rfl D.int (fun (a : Nat) (w : Int) => Nat.gcd a w.natAbs) (fun b t => [some (itup xs), some (.int (xs.length : Nat)), some (.int (b : Nat)), t]) (fun _ => True) xs 0 none trivial (fun b t a ha _ => by
      have g : f__law_gcd [.int (b : Nat), .int a] st = _ := r_gcd (lt_up (hb a ha) (by decide))
      rw [Int.natAbs_natCast] at g
      have h0 := h.nn a ha
      exact ⟨trivial, [some (itup xs), some (.int (xs.length : Nat)), some (.int (b : Nat)), some (.int a)], rfl, by simp [g, show ¬ a < 0 by omega]⟩)
  obtain ⟨⟨t', e⟩, _⟩ := main
  have e : forL (.fix (xs.map D.int)) (gN 3) (sSeq (sIf (tBl (eBin oLt (eVar 3) (eC (.int 0)))) (sRet (eC (.bl false))) sNil)
    (sSet 2 (eCall 2 f__law_gcd (aCons (eVar 2) (aCons (eVar 3) aNil))))) (xs.map D.int) [some (itup xs), some (.int (xs.length : Nat)), some (.int 0), none] st = .nx [some (itup xs), some (.int (xs.length : Nat)), some (.int (lg 0 xs : Nat)), t'] st := e
  rw [h.g1] at e
  have i := r_is_ints (st := st) hl
  have d : dSq st (itup xs) = some (.fix (xs.map D.int)) := rfl
  have f : fLen [itup xs] st = .ok (.int (xs.length : Nat)) st := by unfold itup; rw [fLen_tup, List.length_map]
  unfold f__law_is_lowest
  rw [runB_e]
  unfold m__law_is_lowest
  simp [List.replicate, i, f, sFor_e, d, e]

/-! spins -/
/-- the chances of a spin -/
def sp (m v : Nat) (t r : Rat) : List Rat := (List.range m).map fun a => if a = v then t else r
theorem sp_sum {v : Nat} {t r : Rat} : ∀ m : Nat, (sp m v t r).sum = (m : Rat) * r + (if v < m then t - r else 0)
  | 0 => by
    simp [sp]
    exact (Rat.add_zero _).symm
  | m + 1 => by
    have ih := sp_sum (v := v) (t := t) (r := r) m
    have e : sp (m + 1) v t r = sp m v t r ++ [if m = v then t else r] := by
      unfold sp
      rw [List.range_succ, List.map_append]
      rfl
    rw [e, List.sum_append, ih, List.sum_cons, List.sum_nil, show ((m + 1 : Nat) : Rat) = (m : Rat) + 1 from Rat.natCast_add m 1]
    by_cases h : m = v
    · subst h
      rw [if_pos rfl, if_neg (Nat.lt_irrefl _), if_pos (Nat.lt_succ_self _)]
      grind
    · rw [if_neg h]
      by_cases h2 : v < m
      · rw [if_pos h2, if_pos (by omega)]
        grind
      · rw [if_neg h2, if_neg (by omega)]
        grind
/-- the share of another answer -/
def osh (m : Nat) (t : Rat) : Rat := (1 - t) / (((m : Int) - 1 : Int) : Rat)
theorem int_qd {i : Int} : D.tup [.int i, .int 1] = qd (i : Rat) := rfl
theorem qb_int {i : Int} {k : Nat} (h : i.natAbs < 2 ^ k) (hk : 1 ≤ k) : QB k (i : Rat) := ⟨h, lt_up (k := 1) (show (i : Rat).den < 2 ^ 1 by rw [Rat.den_intCast]; decide) hk⟩
section
variable {st : Store}
theorem r_other_share {m : Nat} {t : Rat} (hm : 2 ≤ m) (h2 : m ≤ 100) (ht : QB 20 t) : f_other_share [.int (m : Nat), qd t] st = .ok (qd (osh m t)) st := by
  have z1 := r_minusQ (st := st) (qb_one (k := 1) (by decide)) ht (by decide)
  obtain ⟨N, hN⟩ : ∃ N : Int, N = (m : Nat) - 1 := ⟨_, rfl⟩
  have hb : QB 10 (N : Rat) := qb_int (by omega) (by decide)
  have hz : (N : Rat) ≠ 0 := fun e => by
    have := Rat.intCast_eq_zero_iff.mp e
    omega
  have z2 := r_overQ (st := st) (QB.sub (qb_one (k := 1) (by decide)) ht) hb hz (by decide)
  rw [← int_qd] at z2
  have q1 : q_ONE = qd 1 := rfl
  unfold f_other_share osh
  rw [runB_e, ← hN]
  unfold m_other_share
  simp [q1, ← hN, z1, z2]
theorem r_spin_chances {m v : Nat} {p q : Int} (hm : 2 ≤ m) (h2 : m ≤ 100) (hq : 0 < q) (hq2 : q ≤ 1000) (hp : 0 ≤ p) (hp2 : p ≤ q) :
    ∃ st', f_spin_chances [.int (m : Nat), .int (v : Nat), .int p, .int q] st = .ok (.tup ((sp m v (Rat.divInt p q) (osh m (Rat.divInt p q))).map qd)) st' ∧ Gr st st' := by
  obtain ⟨t, et⟩ : ∃ t, t = Rat.divInt p q := ⟨_, rfl⟩
  have ht : QB 10 t := et ▸ .of (by omega) (by omega) (by omega)
  have z1 : f_ratio [.int p, .int q] st = .ok (qd t) st := et ▸ r_ratioQ (k := 10) (by omega) (by omega) (by decide)
  have z2 := r_other_share (st := st) hm h2 (ht.up (by decide))
  rw [← et]
  obtain ⟨r, er⟩ : ∃ r, r = osh m t := ⟨_, rfl⟩
  rw [← er] at z2 ⊢
  have hr : ∀ s, rg1 (.int (m : Nat)) s = .ok (.fix (rng 0 m)) s := fun s => rg1_int (by omega)
  obtain ⟨τ', s', e, ⟨a, hτ, hs⟩⟩ := for_inv (q := .fix (rng 0 m)) (set := gN 7) (u := sIf (tBl (eBin oEq (eVar 7) (eVar 1))) (sExpr (eM "list" mAppend (eVar 6) (aCons (eVar 4) aNil))) (sExpr (eM "list" mAppend (eVar 6) (aCons (eVar 5) aNil))))
    (fun k τ s => ∃ a, τ = [some (.int (m : Nat)), some (.int (v : Nat)), some (.int p), some (.int q), some (qd t), some (qd r), some (.ref st.length), a] ∧ s = st ++ [.lst ((sp k v t r).map qd)]) (fun _ _ _ _ => rfl) (rng 0 m) 0 [some (.int (m : Nat)), some (.int (v : Nat)), some (.int p), some (.int q), some (qd t), some (qd r), some (.ref st.length), none] (st ++ [.lst []]) ⟨none, rfl, rfl⟩ (by
      intro i d τ s hi hp
      obtain ⟨a, rfl, rfl⟩ := hp
      have hi2 : i < m := by
        have := (List.getElem?_eq_some_iff.mp hi).1
        rwa [rng_len] at this
      have hd : d = .int (i : Nat) := by
        rw [rng_eq, List.getElem?_map, List.getElem?_range hi2] at hi
        exact (Option.some.inj hi).symm
      subst hd
      rw [Nat.zero_add]
      have g : lstAt (st ++ [.lst ((sp i v t r).map qd)]) st.length = some ((sp i v t r).map qd) := lstAt_new
      have gl : ((sp i v t r).map qd).length < 16777216 := by simp [sp]; omega
      have es : sp (i + 1) v t r = sp i v t r ++ [if i = v then t else r] := by
        unfold sp
        rw [List.range_succ, List.map_append]
        rfl
      have z := fun x => mAppend_ref (x := x) g gl
      obtain ⟨X, hX⟩ : ∃ X, X = (sp i v t r).map qd := ⟨_, rfl⟩
      rw [← hX] at g z ⊢
      refine ⟨[some (.int (m : Nat)), some (.int (v : Nat)), some (.int p), some (.int q), some (qd t), some (qd r), some (.ref st.length), some (.int (i : Nat))], rfl, [some (.int (m : Nat)), some (.int (v : Nat)), some (.int p), some (.int q), some (qd t), some (qd r), some (.ref st.length), some (.int (i : Nat))], st ++ [.lst ((sp (i + 1) v t r).map qd)], .inl ?_, _, rfl, rfl⟩
      rw [es, List.map_append, ← hX]
      by_cases h : i = v
      · subst h
        simp [okT_ref g, z]
      · have h' : ¬ ((i : Int) = (v : Int)) := by omega
        simp [okT_ref g, z, h, h'])
  rw [Nat.zero_add, rng_len] at hs
  subst hs hτ
  refine ⟨st ++ [.lst ((sp m v t r).map qd)], ?_, .app⟩
  unfold f_spin_chances
  rw [runB_e]
  unfold m_spin_chances
  simp [List.replicate, z1, z2, sFor_e, hr, e, fTuple_ref lstAt_new]
end
/-- the spin of these chances is a right spin -/
structure SpinD (m : Nat) (t : Rat) (v : Nat) (xs : List Int) : Prop where
  low : Low xs
  prp : Prp xs (sp m v t (osh m t))
theorem SpinD.len {m v : Nat} {t : Rat} {xs : List Int} (h : SpinD m t v xs) : xs.length = m := by
  obtain ⟨c, _, e⟩ := h.prp
  have := congrArg List.length e
  simpa [sp] using this
theorem osh_sum {m v : Nat} {t : Rat} (hm : 2 ≤ m) (hv : v < m) : (sp m v t (osh m t)).sum = 1 := by
  rw [sp_sum, if_pos hv]
  unfold osh
  have e : (((m : Int) - 1 : Int) : Rat) = (m : Rat) - 1 := by rw [Rat.intCast_sub]; rfl
  rw [e]
  have h : (m : Rat) - 1 ≠ 0 := fun h => by
    have : (((m : Int) - 1 : Int) : Rat) = 0 := by rw [e]; exact h
    have := Rat.intCast_eq_zero_iff.mp this
    omega
  grind

theorem den_dvd {a b : Int} (h : b ≠ 0) : (Rat.divInt a b).den ∣ b.natAbs := by
  rw [Rat.den_divInt, if_neg h]
  exact Nat.div_dvd_of_dvd (by
    have : (b.gcd a) ∣ b.natAbs := Nat.gcd_dvd_left ..
    exact this)
theorem osh_div {m : Nat} {p q : Int} (hm : 2 ≤ m) (hq : 0 < q) : osh m (Rat.divInt p q) = Rat.divInt (q - p) (q * ((m : Nat) - 1)) := by
  unfold osh
  rw [Rat.divInt_eq_div, Rat.divInt_eq_div, Rat.intCast_mul]
  obtain ⟨N, hN⟩ : ∃ N : Int, N = (m : Nat) - 1 := ⟨_, rfl⟩
  rw [← hN]
  have h1 : (q : Rat) ≠ 0 := fun e => by have := Rat.intCast_eq_zero_iff.mp e; omega
  have h2 : (N : Rat) ≠ 0 := fun e => by have := Rat.intCast_eq_zero_iff.mp e; omega
  rw [Rat.intCast_sub]
  grind
section
variable {st : Store} {m v : Nat} {p q : Int}
theorem r_spin_row (hm : 2 ≤ m) (h2 : m ≤ 100) (hv : v < m) (hq : 0 < q) (hq2 : q ≤ 1000) (hp : 0 ≤ p) (hp2 : p ≤ q) :
    ∃ xs st', f_spin_row [.int (m : Nat), .int (v : Nat), .int p, .int q] st = .ok (itup xs) st' ∧ Gr st st' ∧ SpinD m (Rat.divInt p q) v xs ∧ Wt 60 xs := by
  obtain ⟨s1, e1, G1⟩ := r_spin_chances (st := st) (v := v) hm h2 hq hq2 hp hp2
  have hod := osh_div (p := p) hm hq
  obtain ⟨Q, rfl⟩ : ∃ Q : Nat, q = Q := ⟨q.toNat, by omega⟩
  obtain ⟨M, rfl⟩ : ∃ M : Nat, m = M + 1 := ⟨m - 1, by omega⟩
  have hQM : (Q : Int) * (((M + 1 : Nat) : Int) - 1) = ((Q * M : Nat) : Int) := by
    rw [Int.natCast_mul]
    congr 1
    omega
  rw [hQM] at hod
  have hQ : Q ∣ Q * M := Nat.dvd_mul_right ..
  have hb : Q * M ≤ 1000 * 100 := Nat.mul_le_mul (by omega) (by omega)
  have hpos : 0 < Q * M := Nat.mul_pos (by omega) (by omega)
  have mem : ∀ x ∈ sp (M + 1) v (Rat.divInt p Q) (osh (M + 1) (Rat.divInt p Q)), x = Rat.divInt p Q ∨ x = osh (M + 1) (Rat.divInt p Q) := fun x hx => by
    obtain ⟨a, _, rfl⟩ := List.mem_map.mp hx
    split
    · exact .inl rfl
    · exact .inr rfl
  have q1 : QB 20 (Rat.divInt p Q) := .of (by omega) (by omega) (by omega)
  have q2 : QB 20 (osh (M + 1) (Rat.divInt p Q)) := by
    rw [hod]
    exact .of (by omega) (by omega) (by rw [Int.natAbs_natCast]; omega)
  obtain ⟨xs, s2, e2, G2, lo, pr, hs⟩ := r_lowestQ (st := s1) (ps := sp (M + 1) v (Rat.divInt p Q) (osh (M + 1) (Rat.divInt p Q))) (N := Q * M) hpos (by omega) (fun x hx => by
      rcases mem x hx with rfl | rfl
      · exact Nat.dvd_trans (den_dvd (by omega)) (by rw [Int.natAbs_natCast]; exact hQ)
      · rw [hod]
        exact Nat.dvd_trans (den_dvd (by omega)) (by rw [Int.natAbs_natCast]; exact Nat.dvd_refl _)) (fun x hx => by
      rcases mem x hx with rfl | rfl
      · exact ⟨Rat.divInt_nonneg hp (by omega), Nat.lt_of_lt_of_le q1.an (by decide)⟩
      · refine ⟨?_, Nat.lt_of_lt_of_le q2.an (by decide)⟩
        rw [hod]
        exact Rat.divInt_nonneg (by omega) (by omega)) (osh_sum hm hv) (by simp [sp]; omega)
  have hl : xs.length = M + 1 := SpinD.len ⟨lo, pr⟩
  refine ⟨xs, s2, ?_, G1.trans G2, ⟨lo, pr⟩, lo.nn, (prp_ch pr (osh_sum hm hv)).2, ?_, by omega⟩
  · obtain ⟨I, hI⟩ : ∃ I : Int, I = ((M + 1 : Nat) : Int) := ⟨_, rfl⟩
    rw [← hI] at e1 ⊢
    obtain ⟨PP, hPP⟩ : ∃ PP, PP = (sp (M + 1) v (Rat.divInt p Q) (osh (M + 1) (Rat.divInt p Q))).map qd := ⟨_, rfl⟩
    rw [← hPP] at e1 e2
    unfold f_spin_row
    rw [runB_e]
    unfold m_spin_row
    simp [e1, e2]
  · have := (prp_ch pr (osh_sum hm hv)).2
    omega
/-- the rows of a spin -/
structure SpinR (m : Nat) (t : Rat) (rows : List (List Int)) : Prop where
  len : rows.length = m
  at' : ∀ v xs, rows[v]? = some xs → SpinD m t v xs ∧ Wt 60 xs
def rowsD (rows : List (List Int)) : D := .tup (rows.map itup)
theorem ix_rows {rows : List (List Int)} {v : Nat} {xs : List Int} (h : rows[v]? = some xs) {s : Store} : oIx (rowsD rows) (.int (v : Nat)) s = .ok (itup xs) s := by
  unfold rowsD
  rw [oIx_tup]
  have : atI (rows.map itup) (v : Nat) = some (itup xs) := atI_nat (by rw [List.getElem?_map, h]; rfl)
  rw [this]
  rfl
theorem ix_itup {xs : List Int} {v : Nat} {x : Int} (h : xs[v]? = some x) {s : Store} : oIx (itup xs) (.int (v : Nat)) s = .ok (.int x) s := by
  unfold itup
  rw [oIx_tup]
  have : atI (xs.map D.int) (v : Nat) = some (.int x) := atI_nat (by rw [List.getElem?_map, h]; rfl)
  rw [this]
  rfl
theorem r_spin_rows (hm : 2 ≤ m) (h2 : m ≤ 100) (hq : 0 < q) (hq2 : q ≤ 1000) (hp : 0 ≤ p) (hp2 : p ≤ q) :
    ∃ rows st', f_spin_rows [.int (m : Nat), .int p, .int q] st = .ok (rowsD rows) st' ∧ Gr st st' ∧ SpinR m (Rat.divInt p q) rows := by
  have hr : ∀ s, rg1 (.int (m : Nat)) s = .ok (.fix (rng 0 m)) s := fun s => rg1_int (by omega)
  obtain ⟨ys, s1, e1, rows, rfl, hl, hrow, G⟩ := comp_gen (q := .fix (rng 0 m)) (set := gN 3) (ft := HM.tYes) (fe := eCall 4 f_spin_row (aCons (eVar 0) (aCons (eVar 3) (aCons (eVar 1) (aCons (eVar 2) aNil))))) (τ := [some (.int (m : Nat)), some (.int p), some (.int q), none])
    (fun k acc s => ∃ rows : List (List Int), acc = rows.map itup ∧ rows.length = k ∧ (∀ v xs, rows[v]? = some xs → SpinD m (Rat.divInt p q) v xs ∧ Wt 60 xs) ∧ Gr st s) (fun _ _ _ _ => rfl) (rng 0 m) 0 [] st ⟨[], rfl, rfl, by simp, .refl⟩ (by
      intro i d acc s hi hp'
      obtain ⟨rows, rfl, hl, hrow, G⟩ := hp'
      have hi2 : i < m := by
        have := (List.getElem?_eq_some_iff.mp hi).1
        rwa [rng_len] at this
      have hd : d = .int (i : Nat) := by
        rw [rng_eq, List.getElem?_map, List.getElem?_range hi2] at hi
        exact (Option.some.inj hi).symm
      subst hd
      obtain ⟨xs, s2, e2, G2, sd, wt⟩ := r_spin_row (st := s) hm h2 hi2 hq hq2 hp hp2
      refine ⟨[some (.int (m : Nat)), some (.int p), some (.int q), some (.int (i : Nat))], rfl, true, s, rfl, nofun, fun _ => ⟨itup xs, s2, by simp [e2], rows ++ [xs], by simp, by simp; omega, fun v ys hy => ?_, G.trans G2⟩⟩
      by_cases hv : v < rows.length
      · rw [List.getElem?_append_left hv] at hy
        exact hrow v ys hy
      · have hv2 := (List.getElem?_eq_some_iff.mp hy).1
        rw [List.length_append, List.length_singleton] at hv2
        have : v = i := by omega
        subst this
        rw [List.getElem?_append_right (by omega), show v - rows.length = 0 by omega] at hy
        cases hy
        exact ⟨sd, wt⟩)
  rw [rng_len] at hl
  refine ⟨rows, s1, ?_, G, by omega, hrow⟩
  have lr : (rng 0 (m : Nat)).length ≤ 16777216 := by rw [rng_len]; omega
  obtain ⟨R, hR⟩ : ∃ R, R = rng 0 (m : Nat) := ⟨_, rfl⟩
  rw [← hR] at e1 hr lr
  unfold f_spin_rows
  rw [runB_e]
  unfold m_spin_rows
  simp [List.replicate, lComp_e, lc1, wipeD, hr, lr, e1]
  rfl
/-- the parts of a right spin -/
theorem spin_at {xs : List Int} (h : SpinD m (Rat.divInt p q) v xs) (hm : 2 ≤ m) (hv : v < m) (hq : 0 < q) {a : Nat} {x : Int} (ha : xs[a]? = some x) :
    if a = v then x * q = xs.sum * p else x * q * ((m : Nat) - 1) = xs.sum * (q - p) := by
  have hod := osh_div (p := p) hm hq
  obtain ⟨c, hc, e⟩ := h.prp
  have e1 : (xs.sum : Rat) = c := by rw [← sum_cast, e, sum_mul, osh_sum hm hv, Rat.mul_one]
  have hl := h.len
  have ha2 : a < m := by
    have := (List.getElem?_eq_some_iff.mp ha).1
    omega
  have e2 : (x : Rat) = c * (if a = v then Rat.divInt p q else osh m (Rat.divInt p q)) := by
    have := congrArg (fun l => l[a]?) e
    simp only [List.getElem?_map, ha, sp, List.getElem?_range ha2, Option.map_some] at this
    exact Option.some.inj this
  have h1 : (q : Rat) ≠ 0 := fun e => by have := Rat.intCast_eq_zero_iff.mp e; omega
  split
  · rename_i h
    rw [if_pos h] at e2
    apply Rat.intCast_inj.mp
    rw [Rat.intCast_mul, Rat.intCast_mul, e2, e1, Rat.divInt_eq_div]
    grind
  · rename_i h
    rw [if_neg h, hod] at e2
    apply Rat.intCast_inj.mp
    obtain ⟨N, hN⟩ : ∃ N : Int, N = (m : Nat) - 1 := ⟨_, rfl⟩
    rw [← hN] at e2 ⊢
    have h2 : (N : Rat) ≠ 0 := fun e => by have := Rat.intCast_eq_zero_iff.mp e; omega
    rw [Rat.intCast_mul, Rat.intCast_mul, Rat.intCast_mul, Rat.intCast_sub, e2, e1, Rat.divInt_eq_div, Rat.intCast_sub, Rat.intCast_mul]
    grind
end

section
variable {st : Store} {m : Nat} {p q : Int}
theorem rngi {n i : Nat} {d : D} (h : (rng 0 (n : Nat))[i]? = some d) : i < n ∧ d = .int (i : Nat) := by
  have hi2 : i < n := by
    have := (List.getElem?_eq_some_iff.mp h).1
    rwa [rng_len] at this
  refine ⟨hi2, ?_⟩
  rw [rng_eq, List.getElem?_map, List.getElem?_range hi2] at h
  exact (Option.some.inj h).symm
theorem Wt.lt {B : Nat} {xs : List Int} (h : Wt B xs) {x : Int} (hx : x ∈ xs) : x.natAbs < 2 ^ B := by
  have := sum_ge h.nn hx
  have := h.nn x hx
  have := h.bd
  omega
theorem r_is_spin {rows : List (List Int)} (h : SpinR m (Rat.divInt p q) rows) (hm : 2 ≤ m) (h2 : m ≤ 100) (hq : 0 < q) (hq2 : q ≤ 1000) (hp : 0 ≤ p) (hp2 : p ≤ q) : f__law_is_spin [rowsD rows, .int (m : Nat), .int p, .int q] st = .ok (.bl true) st := by
  have hr : ∀ s, rg1 (.int (m : Nat)) s = .ok (.fix (rng 0 m)) s := fun s => rg1_int (by omega)
  obtain ⟨τ', s', e, a, b, c, rfl, rfl⟩ := for_inv (q := .fix (rng 0 m)) (set := gN 4) (u := sSeq (sIf (HM.tNot (tVal (eCall 2 f__law_is_lowest (aCons (eBin oIx (eVar 0) (eVar 4)) (aCons (eVar 1) aNil))))) (sRet (eC (.bl false))) sNil)
    (sSeq (sSet 5 (eCS gSum (sEx (eBin oIx (eVar 0) (eVar 4)))))
    (sFor (iRg1 (eVar 1)) (gN 6) (sSeq (sIf (HM.tAnd (tBl (eBin oEq (eVar 6) (eVar 4))) (tBl (eBin oNe (eBin oMul (eBin oIx (eBin oIx (eVar 0) (eVar 4)) (eVar 6)) (eVar 3)) (eBin oMul (eVar 5) (eVar 2))))) (sRet (eC (.bl false))) sNil)
    (sIf (HM.tAnd (tBl (eBin oNe (eVar 6) (eVar 4))) (tBl (eBin oNe (eBin oMul (eBin oMul (eBin oIx (eBin oIx (eVar 0) (eVar 4)) (eVar 6)) (eVar 3)) (eBin oSub (eVar 1) (eC (.int 1)))) (eBin oMul (eVar 5) (eBin oSub (eVar 3) (eVar 2)))))) (sRet (eC (.bl false))) sNil)))))
    (fun _ τ s => ∃ a b c, τ = [some (rowsD rows), some (.int (m : Nat)), some (.int p), some (.int q), a, b, c] ∧ st = s) (fun _ _ _ _ => rfl) (rng 0 m) 0 [some (rowsD rows), some (.int (m : Nat)), some (.int p), some (.int q), none, none, none] st ⟨none, none, none, rfl, rfl⟩ (by
      intro v d τ s hi hp'
      obtain ⟨a, b, c, rfl, rfl⟩ := hp'
      obtain ⟨hv, rfl⟩ := rngi hi
      obtain ⟨xs, hx⟩ : ∃ xs, rows[v]? = some xs := ⟨rows[v]'(by rw [h.len]; exact hv), by simp⟩
      obtain ⟨sd, wt⟩ := h.at' v xs hx
      have ix := fun s => ix_rows hx (s := s)
      have lo := r_is_lowest (n := (m : Nat)) (st := st) sd.low (by rw [sd.len]) (by rw [sd.len]; omega) (fun x hx => lt_up (wt.lt hx) (by decide))
      obtain ⟨S, hS⟩ : ∃ S, S = xs.sum := ⟨_, rfl⟩
      have sm : gSum (xs.map D.int) st = .ok (.int S) st := hS ▸ gSum_ints
      have oq : ∀ s, oSeq (itup xs) s = .ok (xs.map D.int) s := fun s => rfl
      have hS2 : S.natAbs < 2 ^ 60 := hS ▸ wt.bd
      obtain ⟨τ2, s2, e2, a2, rfl, rfl⟩ := for_inv (q := .fix (rng 0 m)) (set := gN 6) (u := sSeq (sIf (HM.tAnd (tBl (eBin oEq (eVar 6) (eVar 4))) (tBl (eBin oNe (eBin oMul (eBin oIx (eBin oIx (eVar 0) (eVar 4)) (eVar 6)) (eVar 3)) (eBin oMul (eVar 5) (eVar 2))))) (sRet (eC (.bl false))) sNil)
    (sIf (HM.tAnd (tBl (eBin oNe (eVar 6) (eVar 4))) (tBl (eBin oNe (eBin oMul (eBin oMul (eBin oIx (eBin oIx (eVar 0) (eVar 4)) (eVar 6)) (eVar 3)) (eBin oSub (eVar 1) (eC (.int 1)))) (eBin oMul (eVar 5) (eBin oSub (eVar 3) (eVar 2)))))) (sRet (eC (.bl false))) sNil))
        (fun _ τ s' => ∃ c, τ = [some (rowsD rows), some (.int (m : Nat)), some (.int p), some (.int q), some (.int (v : Nat)), some (.int S), c] ∧ st = s') (fun _ _ _ _ => rfl) (rng 0 m) 0 [some (rowsD rows), some (.int (m : Nat)), some (.int p), some (.int q), some (.int (v : Nat)), some (.int S), c] st ⟨c, rfl, rfl⟩ (by
          intro j d τ s' hi hp'
          obtain ⟨c, rfl, rfl⟩ := hp'
          obtain ⟨hj, rfl⟩ := rngi hi
          obtain ⟨x, hxj⟩ : ∃ x, xs[j]? = some x := ⟨xs[j]'(by rw [sd.len]; exact hj), by simp⟩
          have iy := fun s => ix_itup hxj (s := s)
          have sa := spin_at sd hm hv hq hxj
          rw [← hS] at sa
          have hx2 := wt.lt (List.mem_of_getElem? hxj)
          have o1 : okMul x q = true := okMul_l (by omega)
          have o2 : okMul S p = true := okMul_l (by omega)
          have o3 : ∀ z, okMul z ((m : Nat) - 1) = true := fun z => okMul_r (by omega)
          have o4 : okMul S (q - p) = true := okMul_l (by omega)
          refine ⟨[some (rowsD rows), some (.int (m : Nat)), some (.int p), some (.int q), some (.int (v : Nat)), some (.int S), some (.int (j : Nat))], rfl, [some (rowsD rows), some (.int (m : Nat)), some (.int p), some (.int q), some (.int (v : Nat)), some (.int S), some (.int (j : Nat))], st, .inl ?_, _, rfl, rfl⟩
          by_cases hjv : j = v
          · rw [if_pos hjv] at sa
            subst hjv
            simp [ix, iy, o1, o2, sa]
          · rw [if_neg hjv] at sa
            have hjv' : ¬ ((j : Int) = (v : Int)) := by omega
            simp [ix, iy, o1, o3, o4, sa, hjv, hjv'])
      refine ⟨[some (rowsD rows), some (.int (m : Nat)), some (.int p), some (.int q), some (.int (v : Nat)), b, c], rfl, [some (rowsD rows), some (.int (m : Nat)), some (.int p), some (.int q), some (.int (v : Nat)), some (.int S), a2], st, .inl ?_, _, _, _, rfl, rfl⟩
      · simp [ix, lo, oq, sm, sFor_e, hr, e2])
  have f : fLen [rowsD rows] st = .ok (.int (m : Nat)) st := by unfold rowsD; rw [fLen_tup, List.length_map, h.len]
  have i : fIsi [rowsD rows, .ty "tuple"] st = .ok (.bl true) st := fIsi_tt
  unfold f__law_is_spin
  rw [runB_e]
  unfold m__law_is_spin
  simp [List.replicate, i, f, sFor_e, hr, e]
end

theorem zip_same {α β γ : Type} {f : α → β} {g : α → γ} : ∀ l : List α, List.zip (l.map f) (l.map g) = l.map fun a => (f a, g a)
  | [] => rfl
  | a :: l => by
    rw [List.map_cons, List.map_cons, List.map_cons, List.zip_cons_cons, zip_same l]
def sloss (m v w : Nat) (t : Rat) : Option Rat := if v = w then some 1 else if t = 1 then none else some (if t / osh m t < osh m t / t then osh m t / t else t / osh m t)
theorem div_self' {x : Rat} (h : x ≠ 0) : x / x = 1 := by grind
theorem sloss_isL {m v w : Nat} {t : Rat} (hm : 2 ≤ m) (hv : v < m) (hw : w < m) (h0 : 0 < t) (h1 : t ≤ 1) :
    IsL ((List.range m).map fun a => (if a = v then t else osh m t, if a = w then t else osh m t)) (sloss m v w t) := by
  have tne := Rat.ne_of_gt h0
  unfold sloss
  by_cases hvw : v = w
  · rw [if_pos hvw]
    subst hvw
    refine ⟨Rat.le_refl, fun p hp hp0 => ?_, .inl rfl⟩
    obtain ⟨a, _, rfl⟩ := List.mem_map.mp hp
    have e : (if a = v then t else osh m t) ≠ 0 := Rat.ne_of_gt hp0
    exact ⟨e, by rw [div_self' e]; exact Rat.le_refl⟩
  · rw [if_neg hvw]
    have N0 : ((((m : Nat) : Int) - 1 : Int) : Rat) ≠ 0 := fun e => by have := Rat.intCast_eq_zero_iff.mp e; omega
    by_cases h2 : t = 1
    · rw [if_pos h2]
      refine ⟨_, List.mem_map.mpr ⟨v, List.mem_range.mpr hv, rfl⟩, ?_, ?_⟩
      · simp only [if_true]; exact h0
      · simp only [if_neg hvw]
        unfold osh
        rw [h2]
        grind
    · rw [if_neg h2]
      have hN : (0 : Rat) < ((((m : Nat) : Int) - 1 : Int) : Rat) := Rat.intCast_pos.mpr (by omega)
      have ht1 : 0 < 1 - t := (Rat.lt_iff_sub_pos t 1).mp (Rat.lt_of_le_of_ne h1 h2)
      have hr : 0 < osh m t := by
        unfold osh
        rw [Rat.div_def]
        exact Rat.mul_pos ht1 (Rat.inv_pos.mpr hN)
      obtain ⟨r, er⟩ : ∃ r, r = osh m t := ⟨_, rfl⟩
      rw [← er] at hr ⊢
      have rne := Rat.ne_of_gt hr
      have big : 1 ≤ (if t / r < r / t then r / t else t / r) ∧ t / r ≤ (if t / r < r / t then r / t else t / r) ∧ r / t ≤ (if t / r < r / t then r / t else t / r) := by
        have one : ∀ x y : Rat, 0 < x → 0 < y → x ≤ y → 1 ≤ y / x ∧ x / y ≤ y / x := fun x y hx hy hxy => by
          have a : 1 ≤ y / x := by
            refine Rat.not_lt.mp fun h => ?_
            have := (Rat.div_lt_iff hx).mp h
            rw [Rat.one_mul] at this
            exact absurd hxy (Rat.not_le.mpr this)
          have b : x / y ≤ 1 := by
            refine Rat.not_lt.mp fun h => ?_
            have := (Rat.lt_div_iff hy).mp h
            rw [Rat.one_mul] at this
            exact absurd hxy (Rat.not_le.mpr this)
          exact ⟨a, Rat.le_trans b a⟩
        rcases Rat.le_total (a := t) (b := r) with h | h
        · obtain ⟨a, b⟩ := one t r h0 hr h
          split
          · exact ⟨a, b, Rat.le_refl⟩
          · rename_i h3
            have := Rat.le_antisymm (Rat.not_lt.mp h3) b
            rw [← this]
            exact ⟨a, Rat.le_refl, Rat.le_refl⟩
        · obtain ⟨a, b⟩ := one r t hr h0 h
          split
          · rename_i h3
            exact absurd b (Rat.not_le.mpr h3)
          · exact ⟨a, Rat.le_refl, b⟩
      refine ⟨big.1, fun p hp hp0 => ?_, ?_⟩
      · obtain ⟨a, _, rfl⟩ := List.mem_map.mp hp
        simp only
        by_cases ha : a = v
        · rw [if_pos ha, if_neg (by omega)]
          exact ⟨rne, big.2.1⟩
        · rw [if_neg ha]
          by_cases hb : a = w
          · rw [if_pos hb]
            exact ⟨tne, big.2.2⟩
          · rw [if_neg hb]
            exact ⟨rne, by rw [div_self' rne]; exact big.1⟩
      · refine .inr ?_
        split
        · refine ⟨_, List.mem_map.mpr ⟨w, List.mem_range.mpr hw, rfl⟩, ?_, ?_, ?_⟩
          · simp only [if_neg (Ne.symm hvw)]; exact hr
          · simp only [if_true]; exact tne
          · simp only [if_true, if_neg (Ne.symm hvw)]
        · refine ⟨_, List.mem_map.mpr ⟨v, List.mem_range.mpr hv, rfl⟩, ?_, ?_, ?_⟩
          · simp only [if_true]; exact h0
          · simp only [if_neg hvw]; exact rne
          · simp only [if_true, if_neg hvw]
def gr (rows : List (List Int)) (v : Nat) : List Int := rows.getD v []
theorem gr_get {rows : List (List Int)} {v : Nat} (h : v < rows.length) : rows[v]? = some (gr rows v) := by
  simp [gr, List.getD, h]
section
variable {st : Store} {m : Nat} {p q : Int}
theorem spin_prw {t : Rat} {rows : List (List Int)} (h : SpinR m t rows) (hm : 2 ≤ m) {v w : Nat} (hv : v < m) (hw : w < m) : prw (gr rows v) (gr rows w) = (List.range m).map fun a => (if a = v then t else osh m t, if a = w then t else osh m t) := by
  obtain ⟨s1, _⟩ := h.at' v _ (gr_get (by rw [h.len]; exact hv))
  obtain ⟨s2, _⟩ := h.at' w _ (gr_get (by rw [h.len]; exact hw))
  unfold prw
  rw [(prp_ch s1.prp (osh_sum hm hv)).1, (prp_ch s2.prp (osh_sum hm hw)).1]
  exact zip_same _
theorem spin_lss {t : Rat} {rows : List (List Int)} (h : SpinR m t rows) (hm : 2 ≤ m) (h0 : 0 < t) (h1 : t ≤ 1) {v w : Nat} (hv : v < m) (hw : w < m) : lss (prw (gr rows v) (gr rows w)) = sloss m v w t := by
  refine isL_uniq (lss_isL _) ?_
  rw [spin_prw h hm hv hw]
  exact sloss_isL hm hv hw h0 h1
theorem r_spin_loss (hm : 2 ≤ m) (h2 : m ≤ 100) (hq : 0 < q) (hq2 : q ≤ 1000) (hp : 0 < p) (hp2 : p ≤ q) {v w : Nat} :
    ∃ st', f__law_spin_loss [.int (m : Nat), .int p, .int q, .int (v : Nat), .int (w : Nat)] st = .ok (od (sloss m v w (Rat.divInt p q))) st' ∧ Gr st st' := by
  unfold f__law_spin_loss sloss
  rw [runB_e]
  unfold m__law_spin_loss
  by_cases hvw : v = w
  · subst hvw
    exact ⟨st, by simp [od, ← one_qd], .refl⟩
  have hvw' : ¬ ((v : Int) = (w : Int)) := by omega
  have ht : (Rat.divInt p q = 1) = (p = q) := by
    have q0 : (q : Rat) ≠ 0 := fun e => by have := Rat.intCast_eq_zero_iff.mp e; omega
    rw [Rat.divInt_eq_div]
    refine propext ⟨fun h => ?_, fun h => by rw [h]; grind⟩
    apply Rat.intCast_inj.mp
    grind
  by_cases hpq : p = q
  · rw [if_neg hvw, if_pos (by rw [ht]; exact hpq)]
    subst hpq
    exact ⟨st, by simp [hvw', od], .refl⟩
  rw [if_neg hvw, if_neg (by rw [ht]; exact hpq)]
  have hod := osh_div (p := p) hm hq
  obtain ⟨N, hN⟩ : ∃ N : Int, N = (m : Nat) - 1 := ⟨_, rfl⟩
  rw [← hN] at hod
  have N1 : 0 < N ∧ N < 100 := by omega
  have o1 : okMul p N = true := okMul_l (by omega)
  have pN : p * N ≠ 0 := Int.mul_ne_zero (by omega) (by omega)
  have pb : (p * N).natAbs < 2 ^ (10 + 7) := mul_lt (by omega) (by omega)
  have z1 : f__law_f [.int (p * N), .int (q - p)] st = .ok (qd (Rat.divInt (p * N) (q - p))) st := r_fQ (k := 10) (by omega) (by omega) (by decide)
  have z2 : f__law_f [.int (q - p), .int (p * N)] st = .ok (qd (Rat.divInt (q - p) (p * N))) st := r_fQ pN pb (by decide)
  have b1 : QB 17 (Rat.divInt (p * N) (q - p)) := .of (by omega) pb (by omega)
  have b2 : QB 17 (Rat.divInt (q - p) (p * N)) := .of pN (by omega) pb
  have q0 : (q : Rat) ≠ 0 := fun e => by have := Rat.intCast_eq_zero_iff.mp e; omega
  have p0 : (p : Rat) ≠ 0 := fun e => by have := Rat.intCast_eq_zero_iff.mp e; omega
  have n0 : (N : Rat) ≠ 0 := fun e => by have := Rat.intCast_eq_zero_iff.mp e; omega
  have d0 : ((q - p : Int) : Rat) ≠ 0 := fun e => by have := Rat.intCast_eq_zero_iff.mp e; omega
  have e1 : Rat.divInt (p * N) (q - p) = Rat.divInt p q / osh m (Rat.divInt p q) := by
    rw [hod, Rat.divInt_eq_div, Rat.divInt_eq_div, Rat.divInt_eq_div, Rat.intCast_mul, Rat.intCast_mul]
    obtain ⟨d, hd⟩ : ∃ d : Rat, d = ((q - p : Int) : Rat) := ⟨_, rfl⟩
    rw [← hd] at d0 ⊢
    grind
  have e2 : Rat.divInt (q - p) (p * N) = osh m (Rat.divInt p q) / Rat.divInt p q := by
    rw [hod, Rat.divInt_eq_div, Rat.divInt_eq_div, Rat.divInt_eq_div, Rat.intCast_mul, Rat.intCast_mul]
    obtain ⟨d, hd⟩ : ∃ d : Rat, d = ((q - p : Int) : Rat) := ⟨_, rfl⟩
    rw [← hd] at d0 ⊢
    grind
  rw [e1] at z1 b1
  rw [e2] at z2 b2
  obtain ⟨x, hx⟩ : ∃ x, x = Rat.divInt p q / osh m (Rat.divInt p q) := ⟨_, rfl⟩
  obtain ⟨y, hy⟩ : ∃ y, y = osh m (Rat.divInt p q) / Rat.divInt p q := ⟨_, rfl⟩
  rw [← hx] at z1 b1 ⊢
  rw [← hy] at z2 b2 ⊢
  have g := r_lgreatQ (k := 17) (st := st ++ [.lst [qd x, qd y]]) (m := st.length) (x := x) (l := [y]) lstAt_new (by
    intro z hz
    simp only [List.mem_cons, List.not_mem_nil, or_false] at hz
    rcases hz with rfl | rfl
    · exact b1
    · exact b2) (by decide)
  have hg : gmax x [x, y] = if x < y then y else x := by simp [gmax, Rat.lt_irrefl]
  rw [hg] at g
  refine ⟨st ++ [.lst [qd x, qd y]], ?_, .app⟩
  simp [hvw', hpq, ← hN, o1, z1, z2, g, od]
def prD (p : Nat × Nat) : D := .tup [.int (p.1 : Nat), .int (p.2 : Nat)]
def pl (rows : List (List Int)) (p : Nat × Nat) : Option Rat := lss (prw (gr rows p.1) (gr rows p.2))
def tot (rows : List (List Int)) (l : List (Nat × Nat)) : Option Rat := l.foldl (fun b p => glo b (pl rows p)) (some 1)
theorem glo_ge {a b : Option Rat} (ha : ∀ x, a = some x → 1 ≤ x) : ∀ x, glo a b = some x → 1 ≤ x := fun x hx => by
  cases a with
  | none => cases hx
  | some y =>
    cases b with
    | none => cases hx
    | some z =>
      have hx : some (if y < z then z else y) = some x := hx
      have := ha y rfl
      split at hx <;> cases hx
      · exact Rat.le_trans this (Rat.le_of_lt (by assumption))
      · exact this
theorem r_rows_loss {t : Rat} {rows : List (List Int)} (h : SpinR m t rows) {l : List (Nat × Nat)} (hl : ∀ p ∈ l, p.1 < m ∧ p.2 < m) :
    f_rows_loss [rowsD rows, .tup (l.map prD)] st = .ok (od (tot rows l)) st ∧ OB 120 (tot rows l) ∧ ∀ x, tot rows l = some x → 1 ≤ x := by
  have main := for_fold (q := .fix (l.map prD)) (set := gT 2 (gCs 3 (gCs 4 gNil0))) (u := sSet 2 (eCall 2 f_greater_loss (aCons (eVar 2) (aCons (eCall 2 f_row_loss (aCons (eBin oIx (eVar 0) (eVar 3)) (aCons (eBin oIx (eVar 0) (eVar 4)) aNil))) aNil)))) (st := st) rfl prD
    (fun (b : Option Rat × Option D × Option D) p => (glo b.1 (pl rows p), some (.int (p.1 : Nat)), some (.int (p.2 : Nat)))) (fun b _ => [some (rowsD rows), some (.tup (l.map prD)), some (od b.1), b.2.1, b.2.2]) (fun b => OB 120 b.1 ∧ ∀ x, b.1 = some x → 1 ≤ x) l (some 1, none, none) none ⟨fun x hx => by cases hx; exact qb_one (by decide), fun x hx => by cases hx; exact Rat.le_refl⟩ (fun b t p hp hb => by
      have hv := hl p hp
      have g1 := gr_get (rows := rows) (v := p.1) (by rw [h.len]; exact hv.1)
      have g2 := gr_get (rows := rows) (v := p.2) (by rw [h.len]; exact hv.2)
      obtain ⟨d1, w1⟩ := h.at' _ _ g1
      obtain ⟨d2, w2⟩ := h.at' _ _ g2
      obtain ⟨z, o⟩ := r_row_lossQ (st := st) w1 w2 (by rw [d1.len, d2.len]) (by decide) (by decide)
      have i1 := ix_rows g1 (s := st)
      have i2 := ix_rows g2 (s := st)
      have z2 := r_greaterQ (st := st) hb.1 o (by decide)
      exact ⟨⟨hb.1.glo o, glo_ge hb.2⟩, [some (rowsD rows), some (.tup (l.map prD)), some (od b.1), some (.int (p.1 : Nat)), some (.int (p.2 : Nat))], rfl, by simp [i1, i2, z, z2]; rfl⟩)
  obtain ⟨⟨t', e⟩, h2⟩ := main
  have hfst : ∀ (l : List (Nat × Nat)) (a : Option Rat) (x y : Option D), (l.foldl (fun (b : Option Rat × Option D × Option D) p => (glo b.1 (pl rows p), some (.int (p.1 : Nat)), some (.int (p.2 : Nat)))) (a, x, y)).1 = l.foldl (fun b p => glo b (pl rows p)) a := fun l => by
    induction l with
    | nil => intro a x y; rfl
    | cons p l ih => intro a x y; exact ih _ _ _
  rw [hfst] at h2
  refine ⟨?_, h2⟩
  have e : forL (.fix (l.map prD)) (gT 2 (gCs 3 (gCs 4 gNil0))) (sSet 2 (eCall 2 f_greater_loss (aCons (eVar 2) (aCons (eCall 2 f_row_loss (aCons (eBin oIx (eVar 0) (eVar 3)) (aCons (eBin oIx (eVar 0) (eVar 4)) aNil))) aNil)))) (l.map prD) [some (rowsD rows), some (.tup (l.map prD)), some (qd 1), none, none] st = _ := e
  rw [hfst] at e
  obtain ⟨Z, hZ⟩ : ∃ Z, Z = l.map prD := ⟨_, rfl⟩
  rw [← hZ] at e ⊢
  unfold f_rows_loss
  rw [runB_e]
  unfold m_rows_loss
  have q1 : q_ONE = qd 1 := rfl
  simp [List.replicate, q1, sFor_e, e]
  rfl
end

section
variable {st : Store} {ns : List Int}
theorem r_part (H : DS ns st) : ∃ p q st', f__law_part [.ref 1] st = .ok (.tup [.int p, .int q]) st' ∧ 1 ≤ p ∧ p ≤ q ∧ q ≤ 1000 ∧ DS ns st' ∧ Fr st st' := by
  obtain ⟨v0, s0, e0, a0, b0, D0, F0⟩ := r_draw (many := 4) H (by decide) (by decide)
  obtain ⟨B, hB⟩ : ∃ B : Int, B = if v0 = 1 then 1000 else 9 := ⟨_, rfl⟩
  have B1 : 9 ≤ B ∧ B ≤ 1000 := by rw [hB]; split <;> omega
  have eB : (eIf (tBl (eBin oEq (eCall 2 f__law_draw (aCons (eVar 0) (aCons (eC (.int 4)) aNil))) (eC (.int 1)))) (eC (.int 1000)) (eC (.int 9))) [some (.ref 1), none, none] st = .ok (.int B) s0 := by
    rw [hB]
    by_cases h : v0 = 1 <;> simp [e0, h]
  obtain ⟨v1, s1, e1, a1, b1, D1, F1⟩ := r_draw (many := B) D0 (by omega) (Nat.lt_of_le_of_lt (log2_le (k := 10) (by omega)) (by decide))
  obtain ⟨v2, s2, e2, a2, b2, D2, F2⟩ := r_draw (many := 1 + v1) D1 (by omega) (Nat.lt_of_le_of_lt (log2_le (k := 10) (by omega)) (by decide))
  obtain ⟨v3, s3, e3, a3, b3, D3, F3⟩ := r_draw (many := 6) D2 (by decide) (by decide)
  refine ⟨if v3 = 1 then 1 + v1 else 1 + v2, 1 + v1, s3, ?_, by split <;> omega, by split <;> omega, by omega, D3, ((F0.trans F1).trans F2).trans F3⟩
  unfold f__law_part
  rw [runB_e]
  unfold m__law_part
  by_cases h : v3 = 1
  · simp [-eIf_e, List.replicate, eB, e1, e2, e3, h]
  · simp [-eIf_e, List.replicate, eB, e1, e2, e3, h]
theorem r_many (H : DS ns st) {a b : Int} {k : Nat} {τ : Sl} (ha : 0 < a ∧ a ≤ 1000) (hb : 0 < b ∧ b ≤ 1000) {n : Int} (hn : 0 < n ∧ n < 100) (h0 : τ[0]? = some (some (.ref 1))) : ∃ v st', (eCall 2 f__law_draw (aCons (eVar 0) (aCons (eIf (tBl (eBin oEq (eCall 2 f__law_draw (aCons (eVar 0) (aCons (eC (.int n)) aNil))) (eC (.int 1)))) (eC (.int a)) (eC (.int b))) aNil))) τ st = .ok (.int v) st' ∧ 0 ≤ v ∧ (v < a ∨ v < b) ∧ DS ns st' ∧ Fr st st' := by
  obtain ⟨v0, s0, e0, a0, b0, D0, F0⟩ := r_draw (many := n) H hn.1 (Nat.lt_of_le_of_lt (log2_le (k := 10) (by omega)) (by decide))
  obtain ⟨B, hB⟩ : ∃ B : Int, B = if v0 = 1 then a else b := ⟨_, rfl⟩
  have B1 : 0 < B ∧ B ≤ 1000 ∧ (B = a ∨ B = b) := by rw [hB]; split <;> omega
  have eB : (eIf (tBl (eBin oEq (eCall 2 f__law_draw (aCons (eVar 0) (aCons (eC (.int n)) aNil))) (eC (.int 1)))) (eC (.int a)) (eC (.int b))) τ st = .ok (.int B) s0 := by
    rw [hB]
    by_cases h : v0 = 1 <;> simp [e0, h, eVar_e h0]
  obtain ⟨v1, s1, e1, a1, b1, D1, F1⟩ := r_draw (many := B) D0 (by omega) (Nat.lt_of_le_of_lt (log2_le (k := 10) (by omega)) (by decide))
  refine ⟨v1, s1, by simp [-eIf_e, eVar_e h0, eB, e1], a1, by omega, D1, F0.trans F1⟩
theorem r_are_spins (H : DS ns st) : ∃ st', f__law_are_spins [.ref 1] st = .ok (.bl true) st' ∧ DS ns st' ∧ Fr st st' := by
  obtain ⟨v1, s1, e1, a1, b1, D1, F1⟩ := r_many (τ := [some (.ref 1), none, none, none, none, none, none, none, none, none, none, none]) (k := 0) H (a := 11) (b := 4) (n := 3) (by decide) (by decide) (by decide) rfl
  obtain ⟨p, q, s2, e2, p1, pq, q1, D2, F2⟩ := r_part D1
  obtain ⟨m, hm⟩ : ∃ m : Nat, (m : Int) = 2 + v1 := ⟨(2 + v1).toNat, by omega⟩
  have m2 : 2 ≤ m := by omega
  have m100 : m ≤ 13 := by omega
  obtain ⟨rows, s3, e3, G3, hR⟩ := r_spin_rows (st := s2) (m := m) (p := p) (q := q) m2 (by omega) (by omega) q1 (by omega) pq
  have e4 := r_is_spin (st := s3) hR m2 (by omega) (by omega) q1 (by omega) pq
  have D3 := G3.ds D2
  obtain ⟨vc, s4, e5, a5, b5, D4, F4⟩ := r_draw (st := s3 ++ [.lst []]) (many := 5) D3.app (by decide) (by decide)
  obtain ⟨c, rfl⟩ : ∃ c : Nat, vc = c := ⟨vc.toNat, by omega⟩
  obtain ⟨M, hM⟩ : ∃ M, M = s3.length := ⟨_, rfl⟩
  have l2 := D3.len
  have g4 : lstAt s4 M = some [] := F4.lst (by rw [hM]; exact lstAt_new) (by omega)
  have hr : ∀ s, rg1 (.int (c : Nat)) s = .ok (.fix (rng 0 c)) s := fun s => rg1_int (by omega)
  obtain ⟨t, ht⟩ : ∃ t, t = Rat.divInt p q := ⟨_, rfl⟩
  have q0 : (q : Rat) ≠ 0 := fun e => by have := Rat.intCast_eq_zero_iff.mp e; omega
  have t0 : 0 < t := by
    rw [ht, Rat.divInt_eq_div, Rat.div_def]
    exact Rat.mul_pos (Rat.intCast_pos.mpr (by omega)) (Rat.inv_pos.mpr (Rat.intCast_pos.mpr (by omega)))
  have t1 : t ≤ 1 := by
    refine Rat.not_lt.mp fun h => ?_
    rw [ht, Rat.divInt_eq_div, Rat.lt_div_iff (Rat.intCast_pos.mpr (by omega)), Rat.one_mul] at h
    have := Rat.intCast_lt_intCast.mp h
    omega
  obtain ⟨τ', s5, e6, l, due, ⟨x7, x8, x9, x10, hτ⟩, g5, hl, ll, hdue, D5, F5⟩ := for_inv (q := .fix (rng 0 c)) (set := gN 7) (u := sSeq (sSet 8 (eCall 2 f__law_draw (aCons (eVar 0) (aCons (eVar 1) aNil))))
    (sSeq (sSet 9 (eCall 2 f__law_draw (aCons (eVar 0) (aCons (eVar 1) aNil))))
    (sSeq (sExpr (eM "list" mAppend (eVar 5) (aCons (eTup (aCons (eVar 8) (aCons (eVar 9) aNil))) aNil)))
    (sSeq (sSet 10 (eCall 5 f__law_spin_loss (aCons (eVar 1) (aCons (eVar 2) (aCons (eVar 3) (aCons (eVar 8) (aCons (eVar 9) aNil)))))))
    (sSeq (sIf (HM.tNot (tVal (eCall 2 f__law_is_loss (aCons (eCall 2 f_row_loss (aCons (eBin oIx (eVar 4) (eVar 8)) (aCons (eBin oIx (eVar 4) (eVar 9)) aNil))) (aCons (eVar 10) aNil))))) (sRet (eC (.bl false))) sNil)
    (sSet 6 (eIf (HM.tOr (tBl (eBin oIs (eVar 6) (eC .non))) (tBl (eBin oIs (eVar 10) (eC .non)))) (eC .non) (eCall 1 f__law_great (aCons (eLst (aCons (eVar 6) (aCons (eVar 10) aNil))) aNil)))))))))
    (fun k τ s => ∃ l : List (Nat × Nat), ∃ due : Option Rat, (∃ x7 x8 x9 x10, τ = [some (.ref 1), some (.int (m : Nat)), some (.int p), some (.int q), some (rowsD rows), some (.ref M), some (od due), x7, x8, x9, x10, none]) ∧ lstAt s M = some (l.map prD) ∧ (∀ p ∈ l, p.1 < m ∧ p.2 < m) ∧ l.length ≤ k ∧ due = tot rows l ∧ DS ns s ∧ Fr s3 s) (fun _ _ _ _ => rfl) (rng 0 c) 0 [some (.ref 1), some (.int (m : Nat)), some (.int p), some (.int q), some (rowsD rows), some (.ref M), some (qd 1), none, none, none, none, none] s4 ⟨[], some 1, ⟨none, none, none, none, rfl⟩, g4, by simp, Nat.le_refl _, rfl, D4, Fr.app.trans F4⟩ (by
      intro i d τ s hi hp'
      obtain ⟨l, due, ⟨x7, x8, x9, x10, rfl⟩, g, hl, ll, hdue, Dx, F⟩ := hp'
      obtain ⟨hic, rfl⟩ := rngi hi
      have lm : ((m : Nat) : Int).natAbs.log2 < 9000 := Nat.lt_of_le_of_lt (log2_le (k := 10) (by omega)) (by decide)
      obtain ⟨vv, sa, ea, aa, ba, Da, Fa⟩ := r_draw (many := (m : Nat)) Dx (by omega) lm
      obtain ⟨vw, sb, eb, ab, bb, Db, Fb⟩ := r_draw (many := (m : Nat)) Da (by omega) lm
      obtain ⟨v, rfl⟩ : ∃ v : Nat, vv = v := ⟨vv.toNat, by omega⟩
      obtain ⟨w, rfl⟩ : ∃ w : Nat, vw = w := ⟨vw.toNat, by omega⟩
      have hv : v < m := by omega
      have hw : w < m := by omega
      have gb : lstAt sb M = some (l.map prD) := Fb.lst (Fa.lst g (by omega)) (by omega)
      have ap := mAppend_ref (x := prD (v, w)) gb (by simp; omega)
      obtain ⟨sc, hsc⟩ : ∃ sc, sc = sb.set M (.lst (l.map prD ++ [prD (v, w)])) := ⟨_, rfl⟩
      rw [← hsc] at ap
      have gc : lstAt sc M = some ((l ++ [(v, w)]).map prD) := by rw [hsc, lstAt_set gb]; simp
      have Dc : DS ns sc := hsc ▸ Db.put2 (by omega) (by omega)
      have Fc : Fr s3 sc := hsc ▸ ((F.trans Fa).trans Fb).put2 (by omega)
      obtain ⟨sd, ed, Gd⟩ := r_spin_loss (st := sc) (m := m) (p := p) (q := q) m2 (by omega) (by omega) q1 (by omega) pq (v := v) (w := w)
      rw [← ht] at ed
      have g1 := gr_get (rows := rows) (v := v) (by rw [hR.len]; exact hv)
      have g2 := gr_get (rows := rows) (v := w) (by rw [hR.len]; exact hw)
      rw [← ht] at hR
      obtain ⟨d1, w1⟩ := hR.at' _ _ g1
      obtain ⟨d2, w2⟩ := hR.at' _ _ g2
      obtain ⟨z, o⟩ := r_row_lossQ (st := sd) w1 w2 (by rw [d1.len, d2.len]) (by decide) (by decide)
      have i1 := ix_rows g1 (s := sd)
      have i2 := ix_rows g2 (s := sd)
      have hll := spin_lss hR m2 t0 t1 hv hw
      have ge := isL_ge (lss_isL (prw (gr rows v) (gr rows w)))
      have y := r_is_lossQ (st := sd) o (by decide) ge
      rw [← hll] at ed
      obtain ⟨L, hL⟩ : ∃ L, L = lss (prw (gr rows v) (gr rows w)) := ⟨_, rfl⟩
      rw [← hL] at ed z y o
      have bd := (r_rows_loss (st := sd) hR hl).2
      rw [← hdue] at bd
      have tt : tot rows (l ++ [(v, w)]) = glo due L := by
        unfold tot
        rw [List.foldl_append, hdue, hL]
        rfl
      -- the greater one
      obtain ⟨se, Ge, ee⟩ : ∃ se, Gr sd se ∧ (eIf (HM.tOr (tBl (eBin oIs (eVar 6) (eC .non))) (tBl (eBin oIs (eVar 10) (eC .non)))) (eC .non) (eCall 1 f__law_great (aCons (eLst (aCons (eVar 6) (aCons (eVar 10) aNil))) aNil))) [some (.ref 1), some (.int (m : Nat)), some (.int p), some (.int q), some (rowsD rows), some (.ref M), some (od due), some (.int (i : Nat)), some (.int (v : Nat)), some (.int (w : Nat)), some (od L), none] sd = .ok (od (glo due L)) se := by
        cases due with
        | none => exact ⟨sd, .refl, by simp [od, glo]⟩
        | some a =>
          have i3 : ∀ s, oIs (qd a) .non s = .ok (.bl false) s := fun _ => rfl
          cases L with
          | none => exact ⟨sd, .refl, by simp [od, glo, i3]⟩
          | some b =>
            have i4 : ∀ s, oIs (qd b) .non s = .ok (.bl false) s := fun _ => rfl
            have g := r_lgreatQ (k := 120) (st := sd ++ [.lst [qd a, qd b]]) (m := sd.length) (x := a) (l := [b]) lstAt_new (by
              intro z hz
              simp only [List.mem_cons, List.not_mem_nil, or_false] at hz
              rcases hz with rfl | rfl
              · exact bd.1 _ rfl
              · exact o _ rfl) (by decide)
            have hg : gmax a [a, b] = if a < b then b else a := by simp [gmax, Rat.lt_irrefl]
            rw [hg] at g
            exact ⟨_, .app (c := .lst [qd a, qd b]), by simp [od, glo, i3, i4, g]⟩
      refine ⟨[some (.ref 1), some (.int (m : Nat)), some (.int p), some (.int q), some (rowsD rows), some (.ref M), some (od due), some (.int (i : Nat)), x8, x9, x10, none], rfl, [some (.ref 1), some (.int (m : Nat)), some (.int p), some (.int q), some (rowsD rows), some (.ref M), some (od (glo due L)), some (.int (i : Nat)), some (.int (v : Nat)), some (.int (w : Nat)), some (od L), none], se, .inl ?_, l ++ [(v, w)], glo due L, ⟨_, _, _, _, rfl⟩, (Gd.trans Ge).lst gc, ?_, by simp; omega, tt.symm, (Gd.trans Ge).ds Dc, Fc.trans (Gd.trans Ge).fr⟩
      · have ap : mAppend (.ref M) [.tup [.int (v : Nat), .int (w : Nat)]] sb = _ := ap
        simp [-eIf_e, ea, eb, okT_ref gb, ap, ed, i1, i2, z, y, ee]
      · intro x hx
        rcases List.mem_append.mp hx with hx | hx
        · exact hl x hx
        · rw [List.mem_singleton.mp hx]
          exact ⟨hv, hw⟩)
  subst hτ
  have hR0 := hR
  rw [← ht] at hR
  obtain ⟨z1, o1, ge1⟩ := r_rows_loss (st := s5) hR hl
  rw [← hdue] at z1 o1 ge1
  have y1 := r_is_lossQ (st := s5) o1 (by decide) ge1
  obtain ⟨K, hK⟩ : ∃ K : Int, K = (1000 : Int).fdiv q := ⟨_, rfl⟩
  have K1 : 1 ≤ K ∧ K * q ≤ 1000 ∧ K ≤ 1000 := by
    rw [hK, Int.fdiv_eq_ediv_of_nonneg _ (by omega)]
    exact ⟨(Int.le_ediv_iff_mul_le (by omega)).mpr (by omega), Int.ediv_mul_le _ (by omega), Int.ediv_le_self _ (by decide)⟩
  obtain ⟨vm, s6, e7, a7, b7, D6, F6⟩ := r_draw (many := K) D5 (by omega) (Nat.lt_of_le_of_lt (log2_le (k := 10) (by omega)) (by decide))
  obtain ⟨W, hW⟩ : ∃ W : Int, W = 1 + vm := ⟨_, rfl⟩
  have hWq : W * q ≤ 1000 := by
    have : W * q ≤ K * q := Int.mul_le_mul_of_nonneg_right (by omega) (by omega)
    omega
  have hWq0 : 0 < W * q := Int.mul_pos (by omega) (by omega)
  have hWp0 : 0 ≤ W * p := Int.mul_nonneg (by omega) (by omega)
  have hWpq : W * p ≤ W * q := Int.mul_le_mul_of_nonneg_left pq (by omega)
  obtain ⟨rows2, s7, e8, G7, hR2⟩ := r_spin_rows (st := s6) (m := m) (p := W * p) (q := W * q) m2 (by omega) hWq0 hWq hWp0 hWpq
  rw [Rat.divInt_mul_left (by omega)] at hR2
  have e9 := r_is_spin (st := s7) hR2 m2 (by omega) (by omega) q1 (by omega) pq
  have om1 : okMul W p = true := okMul_l (by omega)
  have om2 : okMul W q = true := okMul_l (by omega)
  have od1 : okDiv 1000 q = true := okDiv_of (by omega) (Nat.lt_of_le_of_lt (log2_le (k := 10) (by omega)) (by decide))
  refine ⟨s7, ?_, G7.ds D6, ((((((F1.trans F2).trans G3.fr).trans F5).trans F6).trans G7.fr))⟩
  unfold f__law_are_spins
  rw [runB_e]
  unfold m__law_are_spins
  have t2 : D.tup [.int 1, .int 1] = qd 1 := rfl
  simp only [sSeq_e, sSet_e]
  have hs : ∀ s, ofA (gT 2 (gCs 2 (gCs 3 gNil0))) [some (.ref 1), some (.int (m : Nat)), none, none, none, none, none, none, none, none, none, none] (.tup [.int p, .int q]) s = .nx [some (.ref 1), some (.int (m : Nat)), some (.int p), some (.int q), none, none, none, none, none, none, none, none] s := fun s => rfl
  simp [-eCall_e, -eIf_e, List.replicate, e1]
  simp [← hm, e2, hs]
  simp [← hm, e2, e3, e4, t2, ← hM, e5, sFor_e, hr, e6]
  simp [fTuple_ref g5, z1, y1, od1, ← hK, e7, ← hW, om1, om2, e8, e9]
end

theorem gMax_of {ns : List Int} (h : ns ≠ []) : ∃ k, (∀ st, gMax (ns.map D.int) st = .ok (.int k) st) ∧ k ∈ ns ∧ ∀ n ∈ ns, n ≤ k := by
  cases ns with
  | nil => exact absurd rfl h
  | cons n ns =>
    obtain ⟨h1, h2, h3⟩ := foldl_max_ge ns n
    refine ⟨_, fun st => by unfold gMax; rw [intsD_map]; rfl, ?_, fun k hk => ?_⟩
    · rcases h3 with h3 | h3
      · rw [h3]; exact List.mem_cons_self ..
      · exact List.mem_cons_of_mem _ h3
    · rcases List.mem_cons.mp hk with rfl | hk
      · exact h1
      · exact h2 k hk
theorem gMin_of {ns : List Int} (h : ns ≠ []) : ∃ k, (∀ st, gMin (ns.map D.int) st = .ok (.int k) st) ∧ k ∈ ns ∧ ∀ n ∈ ns, k ≤ n := by
  cases ns with
  | nil => exact absurd rfl h
  | cons n ns =>
    obtain ⟨h1, h2, h3⟩ := foldl_min_le ns n
    refine ⟨_, fun st => by unfold gMin; rw [intsD_map]; rfl, ?_, fun k hk => ?_⟩
    · rcases h3 with h3 | h3
      · rw [h3]; exact List.mem_cons_self ..
      · exact List.mem_cons_of_mem _ h3
    · rcases List.mem_cons.mp hk with rfl | hk
      · exact h1
      · exact h2 k hk

/-! powers -/
def pw (b : Int) (n : Nat) : List Int := (List.range (n + 1)).map fun k => b ^ k
theorem pw_get {b : Int} {n k : Nat} (h : k ≤ n) : (pw b n)[k]? = some (b ^ k) := by
  unfold pw
  rw [List.getElem?_map, List.getElem?_range (by omega)]
  rfl
theorem pw_len {b : Int} {n : Nat} : (pw b n).length = n + 1 := by simp [pw]
theorem pow_lt {b : Int} {j : Nat} (h : b.natAbs < 2 ^ j) : ∀ k : Nat, (b ^ k).natAbs < 2 ^ (j * k + 1)
  | 0 => by simp
  | k + 1 => by
    rw [Int.pow_succ]
    have := mul_lt (pow_lt h k) h
    rwa [show j * k + 1 + j = j * (k + 1) + 1 by rw [Nat.mul_add]; omega] at this
theorem powers_loop {st : Store} {b : Int} {n M : Nat} (hb : b.natAbs < 18446744073709551616) (hn : n ≤ 1000) (hM : M = st.length) :
    ∃ a, forL (.fix (rng 0 n)) (gN 3) (sExpr (eM "list" mAppend (eVar 2) (aCons (eBin oMul (eBin oIx (eVar 2) (eVar 3)) (eVar 0)) aNil))) (rng 0 n) [some (.int b), some (.int (n : Nat)), some (.ref M), none] (st ++ [.lst [.int 1]]) = .nx [some (.int b), some (.int (n : Nat)), some (.ref M), a] (st ++ [.lst ((pw b n).map D.int)]) := by
  obtain ⟨τ', s', e, ⟨a, rfl, rfl⟩⟩ := for_inv (q := .fix (rng 0 n)) (set := gN 3) (u := sExpr (eM "list" mAppend (eVar 2) (aCons (eBin oMul (eBin oIx (eVar 2) (eVar 3)) (eVar 0)) aNil)))
    (fun k τ s => ∃ a, τ = [some (.int b), some (.int (n : Nat)), some (.ref M), a] ∧ s = st ++ [.lst ((pw b k).map D.int)]) (fun _ _ _ _ => rfl) (rng 0 n) 0 [some (.int b), some (.int (n : Nat)), some (.ref M), none] (st ++ [.lst [.int 1]]) ⟨none, rfl, by simp [pw]⟩ (by
      intro i d τ s hi hp
      obtain ⟨a, rfl, rfl⟩ := hp
      have hi2 : i < n := by
        have := (List.getElem?_eq_some_iff.mp hi).1
        rwa [rng_len] at this
      have hd : d = .int (i : Nat) := by
        rw [rng_eq, List.getElem?_map, List.getElem?_range hi2] at hi
        exact (Option.some.inj hi).symm
      subst hd
      rw [Nat.zero_add]
      have g : lstAt (st ++ [.lst ((pw b i).map D.int)]) M = some ((pw b i).map D.int) := by rw [hM]; exact lstAt_new
      have gl : ((pw b i).map D.int).length < 16777216 := by rw [List.length_map, pw_len]; omega
      have ix : atI ((pw b i).map D.int) (i : Nat) = some (.int (b ^ i)) := atI_nat (by rw [List.getElem?_map, pw_get (Nat.le_refl _)]; rfl)
      have om : okMul (b ^ i) b = true := okMul_r hb
      have es : pw b (i + 1) = pw b i ++ [b ^ i * b] := by
        unfold pw
        rw [List.range_succ (n := i + 1), List.map_append, List.map_cons, List.map_nil, Int.pow_succ]
      have z := mAppend_ref (x := .int (b ^ i * b)) g gl
      have hset : (st ++ [Cell.lst ((pw b i).map D.int)]).set M (.lst ((pw b i).map D.int ++ [.int (b ^ i * b)])) = st ++ [.lst ((pw b (i + 1)).map D.int)] := by
        rw [hM, es]; simp
      rw [hset] at z
      obtain ⟨X, hX⟩ : ∃ X, X = (pw b i).map D.int := ⟨_, rfl⟩
      rw [← hX] at g ix z ⊢
      refine ⟨[some (.int b), some (.int (n : Nat)), some (.ref M), some (.int (i : Nat))], rfl, [some (.int b), some (.int (n : Nat)), some (.ref M), some (.int (i : Nat))], st ++ [.lst ((pw b (i + 1)).map D.int)], .inl ?_, _, rfl, rfl⟩
      simp [okT_ref g, oIx_ref g, ix, om, z])
  refine ⟨a, ?_⟩
  rw [Nat.zero_add, rng_len] at e
  exact e
theorem r_powers {st : Store} {b : Int} {n : Nat} (hb : b.natAbs < 18446744073709551616) (hn : n ≤ 1000) : f_powers [.int b, .int (n : Nat)] st = .ok (itup (pw b n)) (st ++ [.lst ((pw b n).map D.int)]) := by
  obtain ⟨a, e⟩ := powers_loop (st := st) (b := b) (n := n) hb hn rfl
  have hr : ∀ s, rg1 (.int (n : Nat)) s = .ok (.fix (rng 0 n)) s := fun s => rg1_int (by omega)
  unfold f_powers
  rw [runB_e]
  unfold m_powers
  simp [List.replicate, sFor_e, hr, e, fTuple_ref lstAt_new]
  rfl
theorem r_lpowers {st : Store} {b : Int} {n : Nat} (hb : b.natAbs < 18446744073709551616) (hn : n ≤ 1000) : f__law_powers [.int b, .int (n : Nat)] st = .ok (.ref st.length) (st ++ [.lst ((pw b n).map D.int)]) := by
  obtain ⟨a, e⟩ := powers_loop (st := st) (b := b) (n := n) hb hn rfl
  have hr : ∀ s, rg1 (.int (n : Nat)) s = .ok (.fix (rng 0 n)) s := fun s => rg1_int (by omega)
  unfold f__law_powers
  rw [runB_e]
  unfold m__law_powers
  simp [List.replicate, sFor_e, hr, e]

/-! choices -/
theorem rpow_add {x : Rat} {a : Nat} : ∀ b : Nat, x ^ (a + b) = x ^ a * x ^ b
  | 0 => by rw [Nat.add_zero, Rat.pow_zero, Rat.mul_one]
  | b + 1 => by rw [← Nat.add_assoc, Rat.pow_succ, rpow_add b, Rat.pow_succ, Rat.mul_assoc]
theorem rmul_pow {x y : Rat} : ∀ b : Nat, (x * y) ^ b = x ^ b * y ^ b
  | 0 => by rw [Rat.pow_zero, Rat.pow_zero, Rat.pow_zero, Rat.mul_one]
  | b + 1 => by
    rw [Rat.pow_succ, Rat.pow_succ, Rat.pow_succ, rmul_pow b]
    grind
theorem sum_le {B : Int} : ∀ {xs : List Int}, (∀ x ∈ xs, x ≤ B) → xs.sum ≤ xs.length * B
  | [], _ => by simp
  | x :: xs, h => by
    have := sum_le fun y hy => h y (List.mem_cons_of_mem x hy)
    have := h x (List.mem_cons_self ..)
    rw [List.sum_cons, List.length_cons, Int.natCast_add, Int.add_mul]
    omega
theorem sum_pos : ∀ {xs : List Int}, xs ≠ [] → (∀ x ∈ xs, 0 < x) → 0 < xs.sum
  | [], h, _ => absurd rfl h
  | [x], _, h => by
    have := h x (List.mem_cons_self ..)
    simpa using this
  | x :: y :: xs, _, h => by
    have := sum_pos (xs := y :: xs) (by simp) fun z hz => h z (List.mem_cons_of_mem x hz)
    have := h x (List.mem_cons_self ..)
    rw [List.sum_cons]
    omega
theorem big122 : (2 : Nat) ^ 122 = 5316911983139663491615228241121378304 := by decide +kernel
theorem big130 : (2 : Nat) ^ 130 = 1361129467683753853853498429727072845824 := by decide +kernel
def nt (ws : List Nat) : D := .tup (ws.map fun w => D.int (w : Nat))
def scl (p q : Int) (n : Nat) : List Int := (List.range (n + 1)).map fun e => p ^ e * q ^ (n - e)
theorem scl_get {p q : Int} {n k : Nat} (h : k ≤ n) : (scl p q n)[k]? = some (p ^ k * q ^ (n - k)) := by
  unfold scl
  rw [List.getElem?_map, List.getElem?_range (by omega)]
  rfl
section
variable {st : Store} {p q : Int} {n : Nat} {ws : List Nat}
theorem r_scaled (hp : p.natAbs < 2 ^ 10) (hq : q.natAbs < 2 ^ 10) (hn : n ≤ 12) : ∃ st', f_scaled_powers [.int p, .int q, .int (n : Nat)] st = .ok (itup (scl p q n)) st' ∧ Gr st st' := by
  have z1 := r_powers (st := st) (b := p) (n := n) (by omega) (by omega)
  have z2 := r_powers (st := st ++ [.lst ((pw p n).map D.int)]) (b := q) (n := n) (by omega) (by omega)
  obtain ⟨s2, hs2⟩ : ∃ s2, s2 = st ++ [Cell.lst ((pw p n).map D.int)] ++ [.lst ((pw q n).map D.int)] := ⟨_, rfl⟩
  obtain ⟨s1, hs1⟩ : ∃ s1, s1 = st ++ [Cell.lst ((pw p n).map D.int)] := ⟨_, rfl⟩
  rw [← hs1] at z1 z2 hs2
  rw [← hs2] at z2
  have hr : ∀ s, rg1 (.int ((n : Nat) + 1)) s = .ok (.fix (rng 0 ((n + 1 : Nat) : Int))) s := fun s => rg1_int (j := ((n + 1 : Nat) : Int)) (by omega)
  have c := comp_map (q := .fix (rng 0 ((n + 1 : Nat) : Int))) (set := gN 5) (fe := eBin oMul (eBin oIx (eVar 3) (eVar 5)) (eBin oIx (eVar 4) (eBin oSub (eVar 2) (eVar 5)))) (τ := [some (.int p), some (.int q), some (.int (n : Nat)), some (itup (pw p n)), some (itup (pw q n)), none]) (st := s2) rfl (fun k : Nat => D.int (k : Nat)) (fun e => .int (p ^ e * q ^ (n - e))) (List.range (n + 1)) [] (fun e he => by
    have he2 : e ≤ n := by have := List.mem_range.mp he; omega
    have i1 := ix_itup (pw_get (b := p) he2) (s := s2)
    have i2 := ix_itup (pw_get (b := q) (n := n) (k := n - e) (by omega)) (s := s2)
    have b1 := pow_lt hp e
    have b2 := pow_lt hq (n - e)
    have o := okMul_of b1 b2 (by omega)
    have hsub : ((n : Nat) : Int) - (e : Nat) = ((n - e : Nat) : Int) := by omega
    refine ⟨[some (.int p), some (.int q), some (.int (n : Nat)), some (itup (pw p n)), some (itup (pw q n)), some (.int (e : Nat))], rfl, ?_⟩
    simp [i1, hsub, i2, o])
  rw [← rng_eq, List.nil_append, show ((List.range (n + 1)).map fun e => D.int (p ^ e * q ^ (n - e))) = (scl p q n).map D.int by unfold scl; rw [List.map_map]; rfl] at c
  have lr : (rng 0 ((n + 1 : Nat) : Int)).length ≤ 16777216 := by rw [rng_len]; omega
  obtain ⟨R, hR⟩ : ∃ R, R = rng 0 ((n + 1 : Nat) : Int) := ⟨_, rfl⟩
  rw [← hR] at c lr hr
  refine ⟨s2, ?_, hs2 ▸ (hs1 ▸ Gr.app.trans .app)⟩
  unfold f_scaled_powers
  rw [runB_e]
  unfold m_scaled_powers
  simp [List.replicate, z1, z2, lComp_e, lc1, wipeD, hr, lr, c]
  rfl
/-- a right choice -/
structure Ch (u : Rat) (ws : List Nat) (xs : List Int) : Prop where
  low : Low xs
  prp : Prp xs (ws.map fun w => u ^ w)
  wt : Wt 130 xs
theorem r_choice_row (hq : 1 ≤ q) (hpq : q ≤ p) (hp : p ≤ 1000) (hw : ∀ w ∈ ws, w ≤ 12) (h0 : ws ≠ []) (hl : ws.length ≤ 61) :
    ∃ xs st', f_choice_row [nt ws, .int p, .int q] st = .ok (itup xs) st' ∧ Gr st st' ∧ Ch (Rat.divInt p q) ws xs := by
  obtain ⟨k, ek, km, kle⟩ := gMax_of (ns := ws.map fun w : Nat => (w : Int)) (by simpa using h0)
  obtain ⟨n, hn, rfl⟩ := List.mem_map.mp km
  have hn12 := hw n hn
  have nle : ∀ w ∈ ws, w ≤ n := fun w hw => by
    have := kle (w : Int) (List.mem_map.mpr ⟨w, hw, rfl⟩)
    omega
  have ek : gMax (ws.map fun w => D.int (w : Nat)) st = .ok (.int (n : Nat)) st := by
    have := ek st
    rwa [List.map_map] at this
  obtain ⟨s1, e1, G1⟩ := r_scaled (st := st) (p := p) (q := q) (n := n) (by omega) (by omega) hn12
  have c := comp_map (q := .fix (ws.map fun w => D.int (w : Nat))) (set := gN 4) (fe := eBin oIx (eVar 3) (eVar 4)) (τ := [some (nt ws), some (.int p), some (.int q), some (itup (scl p q n)), none]) (st := s1) rfl (fun k : Nat => D.int (k : Nat)) (fun w => .int (p ^ w * q ^ (n - w))) ws [] (fun w hw => by
    have i1 := ix_itup (scl_get (p := p) (q := q) (nle w hw)) (s := s1)
    exact ⟨[some (nt ws), some (.int p), some (.int q), some (itup (scl p q n)), some (.int (w : Nat))], rfl, by simp [i1]⟩)
  obtain ⟨zs, hzs⟩ : ∃ zs : List Int, zs = ws.map fun w => p ^ w * q ^ (n - w) := ⟨_, rfl⟩
  rw [List.nil_append, show (ws.map fun w => D.int (p ^ w * q ^ (n - w))) = zs.map D.int by rw [hzs, List.map_map]; rfl] at c
  have lz : zs.length = ws.length := by rw [hzs, List.length_map]
  have h0' : 0 < ws.length := List.length_pos_iff.mpr h0
  have zne : zs ≠ [] := List.length_pos_iff.mp (by omega)
  have ec : f_choice_weights [nt ws, .int p, .int q] st = .ok (.ref s1.length) (s1 ++ [.lst (zs.map D.int)]) := by
    have ll : ws.length ≤ 16777216 := by omega
    have oq : ∀ s, oSeq (nt ws) s = .ok (ws.map fun w => D.int (w : Nat)) s := fun s => rfl
    have dq : ∀ s, dSq s (nt ws) = some (.fix (ws.map fun w => D.int (w : Nat))) := fun s => rfl
    obtain ⟨W, hW⟩ : ∃ W, W = ws.map fun w => D.int (w : Nat) := ⟨_, rfl⟩
    have lW : W.length ≤ 16777216 := by rw [hW, List.length_map]; exact ll
    rw [← hW] at ek c oq dq
    unfold f_choice_weights
    rw [runB_e]
    unfold m_choice_weights
    simp [List.replicate, oq, ek, e1, lComp_e, lc1, wipeD, dq, lW, c]
  have pp : ∀ k : Nat, 0 < p ^ k := fun k => Int.pow_pos (by omega)
  have qp : ∀ k : Nat, 0 < q ^ k := fun k => Int.pow_pos (by omega)
  have zpos : ∀ z ∈ zs, 0 < z := fun z hz => by
    rw [hzs] at hz
    obtain ⟨w, _, rfl⟩ := List.mem_map.mp hz
    exact Int.mul_pos (pp w) (qp _)
  have zlt : ∀ z ∈ zs, z.natAbs < 2 ^ 122 := fun z hz => by
    rw [hzs] at hz
    obtain ⟨w, hw2, rfl⟩ := List.mem_map.mp hz
    have := nle w hw2
    exact lt_up (mul_lt (pow_lt (j := 10) (by omega) w) (pow_lt (j := 10) (by omega) (n - w))) (by omega)
  obtain ⟨z, hz⟩ : ∃ z, z ∈ zs := by
    exact List.exists_mem_of_ne_nil _ zne
  have z0 := zpos z hz
  have gp := lg_pos hz (by omega)
  have gl := lg_le hz (by omega)
  have gb : lg 0 zs < 2 ^ 122 := Nat.lt_of_le_of_lt gl (zlt z hz)
  have zn : ∀ z ∈ zs, 0 ≤ z := fun z hz => Int.le_of_lt (zpos z hz)
  obtain ⟨lo, le⟩ := low_red zn gp
  have r := r_reduced (st := s1 ++ [.lst (zs.map D.int)]) (m := s1.length) lstAt_new (by omega) gp (lt_up gb (by decide))
  have q0 : (q : Rat) ≠ 0 := fun e => by have := Rat.intCast_eq_zero_iff.mp e; omega
  have prp : Prp (zs.map fun w => w.fdiv (lg 0 zs : Nat)) (ws.map fun w => (Rat.divInt p q) ^ w) := by
    have g0 : (((lg 0 zs : Nat) : Int) : Rat) ≠ 0 := fun e => by have := Rat.intCast_eq_zero_iff.mp e; omega
    refine ⟨((q ^ n : Int) : Rat) / ((lg 0 zs : Nat) : Int), ?_, ?_⟩
    · rw [Rat.div_def]
      exact Rat.mul_pos (Rat.intCast_pos.mpr (qp n)) (Rat.inv_pos.mpr (Rat.intCast_pos.mpr (by omega)))
    · rw [List.map_map, List.map_map]
      have : ∀ w ∈ zs, ((w.fdiv (lg 0 zs : Nat) : Int) : Rat) = (w : Rat) / (((lg 0 zs : Nat) : Int) : Rat) := fun w hw => by
        have h1 := congrArg (fun z : Int => (z : Rat)) (le w hw)
        simp only [Rat.intCast_mul] at h1
        rw [← h1]
        grind
      rw [show zs.map ((fun x : Int => (x : Rat)) ∘ fun w => w.fdiv (lg 0 zs : Nat)) = zs.map (fun w : Int => (w : Rat) / (((lg 0 zs : Nat) : Int) : Rat)) from List.map_congr_left this]
      obtain ⟨g, hg⟩ : ∃ g : Rat, g = (((lg 0 zs : Nat) : Int) : Rat) := ⟨_, rfl⟩
      rw [← hg] at g0 ⊢
      rw [hzs, List.map_map]
      refine List.map_congr_left fun w hw => ?_
      show ((p ^ w * q ^ (n - w) : Int) : Rat) / g = ((q ^ n : Int) : Rat) / g * (Rat.divInt p q) ^ w
      have hwn := nle w hw
      rw [Rat.intCast_mul, Rat.intCast_pow, Rat.intCast_pow, Rat.intCast_pow, Rat.divInt_eq_div]
      have e1 : (q : Rat) ^ n = (q : Rat) ^ (n - w) * (q : Rat) ^ w := by
        rw [← rpow_add]
        congr 1
        omega
      have e2 : ((p : Rat) / (q : Rat)) ^ w * (q : Rat) ^ w = (p : Rat) ^ w := by
        rw [← rmul_pow]
        congr 1
        exact Rat.div_mul_cancel q0
      rw [e1, ← e2]
      grind
  refine ⟨_, _, ?_, G1.trans (Gr.app (c := .lst (zs.map D.int))), lo, prp, lo.nn, ?_, ?_, by simp; omega⟩
  · unfold f_choice_row
    rw [runB_e]
    unfold m_choice_row
    simp [ec, r]
  · have h1 := sum_red le
    have h2 := sum_pos zne zpos
    refine Int.not_le.mp fun h => ?_
    have := Int.mul_le_mul_of_nonneg_left h (show 0 ≤ ((lg 0 zs : Nat) : Int) by omega)
    rw [Int.mul_zero] at this
    omega
  · have h1 := sum_red le
    have h2 := sum_pos zne zpos
    have h3 : zs.sum ≤ zs.length * 5316911983139663491615228241121378304 := sum_le fun z hz => by
      have := zlt z hz
      rw [big122] at this
      omega
    rw [big130]
    have h5 : 0 ≤ (zs.map fun w => w.fdiv (lg 0 zs : Nat)).sum := by
      refine Int.not_lt.mp fun h => ?_
      have := Int.mul_neg_of_pos_of_neg (show 0 < ((lg 0 zs : Nat) : Int) by omega) h
      omega
    have h4 : 1 * (zs.map fun w => w.fdiv (lg 0 zs : Nat)).sum ≤ (lg 0 zs : Nat) * (zs.map fun w => w.fdiv (lg 0 zs : Nat)).sum := Int.mul_le_mul_of_nonneg_right (by omega) h5
    omega
end

theorem ix_nt {ws : List Nat} {k w : Nat} (h : ws[k]? = some w) {s : Store} : oIx (nt ws) (.int (k : Nat)) s = .ok (.int (w : Nat)) s := by
  unfold nt
  rw [oIx_tup]
  have : atI (ws.map fun w => D.int (w : Nat)) (k : Nat) = some (.int (w : Nat)) := atI_nat (by rw [List.getElem?_map, h]; rfl)
  rw [this]
  rfl
theorem oSeq_ref {st : Store} {n : Nat} {xs : List D} (h : lstAt st n = some xs) : oSeq (.ref n) st = .ok xs st := by simp [oSeq, dSeq, h]
section
variable {st : Store} {p q : Int} {ws vs : List Nat} {xs ys : List Int}
theorem Ch.len {u : Rat} (h : Ch u ws xs) : xs.length = ws.length := by
  obtain ⟨c, _, e⟩ := h.prp
  have := congrArg List.length e
  simpa using this
theorem r_is_choice (h : Ch (Rat.divInt p q) ws xs) (hq : 1 ≤ q) (hpq : q ≤ p) (hp : p ≤ 1000) (hw : ∀ w ∈ ws, w ≤ 12) (h0 : ws ≠ []) (hl : ws.length ≤ 61) :
    ∃ st', f__law_is_choice [itup xs, nt ws, .int p, .int q] st = .ok (.bl true) st' ∧ Gr st st' := by
  have z1 : f__law_powers [.int p, .int 12] st = _ := r_lpowers (st := st) (b := p) (n := 12) (by omega) (by omega)
  have z2 : f__law_powers [.int q, .int 12] (st ++ [.lst ((pw p 12).map D.int)]) = _ := r_lpowers (st := st ++ [.lst ((pw p 12).map D.int)]) (b := q) (n := 12) (by omega) (by omega)
  obtain ⟨s1, hs1⟩ : ∃ s1, s1 = st ++ [Cell.lst ((pw p 12).map D.int)] := ⟨_, rfl⟩
  rw [← hs1] at z1 z2
  obtain ⟨s2, hs2⟩ : ∃ s2, s2 = s1 ++ [Cell.lst ((pw q 12).map D.int)] := ⟨_, rfl⟩
  rw [← hs2] at z2
  have g1 : lstAt s2 st.length = some ((pw p 12).map D.int) := by
    have : Gr s1 s2 := hs2 ▸ .app
    exact this.lst (by rw [hs1]; exact lstAt_new)
  have g2 : lstAt s2 s1.length = some ((pw q 12).map D.int) := by rw [hs2]; exact lstAt_new
  have lx := h.len
  obtain ⟨w0, hw0⟩ : ∃ w0, ws[0]? = some w0 := ⟨ws[0]'(List.length_pos_iff.mpr h0), by simp⟩
  obtain ⟨x0, hx0⟩ : ∃ x0, xs[0]? = some x0 := ⟨xs[0]'(by rw [lx]; exact List.length_pos_iff.mpr h0), by simp⟩
  have hw012 := hw w0 (List.mem_of_getElem? hw0)
  have up : ∀ w, w ≤ 12 → ∀ k : Nat, k = w → oIx (.ref st.length) (.int (k : Nat)) s2 = .ok (.int (p ^ w)) s2 := fun w hw k hk => by
    subst hk
    rw [oIx_ref g1]
    have : atI ((pw p 12).map D.int) (k : Nat) = some (.int (p ^ k)) := atI_nat (by rw [List.getElem?_map, pw_get hw]; rfl)
    rw [this]
    rfl
  have down : ∀ w, w ≤ 12 → ∀ k : Nat, k = w → oIx (.ref s1.length) (.int (k : Nat)) s2 = .ok (.int (q ^ w)) s2 := fun w hw k hk => by
    subst hk
    rw [oIx_ref g2]
    have : atI ((pw q 12).map D.int) (k : Nat) = some (.int (q ^ k)) := atI_nat (by rw [List.getElem?_map, pw_get hw]; rfl)
    rw [this]
    rfl
  have i0 : ∀ s, oIx (nt ws) (.int 0) s = .ok (.int (w0 : Nat)) s := fun s => ix_nt (k := 0) hw0
  have j0 : ∀ s, oIx (itup xs) (.int 0) s = .ok (.int x0) s := fun s => ix_itup (v := 0) hx0
  obtain ⟨A, hA⟩ : ∃ A, A = st.length := ⟨_, rfl⟩
  obtain ⟨B, hB⟩ : ∃ B, B = s1.length := ⟨_, rfl⟩
  rw [← hA] at up z1
  rw [← hB] at down z2
  have hr : ∀ s, rg1 (.int (ws.length : Nat)) s = .ok (.fix (rng 0 (ws.length : Nat))) s := fun s => rg1_int (by omega)
  obtain ⟨τ', s', e, a, b, rfl, rfl⟩ := for_inv (q := .fix (rng 0 (ws.length : Nat))) (set := gN 6) (u := sSeq (sSet 7 (eBin oMul (eBin oMul (eBin oIx (eVar 0) (eVar 6)) (eBin oIx (eVar 4) (eBin oIx (eVar 1) (eC (.int 0))))) (eBin oIx (eVar 5) (eBin oIx (eVar 1) (eVar 6)))))
    (sIf (tBl (eBin oNe (eVar 7) (eBin oMul (eBin oMul (eBin oIx (eVar 0) (eC (.int 0))) (eBin oIx (eVar 4) (eBin oIx (eVar 1) (eVar 6)))) (eBin oIx (eVar 5) (eBin oIx (eVar 1) (eC (.int 0))))))) (sRet (eC (.bl false))) sNil))
    (fun _ τ s => ∃ a b, τ = [some (itup xs), some (nt ws), some (.int p), some (.int q), some (.ref A), some (.ref B), a, b] ∧ s2 = s) (fun _ _ _ _ => rfl) (rng 0 (ws.length : Nat)) 0 [some (itup xs), some (nt ws), some (.int p), some (.int q), some (.ref A), some (.ref B), none, none] s2 ⟨none, none, rfl, rfl⟩ (by
      intro i d τ s hi hp'
      obtain ⟨a, b, rfl, rfl⟩ := hp'
      obtain ⟨hiw, rfl⟩ := rngi hi
      obtain ⟨w, hwi⟩ : ∃ w, ws[i]? = some w := ⟨ws[i], by simp⟩
      obtain ⟨x, hxi⟩ : ∃ x, xs[i]? = some x := ⟨xs[i]'(by rw [lx]; exact hiw), by simp⟩
      have hw12 := hw w (List.mem_of_getElem? hwi)
      have ii : ∀ s, oIx (nt ws) (.int (i : Nat)) s = .ok (.int (w : Nat)) s := fun s => ix_nt hwi
      have jj : ∀ s, oIx (itup xs) (.int (i : Nat)) s = .ok (.int x) s := fun s => ix_itup hxi
      have u1 := up w0 hw012 w0 rfl
      have u2 := up w hw12 w rfl
      have d1 := down w0 hw012 w0 rfl
      have d2 := down w hw12 w rfl
      have bx := h.wt.lt (List.mem_of_getElem? hxi)
      have bx0 := h.wt.lt (List.mem_of_getElem? hx0)
      have bp : ∀ w, w ≤ 12 → (p ^ w).natAbs < 2 ^ 121 := fun w hw => lt_up (pow_lt (j := 10) (by omega) w) (by omega)
      have bq : ∀ w, w ≤ 12 → (q ^ w).natAbs < 2 ^ 121 := fun w hw => lt_up (pow_lt (j := 10) (by omega) w) (by omega)
      have o1 := okMul_of bx (bp w0 hw012) (by decide)
      have o2 := okMul_of (mul_lt bx (bp w0 hw012)) (bq w hw12) (by decide)
      have o3 := okMul_of bx0 (bp w hw12) (by decide)
      have o4 := okMul_of (mul_lt bx0 (bp w hw12)) (bq w0 hw012) (by decide)
      have key : x * p ^ w0 * q ^ w = x0 * p ^ w * q ^ w0 := by
        obtain ⟨c, hc, e⟩ := h.prp
        have e1 : (x : Rat) = c * (Rat.divInt p q) ^ w := by
          have := congrArg (fun l => l[i]?) e
          simp only [List.getElem?_map, hxi, hwi, Option.map_some] at this
          exact Option.some.inj this
        have e2 : (x0 : Rat) = c * (Rat.divInt p q) ^ w0 := by
          have := congrArg (fun l => l[0]?) e
          simp only [List.getElem?_map, hx0, hw0, Option.map_some] at this
          exact Option.some.inj this
        have q0 : (q : Rat) ≠ 0 := fun e => by have := Rat.intCast_eq_zero_iff.mp e; omega
        apply Rat.intCast_inj.mp
        rw [Rat.intCast_mul, Rat.intCast_mul, Rat.intCast_mul, Rat.intCast_mul, Rat.intCast_pow, Rat.intCast_pow, Rat.intCast_pow, Rat.intCast_pow, e1, e2, Rat.divInt_eq_div]
        have f1 : ∀ w : Nat, ((p : Rat) / (q : Rat)) ^ w * (q : Rat) ^ w = (p : Rat) ^ w := fun w => by
          rw [← rmul_pow]
          congr 1
          exact Rat.div_mul_cancel q0
        have a1 := f1 w
        have a2 := f1 w0
        rw [← a1, ← a2]
        grind
      refine ⟨[some (itup xs), some (nt ws), some (.int p), some (.int q), some (.ref A), some (.ref B), some (.int (i : Nat)), b], rfl, [some (itup xs), some (nt ws), some (.int p), some (.int q), some (.ref A), some (.ref B), some (.int (i : Nat)), some (.int (x0 * p ^ w * q ^ w0))], s2, .inl ?_, _, _, rfl, rfl⟩
      simp [ii, jj, i0, j0, u1, u2, d1, d2, o1, o2, o3, o4, key])
  have lo := r_is_lowest (n := (ws.length : Nat)) (st := st) h.low (by rw [lx]) (by omega) (fun x hx => lt_up (h.wt.lt hx) (by decide))
  have f : ∀ s, fLen [nt ws] s = .ok (.int (ws.length : Nat)) s := fun s => by unfold nt; rw [fLen_tup, List.length_map]
  refine ⟨s2, ?_, ?_⟩
  · unfold f__law_is_choice
    rw [runB_e]
    unfold m__law_is_choice
    simp [List.replicate, f, lo, z1, z2, sFor_e, hr, e]
  · rw [hs2, hs1]
    exact Gr.app.trans .app
theorem prp_ch2 {ps : List Rat} (h : Prp xs ps) (hs : ps.sum ≠ 0) : xs.map (ch xs) = ps.map (· / ps.sum) := by
  obtain ⟨c, hc, e⟩ := h
  have c0 := Rat.ne_of_gt hc
  have e1 : (xs.sum : Rat) = c * ps.sum := by rw [← sum_cast, e, sum_mul]
  have e2 : xs.map (ch xs) = (xs.map fun x : Int => (x : Rat)).map (· / (c * ps.sum)) := by
    rw [List.map_map]
    refine List.map_congr_left fun x _ => ?_
    show Rat.divInt x xs.sum = (x : Rat) / (c * ps.sum)
    rw [Rat.divInt_eq_div, e1]
  rw [e2, e, List.map_map]
  refine List.map_congr_left fun p _ => ?_
  show c * p / (c * ps.sum) = p / ps.sum
  grind
theorem one_le_pow {u : Rat} (hu : 1 ≤ u) : ∀ n : Nat, 1 ≤ u ^ n
  | 0 => by rw [Rat.pow_zero]; exact Rat.le_refl
  | n + 1 => by
    rw [Rat.pow_succ]
    have h1 := one_le_pow hu n
    have h2 : (0 : Rat) ≤ u := Rat.le_trans (by decide) hu
    have h3 := Rat.mul_le_mul_of_nonneg_right h1 h2
    rw [Rat.one_mul] at h3
    exact Rat.le_trans hu h3
theorem pow_mono {u : Rat} (hu : 1 ≤ u) {m n : Nat} (h : m ≤ n) : u ^ m ≤ u ^ n := by
  obtain ⟨k, rfl⟩ := Nat.le.dest h
  rw [rpow_add]
  have h1 := one_le_pow hu k
  have h2 : (0 : Rat) ≤ u ^ m := Rat.le_trans (by decide) (one_le_pow hu m)
  have h3 := Rat.mul_le_mul_of_nonneg_left h1 h2
  rwa [Rat.mul_one] at h3
theorem pos_one {u : Rat} (hu : 1 ≤ u) : 0 < u := by
  have h : (0 : Rat) < 1 := by decide
  grind
theorem usum_pos {u : Rat} (hu : 1 ≤ u) (h0 : ws ≠ []) : 0 < (ws.map fun w => u ^ w).sum := by
  have nn : ∀ l : List Nat, 0 ≤ (l.map fun w => u ^ w).sum := fun l => by
    induction l with
    | nil => simp
    | cons a l ih =>
      rw [List.map_cons, List.sum_cons]
      exact Rat.add_nonneg (Rat.le_trans (by decide) (one_le_pow hu a)) ih
  cases ws with
  | nil => exact absurd rfl h0
  | cons a l =>
    rw [List.map_cons, List.sum_cons]
    have h1 := one_le_pow hu a
    have h2 := nn l
    have h3 : (0 : Rat) < 1 := by decide
    grind
theorem usum_le {u : Rat} (hu : 1 ≤ u) {b : Nat} : ∀ {ws vs : List Nat}, ws.length = vs.length → (∀ p ∈ List.zip ws vs, p.2 ≤ p.1 + b) → (vs.map fun w => u ^ w).sum ≤ u ^ b * (ws.map fun w => u ^ w).sum
  | [], [], _, _ => by simp
  | [], _ :: _, h, _ => by simp at h
  | _ :: _, [], h, _ => by simp at h
  | w :: ws, v :: vs, hl, h => by
    have ih := usum_le hu (b := b) (ws := ws) (vs := vs) (by simpa using hl) fun p hp => h p (by rw [List.zip_cons_cons]; exact List.mem_cons_of_mem _ hp)
    have h1 : v ≤ w + b := h (w, v) (by rw [List.zip_cons_cons]; exact List.mem_cons_self ..)
    have h2 := pow_mono hu h1
    rw [rpow_add] at h2
    rw [List.map_cons, List.map_cons, List.sum_cons, List.sum_cons]
    grind
/-- the loss of choices is small -/
theorem loss_le {u : Rat} (hu : 1 ≤ u) (hx : Ch u ws xs) (hy : Ch u vs ys) (h0 : ws ≠ []) (hl : ws.length = vs.length) {a b : Nat} (hab : ∀ p ∈ List.zip ws vs, p.1 ≤ p.2 + a ∧ p.2 ≤ p.1 + b) :
    ∃ L, lss (prw xs ys) = some L ∧ L ≤ u ^ (a + b) ∧ 1 ≤ L := by
  have h0' : vs ≠ [] := List.length_pos_iff.mp (by have := List.length_pos_iff.mpr h0; omega)
  have sA := usum_pos (ws := ws) hu h0
  have sB := usum_pos (ws := vs) hu h0'
  have le := usum_le hu hl fun p hp => (hab p hp).2
  obtain ⟨A, hA⟩ : ∃ A, A = (ws.map fun w => u ^ w).sum := ⟨_, rfl⟩
  obtain ⟨B, hB⟩ : ∃ B, B = (vs.map fun w => u ^ w).sum := ⟨_, rfl⟩
  have e1 := prp_ch2 hx.prp (Rat.ne_of_gt sA)
  have e2 := prp_ch2 hy.prp (Rat.ne_of_gt sB)
  rw [← hA] at e1 sA le
  rw [← hB] at e2 sB le
  have up : ∀ n : Nat, 0 < u ^ n := fun n => Rat.pow_pos (pos_one hu)
  have mem : ∀ p ∈ prw xs ys, ∃ w v : Nat, p = (u ^ w / A, u ^ v / B) ∧ w ≤ v + a := fun p hp => by
    unfold prw at hp
    rw [e1, e2, List.map_map, List.map_map, List.zip_map] at hp
    obtain ⟨r, hr, rfl⟩ := List.mem_map.mp hp
    exact ⟨r.1, r.2, rfl, (hab r hr).1⟩
  have isl := lss_isL (prw xs ys)
  cases hL : lss (prw xs ys) with
  | none =>
    rw [hL] at isl
    obtain ⟨p, hp, _, h2⟩ := isl
    obtain ⟨w, v, rfl, _⟩ := mem p hp
    have : 0 < u ^ v / B := by rw [Rat.div_def]; exact Rat.mul_pos (up v) (Rat.inv_pos.mpr sB)
    exact absurd h2 (Rat.ne_of_gt this)
  | some L =>
    rw [hL] at isl
    obtain ⟨h1, _, h3⟩ := isl
    refine ⟨L, rfl, ?_, h1⟩
    rcases h3 with rfl | ⟨p, hp, _, _, rfl⟩
    · exact one_le_pow hu _
    · obtain ⟨w, v, rfl, hwv⟩ := mem p hp
      have h4 := pow_mono hu hwv
      rw [rpow_add] at h4
      have A0 := Rat.ne_of_gt sA
      have B0 := Rat.ne_of_gt sB
      have V0 := Rat.ne_of_gt (up v)
      show u ^ w / A / (u ^ v / B) ≤ u ^ (a + b)
      have e : u ^ w / A / (u ^ v / B) = (u ^ w * B) / (u ^ v * A) := by grind
      rw [e]
      refine Rat.not_lt.mp fun hlt => ?_
      rw [Rat.lt_div_iff (Rat.mul_pos (up v) sA), rpow_add] at hlt
      have h5 : u ^ w * B ≤ (u ^ v * u ^ a) * (u ^ b * A) := by
        have h6 := Rat.mul_le_mul_of_nonneg_right h4 (Rat.le_of_lt sB)
        have h7 := Rat.mul_le_mul_of_nonneg_left le (Rat.le_of_lt (Rat.mul_pos (up v) (up a)))
        exact Rat.le_trans h6 h7
      have e2 : u ^ a * u ^ b * (u ^ v * A) = (u ^ v * u ^ a) * (u ^ b * A) := by grind
      rw [e2] at hlt
      exact absurd h5 (Rat.not_le.mpr hlt)
end

section
variable {st : Store} {p q : Int} {ws vs : List Nat} {xs ys : List Int} {ns : List Int}
theorem divInt_pos {a b : Int} (hb : 0 < b) : (0 < Rat.divInt a b) = (0 < a) := by
  rw [Rat.divInt_eq_div]
  refine propext ⟨fun h => ?_, fun h => ?_⟩
  · have h2 := (Rat.lt_div_iff (Rat.intCast_pos.mpr hb)).mp h
    rw [Rat.zero_mul] at h2
    exact Rat.intCast_pos.mp h2
  · rw [Rat.div_def]
    exact Rat.mul_pos (Rat.intCast_pos.mpr h) (Rat.inv_pos.mpr (Rat.intCast_pos.mpr hb))
theorem divInt_zero {a b : Int} (hb : 0 < b) : (Rat.divInt a b = 0) = (a = 0) := by
  rw [Rat.divInt_eq_div]
  have hb0 : (b : Rat) ≠ 0 := fun e => by have := Rat.intCast_eq_zero_iff.mp e; omega
  refine propext ⟨fun h => ?_, fun h => by rw [h]; grind⟩
  apply Rat.intCast_eq_zero_iff.mp
  grind
theorem divInt_lt {a b c d : Int} (hb : 0 < b) (hd : 0 < d) : (Rat.divInt a b < Rat.divInt c d) = (a * d < c * b) := by
  rw [Rat.divInt_eq_div, Rat.divInt_eq_div]
  have B := Rat.intCast_pos.mpr hb
  have Dp := Rat.intCast_pos.mpr hd
  rw [Rat.div_lt_iff B]
  have e : (c : Rat) / (d : Rat) * (b : Rat) = ((c * b : Int) : Rat) / (d : Rat) := by
    rw [Rat.intCast_mul, Rat.div_def, Rat.div_def]
    grind
  rw [e, Rat.lt_div_iff Dp, ← Rat.intCast_mul, Rat.intCast_lt_intCast]
theorem ch_div {mine theirs S T : Int} (hS : 0 < S) (hT : 0 < T) (h : 0 < theirs) : Rat.divInt mine S / Rat.divInt theirs T = Rat.divInt (mine * T) (theirs * S) := by
  rw [Rat.divInt_eq_div, Rat.divInt_eq_div, Rat.divInt_eq_div, Rat.intCast_mul, Rat.intCast_mul]
  have a : (S : Rat) ≠ 0 := fun e => by have := Rat.intCast_eq_zero_iff.mp e; omega
  have b : (T : Rat) ≠ 0 := fun e => by have := Rat.intCast_eq_zero_iff.mp e; omega
  have c : (theirs : Rat) ≠ 0 := fun e => by have := Rat.intCast_eq_zero_iff.mp e; omega
  grind
theorem r_own_loss (hx : Wt 130 xs) (hy : Wt 130 ys) : f__law_own_loss [itup xs, itup ys] st = .ok (od (lss (prw xs ys))) st := by
  obtain ⟨S, hS⟩ : ∃ S, S = xs.sum := ⟨_, rfl⟩
  obtain ⟨T, hT⟩ : ∃ T, T = ys.sum := ⟨_, rfl⟩
  have S0 : 0 < S := hS ▸ hx.pos
  have T0 : 0 < T := hT ▸ hy.pos
  have Sb : S.natAbs < 2 ^ 130 := hS ▸ hx.bd
  have Tb : T.natAbs < 2 ^ 130 := hT ▸ hy.bd
  have sx : gSum (xs.map D.int) st = .ok (.int S) st := hS ▸ gSum_ints
  have sy : gSum (ys.map D.int) st = .ok (.int T) st := hT ▸ gSum_ints
  have ox : oSeq (itup xs) st = .ok (xs.map D.int) st := rfl
  have oy : oSeq (itup ys) st = .ok (ys.map D.int) st := rfl
  obtain ⟨U, hU⟩ : ∃ U : SM, U = sSeq (sIf (HM.tAnd (tBl (eBin oGt (eVar 5) (eC (.int 0)))) (tBl (eBin oEq (eVar 6) (eC (.int 0))))) (sRet (eC .non)) sNil)
    (sIf (HM.tAnd (tBl (eBin oGt (eVar 5) (eC (.int 0)))) (tBl (eBin oLt (eBin oMul (eBin oMul (eBin oIx (eVar 2) (eC (.int 0))) (eVar 6)) (eVar 3)) (eBin oMul (eBin oMul (eVar 5) (eVar 4)) (eBin oIx (eVar 2) (eC (.int 1))))))) (sSet 2 (eTup (aCons (eBin oMul (eVar 5) (eVar 4)) (aCons (eBin oMul (eVar 6) (eVar 3)) aNil)))) sNil) := ⟨_, rfl⟩
  obtain ⟨Z, hZ⟩ : ∃ Z, Z = zipD (xs.map D.int) (ys.map D.int) := ⟨_, rfl⟩
  have main : ∀ (l : List (Int × Int)) (a b : Int) (c d : Option D), (∀ r ∈ l, 0 ≤ r.1 ∧ 0 ≤ r.2 ∧ r.1.natAbs < 2 ^ 130 ∧ r.2.natAbs < 2 ^ 130) → 0 < b → a.natAbs < 2 ^ 260 → b.natAbs < 2 ^ 260 →
      (∃ a' b' c' d', 0 < b' ∧ b'.natAbs < 2 ^ 260 ∧ forL (.fix Z) (gT 2 (gCs 5 (gCs 6 gNil0))) U (l.map fun r => D.tup [.int r.1, .int r.2]) [some (itup xs), some (itup ys), some (.tup [.int a, .int b]), some (.int S), some (.int T), c, d] st = .nx [some (itup xs), some (itup ys), some (.tup [.int a', .int b']), some (.int S), some (.int T), c', d'] st ∧ (l.map fun r => (Rat.divInt r.1 S, Rat.divInt r.2 T)).foldl stp (some (Rat.divInt a b)) = some (Rat.divInt a' b')) ∨
      (forL (.fix Z) (gT 2 (gCs 5 (gCs 6 gNil0))) U (l.map fun r => D.tup [.int r.1, .int r.2]) [some (itup xs), some (itup ys), some (.tup [.int a, .int b]), some (.int S), some (.int T), c, d] st = .rt .non st ∧ (l.map fun r => (Rat.divInt r.1 S, Rat.divInt r.2 T)).foldl stp (some (Rat.divInt a b)) = none) := by
    intro l
    induction l with
    | nil =>
      intro a b c d _ hb _ bb
      refine .inl ⟨a, b, c, d, hb, bb, ?_, rfl⟩
      rw [List.map_nil, forL_nil (by rfl)]
    | cons r l ih =>
      intro a b c d hl hb ba bb
      obtain ⟨r1, r2, b1, b2⟩ := hl r (List.mem_cons_self ..)
      have hl' := fun r hr => hl r (List.mem_cons_of_mem _ hr)
      have hs : gT 2 (gCs 5 (gCs 6 gNil0)) (.tup [.int r.1, .int r.2]) [some (itup xs), some (itup ys), some (.tup [.int a, .int b]), some (.int S), some (.int T), c, d] = some [some (itup xs), some (itup ys), some (.tup [.int a, .int b]), some (.int S), some (.int T), some (.int r.1), some (.int r.2)] := rfl
      have none_fold : ∀ l : List (Rat × Rat), l.foldl stp none = none := fun l => by
        induction l with
        | nil => rfl
        | cons p l ih =>
          rw [List.foldl_cons]
          have : stp none p = none := by unfold stp; split <;> rfl
          rw [this, ih]
      rw [List.map_cons, List.map_cons, List.foldl_cons]
      by_cases h1 : 0 < r.1
      · by_cases h2 : r.2 = 0
        · refine .inr ⟨?_, ?_⟩
          · rw [forL_rt (by rfl) hs (x := .non) (s2 := st)]
            rw [hU]
            simp [h1, h2]
          · have : stp (some (Rat.divInt a b)) (Rat.divInt r.1 S, Rat.divInt r.2 T) = none := by
              unfold stp fac
              rw [if_pos (by rw [divInt_pos S0]; exact h1), if_pos (by rw [divInt_zero T0]; exact h2)]
              rfl
            rw [this, none_fold]
        · have h2' : 0 < r.2 := by omega
          have o1 := okMul_of ba b2 (by decide)
          have o2 := okMul_of (mul_lt ba b2) Sb (by decide)
          have o3 := okMul_of b1 Tb (by decide)
          have o4 := okMul_of (mul_lt b1 Tb) bb (by decide)
          have o5 := okMul_of b2 Sb (by decide)
          have hst : stp (some (Rat.divInt a b)) (Rat.divInt r.1 S, Rat.divInt r.2 T) = some (if a * (r.2 * S) < r.1 * T * b then Rat.divInt (r.1 * T) (r.2 * S) else Rat.divInt a b) := by
            have e1 : (Rat.divInt a b < Rat.divInt r.1 S / Rat.divInt r.2 T) = (a * (r.2 * S) < r.1 * T * b) := by
              rw [ch_div S0 T0 h2', divInt_lt hb (Int.mul_pos h2' S0)]
            unfold stp fac
            rw [if_pos (by rw [divInt_pos S0]; exact h1), if_neg (by rw [divInt_zero T0]; exact h2)]
            show some (if _ < _ then _ else _) = _
            rw [← ch_div S0 T0 h2']
            simp only [e1]
          rw [hst]
          by_cases h3 : a * (r.2 * S) < r.1 * T * b
          · have h3' : a * r.2 * S < r.1 * T * b := by rw [Int.mul_assoc]; exact h3
            rw [if_pos h3]
            have hu : U [some (itup xs), some (itup ys), some (.tup [.int a, .int b]), some (.int S), some (.int T), some (.int r.1), some (.int r.2)] st = .nx [some (itup xs), some (itup ys), some (.tup [.int (r.1 * T), .int (r.2 * S)]), some (.int S), some (.int T), some (.int r.1), some (.int r.2)] st := by
              rw [hU]
              simp [h1, h2, o1, o2, o3, o4, o5, h3']
            rw [forL_nx (by rfl) hs hu]
            exact ih _ _ _ _ hl' (Int.mul_pos h2' S0) (mul_lt b1 Tb) (mul_lt b2 Sb)
          · have h3' : ¬ a * r.2 * S < r.1 * T * b := by rw [Int.mul_assoc]; exact h3
            rw [if_neg h3]
            have hu : U [some (itup xs), some (itup ys), some (.tup [.int a, .int b]), some (.int S), some (.int T), some (.int r.1), some (.int r.2)] st = .nx [some (itup xs), some (itup ys), some (.tup [.int a, .int b]), some (.int S), some (.int T), some (.int r.1), some (.int r.2)] st := by
              rw [hU]
              simp [h1, h2, o1, o2, o3, o4, o5, h3']
            rw [forL_nx (by rfl) hs hu]
            exact ih _ _ _ _ hl' hb ba bb
      · have hst : stp (some (Rat.divInt a b)) (Rat.divInt r.1 S, Rat.divInt r.2 T) = some (Rat.divInt a b) := by
          unfold stp
          rw [if_neg (by rw [divInt_pos S0]; exact h1)]
        rw [hst]
        have hu : U [some (itup xs), some (itup ys), some (.tup [.int a, .int b]), some (.int S), some (.int T), some (.int r.1), some (.int r.2)] st = .nx [some (itup xs), some (itup ys), some (.tup [.int a, .int b]), some (.int S), some (.int T), some (.int r.1), some (.int r.2)] st := by
          rw [hU]
          simp [h1]
        rw [forL_nx (by rfl) hs hu]
        exact ih _ _ _ _ hl' hb ba bb
  have eZ : Z = (List.zip xs ys).map fun r => D.tup [.int r.1, .int r.2] := by rw [hZ, zipD_map]
  have zz : zip2 (itup xs) (itup ys) st = .ok (.fix Z) st := by rw [hZ]; rfl
  have ep : prw xs ys = (List.zip xs ys).map fun r => (Rat.divInt r.1 S, Rat.divInt r.2 T) := by
    unfold prw
    rw [List.zip_map, hS, hT]
    rfl
  have e11 : Rat.divInt 1 1 = 1 := by decide +kernel
  have m := main (List.zip xs ys) 1 1 none none (fun r hr => by
    have := List.of_mem_zip hr
    exact ⟨hx.nn _ this.1, hy.nn _ this.2, hx.lt this.1, hy.lt this.2⟩) (by decide) (by decide +kernel) (by decide +kernel)
  rw [← eZ, ← ep, e11] at m
  unfold f__law_own_loss lss
  rw [runB_e]
  unfold m__law_own_loss
  rw [← hU]
  rcases m with ⟨a', b', c', d', b0, bb, e, hf⟩ | ⟨e, hf⟩
  · have z := r_fQ (st := st) (n := a') (Int.ne_of_gt b0) bb (by decide)
    rw [hf]
    simp [List.replicate, ox, oy, sx, sy, sFor_e, zz, e, z, od]
  · rw [hf]
    simp [List.replicate, ox, oy, sx, sy, sFor_e, zz, e, od]
theorem r_at_most {L : Rat} {s : Nat} (hL : QB 300 L) (hq : 1 ≤ q) (hpq : q ≤ p) (hp : p ≤ 1000) (hs : s ≤ 30) (h : L ≤ (Rat.divInt p q) ^ s) :
    ∃ st', f__law_is_at_most [qd L, .int p, .int q, .int (s : Nat)] st = .ok (.bl true) st' ∧ Gr st st' := by
  have z1 := r_lpowers (st := st) (b := q) (n := s) (by omega) (by omega)
  obtain ⟨s1, hs1⟩ : ∃ s1, s1 = st ++ [Cell.lst ((pw q s).map D.int)] := ⟨_, rfl⟩
  rw [← hs1] at z1
  have z2 := r_lpowers (st := s1) (b := p) (n := s) (by omega) (by omega)
  obtain ⟨s2, hs2⟩ : ∃ s2, s2 = s1 ++ [Cell.lst ((pw p s).map D.int)] := ⟨_, rfl⟩
  rw [← hs2] at z2
  have g1 : lstAt s1 st.length = some ((pw q s).map D.int) := hs1 ▸ lstAt_new
  have g2 : lstAt s2 s1.length = some ((pw p s).map D.int) := hs2 ▸ lstAt_new
  have a1 : atI ((pw q s).map D.int) (s : Nat) = some (.int (q ^ s)) := atI_nat (by rw [List.getElem?_map, pw_get (Nat.le_refl _)]; rfl)
  have a2 : atI ((pw p s).map D.int) (s : Nat) = some (.int (p ^ s)) := atI_nat (by rw [List.getElem?_map, pw_get (Nat.le_refl _)]; rfl)
  have o1 := okMul_of hL.an (pow_lt (b := q) (j := 10) (by omega) s) (by omega)
  have o2 := okMul_of hL.bi (pow_lt (b := p) (j := 10) (by omega) s) (by omega)
  have key : L.num * q ^ s ≤ (L.den : Nat) * p ^ s := by
    have q0 : (q : Rat) ≠ 0 := fun e => by have := Rat.intCast_eq_zero_iff.mp e; omega
    have qp : (0 : Rat) < (q : Rat) ^ s := Rat.pow_pos (Rat.intCast_pos.mpr (by omega))
    have dp : (0 : Rat) < ((L.den : Int) : Rat) := Rat.intCast_pos.mpr (by have := L.den_pos; omega)
    have f1 : ((p : Rat) / (q : Rat)) ^ s * (q : Rat) ^ s = (p : Rat) ^ s := by
      rw [← rmul_pow]
      congr 1
      exact Rat.div_mul_cancel q0
    rw [Rat.divInt_eq_div] at h
    have h1 := Rat.mul_le_mul_of_nonneg_right h (Rat.le_of_lt qp)
    rw [f1] at h1
    have h2 := Rat.mul_le_mul_of_nonneg_right h1 (Rat.le_of_lt dp)
    have h3 : L * (q : Rat) ^ s * ((L.den : Int) : Rat) = (L.num : Rat) * (q : Rat) ^ s := by
      rw [← rat_num L]
      grind
    rw [h3] at h2
    rw [← Rat.intCast_pow, ← Rat.intCast_pow, ← Rat.intCast_mul, ← Rat.intCast_mul] at h2
    have := Rat.intCast_le_intCast.mp h2
    rw [Int.mul_comm (p ^ s)] at this
    exact this
  refine ⟨s2, ?_, hs2 ▸ (hs1 ▸ Gr.app.trans .app)⟩
  have i0 : ∀ s, oIx (qd L) (.int 0) s = .ok (.int L.num) s := fun s => by rw [qd_tup]; simp
  have i1 : ∀ s, oIx (qd L) (.int 1) s = .ok (.int (L.den : Nat)) s := fun s => by rw [qd_tup]; simp
  unfold f__law_is_at_most
  rw [runB_e]
  unfold m__law_is_at_most
  simp [i0, i1, z1, z2, oIx_ref g1, oIx_ref g2, a1, a2, o1, o2, key]
theorem r_base (H : DS ns st) : ∃ p q st', f__law_base [.ref 1] st = .ok (.tup [.int p, .int q]) st' ∧ 1 ≤ q ∧ q ≤ p ∧ p ≤ 1000 ∧ DS ns st' ∧ Fr st st' := by
  obtain ⟨v1, s1, e1, a1, b1, D1, F1⟩ := r_many (τ := [some (.ref 1), none]) (k := 0) H (a := 1000) (b := 9) (n := 4) (by decide) (by decide) (by decide) rfl
  obtain ⟨v2, s2, e2, a2, b2, D2, F2⟩ := r_draw (many := 1 + v1) D1 (by omega) (Nat.lt_of_le_of_lt (log2_le (k := 10) (by omega)) (by decide))
  refine ⟨1 + v1, 1 + v2, s2, ?_, by omega, by omega, by omega, D2, F1.trans F2⟩
  unfold f__law_base
  rw [runB_e]
  unfold m__law_base
  simp [-eCall_e, -eIf_e, List.replicate, e1]
  simp [e2]
end

section
variable {st : Store} {p q : Int} {ws vs : List Nat} {xs ys : List Int} {ns : List Int}
theorem r_bent (H : DS ns st) (hw : ∀ w ∈ ws, w ≤ 12) (hl : ws.length ≤ 61) : ∃ vs st', f__law_bent_worths [.ref 1, nt ws] st = .ok (nt vs) st' ∧ vs.length = ws.length ∧ (∀ v ∈ vs, v ≤ 12) ∧ DS ns st' ∧ Fr st st' := by
  obtain ⟨sty, s1, e1, a1, b1, D1, F1⟩ := r_draw (many := 3) H (by decide) (by decide)
  obtain ⟨mo, s2, e2, a2, b2, D2, F2⟩ := r_draw (many := 3) D1 (by decide) (by decide)
  obtain ⟨W, hW⟩ : ∃ W : Int, W = 1 + mo := ⟨_, rfl⟩
  obtain ⟨M, hM⟩ : ∃ M, M = s2.length := ⟨_, rfl⟩
  have l2 := D2.len
  obtain ⟨τ', s3, e3, vs, ⟨x5, x6, rfl⟩, g3, hv, lv, D3, F3⟩ := for_inv (q := .fix (ws.map fun w => D.int (w : Nat))) (set := gN 5) (u := sSeq (sSet 6 (eCall 2 f__law_draw (aCons (eVar 0) (aCons (eBin oAdd (eVar 3) (eC (.int 1))) aNil))))
    (sSeq (sIf (HM.tOr (tBl (eBin oEq (eVar 2) (eC (.int 2)))) (HM.tAnd (tBl (eBin oEq (eVar 2) (eC (.int 0)))) (tBl (eBin oEq (eCall 2 f__law_draw (aCons (eVar 0) (aCons (eC (.int 2)) aNil))) (eC (.int 1)))))) (sSet 6 (eUn oNeg (eVar 6))) sNil)
    (sExpr (eM "list" mAppend (eVar 4) (aCons (eCB fMax2 (aCons (eC (.int 0)) (aCons (eCB fMin2 (aCons (eC (.int 12)) (aCons (eBin oAdd (eVar 5) (eVar 6)) aNil))) aNil))) aNil)))))
    (fun k τ s => ∃ vs : List Nat, (∃ x5 x6, τ = [some (.ref 1), some (nt ws), some (.int sty), some (.int W), some (.ref M), x5, x6]) ∧ lstAt s M = some (vs.map fun w => D.int (w : Nat)) ∧ (∀ v ∈ vs, v ≤ 12) ∧ vs.length = k ∧ DS ns s ∧ Fr s2 s) (fun _ _ _ _ => rfl) (ws.map fun w => D.int (w : Nat)) 0 [some (.ref 1), some (nt ws), some (.int sty), some (.int W), some (.ref M), none, none] (s2 ++ [.lst []]) ⟨[], ⟨none, none, rfl⟩, by rw [hM]; exact lstAt_new, by simp, rfl, D2.app, .app⟩ (by
      intro i d τ s hi hp'
      obtain ⟨vs, ⟨x5, x6, rfl⟩, g, hv, lv, Dx, F⟩ := hp'
      obtain ⟨w, hw', rfl⟩ := map_mem hi
      have hi2 : i < ws.length := by simpa using (List.getElem?_eq_some_iff.mp hi).1
      obtain ⟨st0, sa, ea, aa, ba, Da, Fa⟩ := r_draw (many := W + 1) Dx (by omega) (Nat.lt_of_le_of_lt (log2_le (k := 10) (by omega)) (by decide))
      -- the sign
      obtain ⟨stp', sb, eb, Db, Fb⟩ : ∃ (z : Int) (sb : Store), sIf (HM.tOr (tBl (eBin oEq (eVar 2) (eC (.int 2)))) (HM.tAnd (tBl (eBin oEq (eVar 2) (eC (.int 0)))) (tBl (eBin oEq (eCall 2 f__law_draw (aCons (eVar 0) (aCons (eC (.int 2)) aNil))) (eC (.int 1)))))) (sSet 6 (eUn oNeg (eVar 6))) sNil [some (.ref 1), some (nt ws), some (.int sty), some (.int W), some (.ref M), some (.int (w : Nat)), some (.int st0)] sa = .nx [some (.ref 1), some (nt ws), some (.int sty), some (.int W), some (.ref M), some (.int (w : Nat)), some (.int z)] sb ∧ DS ns sb ∧ Fr sa sb := by
        by_cases c2 : sty = 2
        · exact ⟨-st0, sa, by simp [c2], Da, .refl⟩
        · by_cases c0 : sty = 0
          · obtain ⟨v, sb, eb, _, _, Db, Fb⟩ := r_draw (many := 2) Da (by decide) (by decide)
            by_cases c1 : v = 1
            · exact ⟨-st0, sb, by simp [c2, c0, eb, c1], Db, Fb⟩
            · exact ⟨st0, sb, by simp [c2, c0, eb, c1], Db, Fb⟩
          · exact ⟨st0, sa, by simp [c2, c0], Da, .refl⟩
      have gb : lstAt sb M = some (vs.map fun w => D.int (w : Nat)) := Fb.lst (Fa.lst g (by omega)) (by omega)
      obtain ⟨y, hy, hy12⟩ : ∃ y : Nat, (y : Int) = (if (if (w : Int) + stp' < 12 then (w : Int) + stp' else 12) > 0 then (if (w : Int) + stp' < 12 then (w : Int) + stp' else 12) else 0) ∧ y ≤ 12 := by
        refine ⟨(if (if (w : Int) + stp' < 12 then (w : Int) + stp' else 12) > 0 then (if (w : Int) + stp' < 12 then (w : Int) + stp' else 12) else 0).toNat, ?_, ?_⟩ <;> (split <;> split <;> omega)
      have ap := mAppend_ref (x := .int (y : Nat)) gb (by simp; omega)
      obtain ⟨X, hX⟩ : ∃ X, X = vs.map fun w => D.int (w : Nat) := ⟨_, rfl⟩
      have e5 : fMin2 [.int 12, .int ((w : Int) + stp')] sb = .ok (.int (if (w : Int) + stp' < 12 then (w : Int) + stp' else 12)) sb := fMin2_e
      obtain ⟨Y, hY⟩ : ∃ Y : Int, Y = if (w : Int) + stp' < 12 then (w : Int) + stp' else 12 := ⟨_, rfl⟩
      rw [← hY] at e5 hy
      have e6 : fMax2 [.int 0, .int Y] sb = .ok (.int (y : Nat)) sb := by rw [fMax2_e, hy]
      refine ⟨[some (.ref 1), some (nt ws), some (.int sty), some (.int W), some (.ref M), some (.int (w : Nat)), x6], rfl, [some (.ref 1), some (nt ws), some (.int sty), some (.int W), some (.ref M), some (.int (w : Nat)), some (.int stp')], sb.set M (.lst ((vs.map fun w => D.int (w : Nat)) ++ [.int (y : Nat)])), .inl ?_, vs ++ [y], ⟨_, _, rfl⟩, by rw [lstAt_set gb]; simp, ?_, by simp; omega, Db.put2 (by omega) (by omega), ((F.trans Fa).trans Fb).put2 (by omega)⟩
      · rw [← hX] at ap gb ⊢
        simp [-sIf_e, -fMin2_e, -fMax2_e, ea, eb, okT_ref gb, e5, e6, ap]
      · intro v hv'
        rcases List.mem_append.mp hv' with h | h
        · exact hv v h
        · rw [List.mem_singleton.mp h]; exact hy12)
  refine ⟨vs, s3, ?_, by simpa using lv, hv, D3, (F1.trans F2).trans F3⟩
  have dq : ∀ s, dSq s (nt ws) = some (.fix (ws.map fun w => D.int (w : Nat))) := fun s => rfl
  obtain ⟨X, hX⟩ : ∃ X, X = ws.map fun w => D.int (w : Nat) := ⟨_, rfl⟩
  rw [← hX] at e3 dq
  unfold f__law_bent_worths
  rw [runB_e]
  unfold m__law_bent_worths
  simp [List.replicate, e1, e2, ← hW, ← hM, sFor_e, dq, e3, fTuple_ref g3]
  rfl
end

theorem mem_zip_idx {α β : Type} : ∀ {xs : List α} {ys : List β} {p : α × β}, p ∈ List.zip xs ys → ∃ i : Nat, xs[i]? = some p.1 ∧ ys[i]? = some p.2
  | [], _, _, h => by simp at h
  | _ :: _, [], _, h => by simp at h
  | x :: xs, y :: ys, p, h => by
    rw [List.zip_cons_cons] at h
    rcases List.mem_cons.mp h with rfl | h
    · exact ⟨0, rfl, rfl⟩
    · obtain ⟨i, h1, h2⟩ := mem_zip_idx h
      exact ⟨i + 1, by simpa using h1, by simpa using h2⟩
theorem zip_idx {α β : Type} : ∀ {xs : List α} {ys : List β} {i : Nat} {a : α} {b : β}, xs[i]? = some a → ys[i]? = some b → (a, b) ∈ List.zip xs ys
  | [], _, _, _, _, h, _ => by simp at h
  | _ :: _, [], _, _, _, _, h => by simp at h
  | x :: xs, y :: ys, 0, a, b, h1, h2 => by
    simp at h1 h2
    subst h1 h2
    rw [List.zip_cons_cons]
    exact List.mem_cons_self ..
  | x :: xs, y :: ys, i + 1, a, b, h1, h2 => by
    rw [List.zip_cons_cons]
    exact List.mem_cons_of_mem _ (zip_idx (by simpa using h1) (by simpa using h2))
section
variable {st : Store} {p q : Int} {ws vs : List Nat} {xs ys : List Int} {ns : List Int}
/-- worths moved by so much: the same choice -/
theorem ch_moved {u : Rat} (hu : 1 ≤ u) {mv : Int} (hm : ∀ w ∈ ws, 0 ≤ (w : Int) + mv) (h : Ch u (ws.map fun w : Nat => ((w : Int) + mv).toNat) xs) : Ch u ws xs := by
  refine ⟨h.low, ?_, h.wt⟩
  obtain ⟨c, hc, e⟩ := h.prp
  have up : ∀ n : Nat, 0 < u ^ n := fun n => Rat.pow_pos (pos_one hu)
  rw [List.map_map, List.map_map] at e
  by_cases hz : 0 ≤ mv
  · refine ⟨c * u ^ mv.toNat, Rat.mul_pos hc (up _), ?_⟩
    rw [e, List.map_map]
    refine List.map_congr_left fun w _ => ?_
    show c * u ^ ((w : Int) + mv).toNat = c * u ^ mv.toNat * u ^ w
    rw [show ((w : Int) + mv).toNat = mv.toNat + w by omega, rpow_add, Rat.mul_assoc]
  · refine ⟨c / u ^ (-mv).toNat, by rw [Rat.div_def]; exact Rat.mul_pos hc (Rat.inv_pos.mpr (up _)), ?_⟩
    rw [e, List.map_map]
    refine List.map_congr_left fun w hw => ?_
    show c * u ^ ((w : Int) + mv).toNat = c / u ^ (-mv).toNat * u ^ w
    have h1 := hm w hw
    have h2 : u ^ w = u ^ ((w : Int) + mv).toNat * u ^ (-mv).toNat := by
      rw [← rpow_add]
      congr 1
      omega
    rw [h2]
    have := Rat.ne_of_gt (up (-mv).toNat)
    obtain ⟨a, ha⟩ : ∃ a, a = u ^ (-mv).toNat := ⟨_, rfl⟩
    rw [← ha] at this ⊢
    grind
theorem le_div_one (hq : 1 ≤ q) (hpq : q ≤ p) : 1 ≤ Rat.divInt p q := by
  refine Rat.not_lt.mp fun h => ?_
  rw [Rat.divInt_eq_div, Rat.div_lt_iff (Rat.intCast_pos.mpr (by omega)), Rat.one_mul] at h
  have := Rat.intCast_lt_intCast.mp h
  omega
theorem r_are_choices (H : DS ns st) : ∃ st', f__law_are_choices [.ref 1] st = .ok (.bl true) st' ∧ DS ns st' ∧ Fr st st' := by
  obtain ⟨v1, s1, e1, a1, b1, D1, F1⟩ := r_many (τ := [some (.ref 1), none, none, none, none, none, none, none, none, none, none, none, none, none, none, none, none, none, none, none, none, none]) (k := 0) H (a := 60) (b := 6) (n := 4) (by decide) (by decide) (by decide) rfl
  obtain ⟨n, hn⟩ : ∃ n : Nat, (n : Int) = 1 + v1 := ⟨(1 + v1).toNat, by omega⟩
  have hr : ∀ s, rg1 (.int (n : Nat)) s = .ok (.fix (rng 0 n)) s := fun s => rg1_int (by omega)
  obtain ⟨wd, s2, e2, ws, rfl, lw, w12, D2, F2⟩ := comp_gen (q := .fix (rng 0 n)) (set := gN 17) (ft := HM.tYes) (fe := eCall 2 f__law_draw (aCons (eVar 0) (aCons (eC (.int 13)) aNil))) (τ := [some (.ref 1), some (.int (n : Nat)), none, none, none, none, none, none, none, none, none, none, none, none, none, none, none, none, none, none, none, none])
    (fun k acc s => ∃ ws : List Nat, acc = ws.map (fun w => D.int (w : Nat)) ∧ ws.length = k ∧ (∀ w ∈ ws, w ≤ 12) ∧ DS ns s ∧ Fr s1 s) (fun _ _ _ _ => rfl) (rng 0 n) 0 [] s1 ⟨[], rfl, rfl, by simp, D1, .refl⟩ (by
      intro i d acc s hi hp'
      obtain ⟨ws, rfl, lw, w12, Dx, F⟩ := hp'
      obtain ⟨v, sa, ea, aa, ba, Da, Fa⟩ := r_draw (many := 13) Dx (by decide) (by decide)
      obtain ⟨y, rfl⟩ : ∃ y : Nat, v = y := ⟨v.toNat, by omega⟩
      refine ⟨[some (.ref 1), some (.int (n : Nat)), none, none, none, none, none, none, none, none, none, none, none, none, none, none, none, some d, none, none, none, none], rfl, true, s, rfl, nofun, fun _ => ⟨.int (y : Nat), sa, by simp [ea], ws ++ [y], by simp, by simp; omega, ?_, Da, F.trans Fa⟩⟩
      intro w hw
      rcases List.mem_append.mp hw with h | h
      · exact w12 w h
      · rw [List.mem_singleton.mp h]; omega)
  rw [Nat.zero_add, rng_len] at lw
  have w0 : ws ≠ [] := List.length_pos_iff.mp (by omega)
  have w61 : ws.length ≤ 61 := by omega
  obtain ⟨p, q, s3, e3, q1, pq, p1, D3, F3⟩ := r_base D2
  obtain ⟨xs, s4, e4, G4, hx⟩ := r_choice_row (st := s3) (ws := ws) q1 pq p1 w12 w0 w61
  obtain ⟨vs, s5, e5, lv, v12, D5, F5⟩ := r_bent (G4.ds D3) w12 w61
  have v0 : vs ≠ [] := List.length_pos_iff.mp (by omega)
  have v61 : vs.length ≤ 61 := by omega
  obtain ⟨ys, s6, e6, G6, hy⟩ := r_choice_row (st := s5) (ws := vs) q1 pq p1 v12 v0 v61
  obtain ⟨s7, e7, G7⟩ := r_is_choice (st := s6) hx q1 pq p1 w12 w0 w61
  obtain ⟨s8, e8, G8⟩ := r_is_choice (st := s7) hy q1 pq p1 v12 v0 v61
  have D8 := G8.ds (G7.ds (G6.ds D5))
  have F8 : Fr st s8 := ((((((F1.trans F2).trans F3).trans G4.fr).trans F5).trans G6.fr).trans G7.fr).trans G8.fr
  -- the steps
  obtain ⟨ds, hds⟩ : ∃ ds : List Int, ds = (List.zip ws vs).map fun p => (p.2 : Int) - p.1 := ⟨_, rfl⟩
  have lds : ds.length = n := by rw [hds, List.length_map, List.length_zip]; omega
  have ds0 : ds ≠ [] := List.length_pos_iff.mp (by omega)
  obtain ⟨T8, hT8⟩ : ∃ T8 : Sl, T8 = [some (.ref 1), some (.int (n : Nat)), some (nt ws), some (.int p), some (.int q), some (itup xs), some (nt vs), some (itup ys), none, none, none, none, none, none, none, none, none, none, none, none, none, none] := ⟨_, rfl⟩
  obtain ⟨ZD, hZD⟩ : ∃ ZD, ZD = zipD (ws.map fun w => D.int (w : Nat)) (vs.map fun w => D.int (w : Nat)) := ⟨_, rfl⟩
  have eZD : ZD = (List.zip ws vs).map fun p => D.tup [.int (p.1 : Nat), .int (p.2 : Nat)] := by rw [hZD, zipD_map]
  have lZD : ZD.length ≤ 16777216 := by rw [eZD, List.length_map, List.length_zip]; omega
  have c1 := comp_map (q := .fix ZD) (set := gT 2 (gCs 18 (gCs 19 gNil0))) (fe := eBin oSub (eVar 19) (eVar 18)) (τ := T8) (st := s8) rfl (fun p : Nat × Nat => D.tup [.int (p.1 : Nat), .int (p.2 : Nat)]) (fun p => .int ((p.2 : Int) - p.1)) (List.zip ws vs) [] (fun p _ => by
    rw [hT8]
    exact ⟨[some (.ref 1), some (.int (n : Nat)), some (nt ws), some (.int _), some (.int q), some (itup xs), some (nt vs), some (itup ys), none, none, none, none, none, none, none, none, none, none, some (.int (p.1 : Nat)), some (.int (p.2 : Nat)), none, none], rfl, by simp⟩)
  rw [← eZD, List.nil_append, show ((List.zip ws vs).map fun p : Nat × Nat => D.int ((p.2 : Int) - p.1)) = ds.map D.int by rw [hds, List.map_map]; rfl] at c1
  obtain ⟨mn, emn, mn1, mn2⟩ := gMin_of ds0
  obtain ⟨mx, emx, mx1, mx2⟩ := gMax_of ds0
  obtain ⟨far, efar, far1, far2⟩ := gMax_of (ns := ds.map fun d => (d.natAbs : Int)) (by simpa using ds0)
  obtain ⟨d0, d01, rfl⟩ := List.mem_map.mp far1
  obtain ⟨f, hf⟩ : ∃ f : Nat, f = d0.natAbs := ⟨_, rfl⟩
  rw [← hf] at efar far2
  have dsb : ∀ i w v : Nat, ws[i]? = some w → vs[i]? = some v → (v : Int) - w ∈ ds := fun i w v h1 h2 => by
    rw [hds]
    exact List.mem_map.mpr ⟨(w, v), zip_idx h1 h2, rfl⟩
  have f12 : f ≤ 12 := by
    rw [hds] at d01
    obtain ⟨r, hr1, hr2⟩ := List.mem_map.mp d01
    have := List.of_mem_zip hr1
    have := w12 _ this.1
    have := v12 _ (List.of_mem_zip hr1).2
    omega
  have dl : ∀ i w v : Nat, ws[i]? = some w → vs[i]? = some v → w ≤ v + f ∧ v ≤ w + f ∧ mn ≤ (v : Int) - w ∧ (v : Int) - w ≤ mx := fun i w v h1 h2 => by
    have h3 := dsb i w v h1 h2
    have h4 := far2 _ (List.mem_map.mpr ⟨_, h3, rfl⟩)
    have h5 := mn2 _ h3
    have h6 := mx2 _ h3
    omega
  obtain ⟨a, b, B, hB, hB24, hab, heB⟩ : ∃ a b B : Nat, B = a + b ∧ B ≤ 24 ∧ (∀ i w v : Nat, ws[i]? = some w → vs[i]? = some v → w ≤ v + a ∧ v ≤ w + b) ∧ (B : Int) = if 0 ≤ mn ∨ mx ≤ 0 then (f : Int) else 2 * f := by
    by_cases h1 : 0 ≤ mn
    · exact ⟨0, f, f, by omega, by omega, fun i w v h2 h3 => by have := dl i w v h2 h3; omega, by rw [if_pos (.inl h1)]⟩
    · by_cases h2 : mx ≤ 0
      · exact ⟨f, 0, f, by omega, by omega, fun i w v h2 h3 => by have := dl i w v h2 h3; omega, by rw [if_pos (.inr h2)]⟩
      · exact ⟨f, f, 2 * f, by omega, by omega, fun i w v h2 h3 => by have := dl i w v h2 h3; omega, by rw [if_neg (by omega)]; omega⟩
  have hu := le_div_one q1 pq
  obtain ⟨L1, eL1, L1le, L11⟩ := loss_le hu hx hy w0 lv.symm (a := a) (b := b) (fun r hr => by
    obtain ⟨i, h1, h2⟩ := mem_zip_idx hr
    exact hab i _ _ h1 h2)
  obtain ⟨L2, eL2, L2le, L21⟩ := loss_le hu hy hx v0 lv (a := b) (b := a) (fun r hr => by
    obtain ⟨i, h1, h2⟩ := mem_zip_idx hr
    have := hab i _ _ h2 h1
    omega)
  rw [← hB] at L1le
  rw [show b + a = B by omega] at L2le
  have lxy : xs.length = ys.length := by rw [hx.len, hy.len, lv]
  -- stores
  obtain ⟨s9, hs9⟩ : ∃ s9, s9 = s8 ++ [Cell.lst (ds.map D.int)] := ⟨_, rfl⟩
  have g9 : lstAt s9 s8.length = some (ds.map D.int) := hs9 ▸ lstAt_new
  obtain ⟨R8, hR8⟩ : ∃ R8, R8 = s8.length := ⟨_, rfl⟩
  rw [← hR8] at g9
  have c2 := comp_map (q := .cell R8 (ds.map D.int)) (set := gN 20) (fe := eCB fAbs (aCons (eVar 20) aNil)) (τ := [some (.ref 1), some (.int (n : Nat)), some (nt ws), some (.int p), some (.int q), some (itup xs), some (nt vs), some (itup ys), some (.ref R8), none, none, none, none, none, none, none, none, none, none, none, none, none]) (st := s9) (by simp [Sq.chk, g9]) D.int (fun d => .int (d.natAbs : Nat)) ds [] (fun d _ => ⟨[some (.ref 1), some (.int (n : Nat)), some (nt ws), some (.int p), some (.int q), some (itup xs), some (nt vs), some (itup ys), some (.ref R8), none, none, none, none, none, none, none, none, none, none, none, some (.int d), none], rfl, by simp⟩)
  rw [List.nil_append] at c2
  have efar' : gMax (ds.map fun d => D.int (d.natAbs : Nat)) s9 = .ok (.int (f : Nat)) s9 := by
    have := efar s9
    rwa [List.map_map] at this
  have eIfB : (eIf (HM.tOr (tBl (eBin oGe (eCS gMin (sEx (eVar 8))) (eC (.int 0)))) (tBl (eBin oLe (eCS gMax (sEx (eVar 8))) (eC (.int 0))))) (eVar 9) (eBin oMul (eC (.int 2)) (eVar 9))) [some (.ref 1), some (.int (n : Nat)), some (nt ws), some (.int p), some (.int q), some (itup xs), some (nt vs), some (itup ys), some (.ref R8), some (.int (f : Nat)), none, none, none, none, none, none, none, none, none, none, none, none] s9 = .ok (.int (B : Nat)) s9 := by
    have o := oSeq_ref g9
    have om : okMul 2 (f : Nat) = true := okMul_l (by decide)
    obtain ⟨DD, hDD⟩ : ∃ DD, DD = ds.map D.int := ⟨_, rfl⟩
    have em1 := emn s9
    have em2 := emx s9
    rw [← hDD] at o em1 em2
    rw [heB]
    by_cases h1 : 0 ≤ mn
    · simp [o, em1, em2, h1]
    · by_cases h2 : mx ≤ 0
      · simp [o, em1, em2, h1, h2]
      · simp [o, em1, em2, h1, h2, om]
  obtain ⟨s10, hs10⟩ : ∃ s10, s10 = s9 ++ [Cell.lst [D.tup [itup xs, itup ys], .tup [itup ys, itup xs]]] := ⟨_, rfl⟩
  have g10 : lstAt s10 s9.length = some [D.tup [itup xs, itup ys], .tup [itup ys, itup xs]] := hs10 ▸ lstAt_new
  obtain ⟨R9, hR9⟩ : ∃ R9, R9 = s9.length := ⟨_, rfl⟩
  rw [← hR9] at g10
  obtain ⟨z1, o1⟩ := r_row_lossQ (st := s10) hx.wt hy.wt lxy (by decide) (by decide)
  have w1 := r_own_loss (st := s10) hx.wt hy.wt
  have y1 := r_is_lossQ (st := s10) o1 (by decide) (fun x h => by rw [eL1] at h; cases h; exact L11)
  rw [eL1] at z1 w1 y1 o1
  obtain ⟨s11, t1, G11⟩ := r_at_most (st := s10) ((o1 L1 rfl).up (by decide)) q1 pq p1 (by omega) L1le
  obtain ⟨z2, o2⟩ := r_row_lossQ (st := s11) hy.wt hx.wt lxy.symm (by decide) (by decide)
  have w2 := r_own_loss (st := s11) hy.wt hx.wt
  have y2 := r_is_lossQ (st := s11) o2 (by decide) (fun x h => by rw [eL2] at h; cases h; exact L21)
  rw [eL2] at z2 w2 y2 o2
  obtain ⟨s12, t2, G12⟩ := r_at_most (st := s11) ((o2 L2 rfl).up (by decide)) q1 pq p1 (by omega) L2le
  have G8' : Gr s8 s12 := (hs9 ▸ Gr.app : Gr s8 s9).trans ((hs10 ▸ Gr.app : Gr s9 s10).trans (G11.trans G12))
  have D12 := G8'.ds D8
  -- moved
  obtain ⟨m1, em1, m11, m12⟩ := gMin_of (ns := ws.map fun w : Nat => (w : Int)) (by simpa using w0)
  obtain ⟨m2, em2, m21, m22⟩ := gMax_of (ns := ws.map fun w : Nat => (w : Int)) (by simpa using w0)
  have hm1 : 0 ≤ m1 ∧ m1 ≤ 12 := by
    obtain ⟨w, hw, rfl⟩ := List.mem_map.mp m11
    have := w12 w hw
    omega
  have hm2 : 0 ≤ m2 ∧ m2 ≤ 12 := by
    obtain ⟨w, hw, rfl⟩ := List.mem_map.mp m21
    have := w12 w hw
    omega
  obtain ⟨v, s13, e13, a13, b13, D13, F13⟩ := r_draw (many := m1 + 13 - m2) D12 (by omega) (Nat.lt_of_le_of_lt (log2_le (k := 10) (by omega)) (by decide))
  obtain ⟨mv, hmv⟩ : ∃ mv : Int, mv = v - m1 := ⟨_, rfl⟩
  have hmw : ∀ w ∈ ws, 0 ≤ (w : Int) + mv ∧ (w : Int) + mv ≤ 12 := fun w hw => by
    have h1 := m12 _ (List.mem_map.mpr ⟨w, hw, rfl⟩)
    have h2 := m22 _ (List.mem_map.mpr ⟨w, hw, rfl⟩)
    omega
  obtain ⟨us, hus⟩ : ∃ us, us = ws.map fun w : Nat => ((w : Int) + mv).toNat := ⟨_, rfl⟩
  have lus : us.length = ws.length := by rw [hus, List.length_map]
  obtain ⟨zs, s14, e14, G14, hz⟩ := r_choice_row (st := s13) (ws := us) q1 pq p1 (fun u hu => by
    rw [hus] at hu
    obtain ⟨w, hw, rfl⟩ := List.mem_map.mp hu
    have := hmw w hw
    omega) (List.length_pos_iff.mp (by omega)) (by omega)
  rw [hus] at hz
  have hz := ch_moved hu (fun w hw => (hmw w hw).1) hz
  obtain ⟨r, s, s15, e15, s1', rs, r1', D15, F15⟩ := r_base (G14.ds D13)
  obtain ⟨s16, e16, G16⟩ := r_is_choice (st := s15) hz q1 pq p1 w12 w0 w61
  obtain ⟨ts, s17, e17, G17, ht⟩ := r_choice_row (st := s16) (ws := ws) s1' rs r1' w12 w0 w61
  obtain ⟨s18, e18, G18⟩ := r_is_choice (st := s17) ht s1' rs r1' w12 w0 w61
  refine ⟨s18, ?_, G18.ds (G17.ds (G16.ds D15)), (((((F8.trans G8'.fr).trans F13).trans G14.fr).trans F15).trans G16.fr).trans (G17.fr.trans G18.fr)⟩
  have od1 : od (some L1) = qd L1 := rfl
  have od2 : od (some L2) = qd L2 := rfl
  rw [od1] at z1 w1 y1
  rw [od2] at z2 w2 y2
  have k10 : Sq.chk (.cell R9 [D.tup [itup xs, itup ys], .tup [itup ys, itup xs]]) s10 = true := by simp [Sq.chk, g10]
  have k11 : Sq.chk (.cell R9 [D.tup [itup xs, itup ys], .tup [itup ys, itup xs]]) s11 = true := by simp [Sq.chk, G11.lst g10]
  have k12 : Sq.chk (.cell R9 [D.tup [itup xs, itup ys], .tup [itup ys, itup xs]]) s12 = true := by simp [Sq.chk, G12.lst (G11.lst g10)]
  obtain ⟨U, hU⟩ : ∃ U : SM, U = sSeq (sSet 13 (eCall 2 f_row_loss (aCons (eVar 11) (aCons (eVar 12) aNil))))
    (sIf (HM.tOr (HM.tNot (tVal (eCall 2 f__law_is_loss (aCons (eVar 13) (aCons (eCall 2 f__law_own_loss (aCons (eVar 11) (aCons (eVar 12) aNil))) aNil))))) (HM.tNot (tVal (eCall 4 f__law_is_at_most (aCons (eVar 13) (aCons (eVar 3) (aCons (eVar 4) (aCons (eVar 10) aNil)))))))) (sRet (eC (.bl false))) sNil) := ⟨_, rfl⟩
  have hu1 : U [some (.ref 1), some (.int (n : Nat)), some (nt ws), some (.int p), some (.int q), some (itup xs), some (nt vs), some (itup ys), some (.ref R8), some (.int (f : Nat)), some (.int (B : Nat)), some (itup xs), some (itup ys), none, none, none, none, none, none, none, none, none] s10 = .nx [some (.ref 1), some (.int (n : Nat)), some (nt ws), some (.int p), some (.int q), some (itup xs), some (nt vs), some (itup ys), some (.ref R8), some (.int (f : Nat)), some (.int (B : Nat)), some (itup xs), some (itup ys), some (qd L1), none, none, none, none, none, none, none, none] s11 := by
    rw [hU]
    simp [z1, w1, y1, t1]
  have hu2 : U [some (.ref 1), some (.int (n : Nat)), some (nt ws), some (.int p), some (.int q), some (itup xs), some (nt vs), some (itup ys), some (.ref R8), some (.int (f : Nat)), some (.int (B : Nat)), some (itup ys), some (itup xs), some (qd L1), none, none, none, none, none, none, none, none] s11 = .nx [some (.ref 1), some (.int (n : Nat)), some (nt ws), some (.int p), some (.int q), some (itup xs), some (nt vs), some (itup ys), some (.ref R8), some (.int (f : Nat)), some (.int (B : Nat)), some (itup ys), some (itup xs), some (qd L2), none, none, none, none, none, none, none, none] s12 := by
    rw [hU]
    simp [z2, w2, y2, t2]
  have e20 : forL (.cell R9 [D.tup [itup xs, itup ys], .tup [itup ys, itup xs]]) (gT 2 (gCs 11 (gCs 12 gNil0))) U [D.tup [itup xs, itup ys], .tup [itup ys, itup xs]] [some (.ref 1), some (.int (n : Nat)), some (nt ws), some (.int p), some (.int q), some (itup xs), some (nt vs), some (itup ys), some (.ref R8), some (.int (f : Nat)), some (.int (B : Nat)), none, none, none, none, none, none, none, none, none, none, none] s10 = .nx [some (.ref 1), some (.int (n : Nat)), some (nt ws), some (.int p), some (.int q), some (itup xs), some (nt vs), some (itup ys), some (.ref R8), some (.int (f : Nat)), some (.int (B : Nat)), some (itup ys), some (itup xs), some (qd L2), none, none, none, none, none, none, none, none] s12 := by
    rw [forL_nx k10 (by rfl) hu1, forL_nx k11 (by rfl) hu2, forL_nil k12]
  -- the walk
  have hsA : ∀ s, ofA (gT 2 (gCs 3 (gCs 4 gNil0))) [some (.ref 1), some (.int (n : Nat)), some (nt ws), none, none, none, none, none, none, none, none, none, none, none, none, none, none, none, none, none, none, none] (.tup [.int p, .int q]) s = .nx [some (.ref 1), some (.int (n : Nat)), some (nt ws), some (.int p), some (.int q), none, none, none, none, none, none, none, none, none, none, none, none, none, none, none, none, none] s := fun s => rfl
  have hsB : ∀ t, ofA (gT 2 (gCs 15 (gCs 16 gNil0))) [some (.ref 1), some (.int (n : Nat)), some (nt ws), some (.int p), some (.int q), some (itup xs), some (nt vs), some (itup ys), some (.ref R8), some (.int (f : Nat)), some (.int (B : Nat)), some (itup ys), some (itup xs), some (itup zs), some (.int mv), none, none, none, none, none, none, none] (.tup [.int r, .int s]) t = .nx [some (.ref 1), some (.int (n : Nat)), some (nt ws), some (.int p), some (.int q), some (itup xs), some (nt vs), some (itup ys), some (.ref R8), some (.int (f : Nat)), some (.int (B : Nat)), some (itup ys), some (itup xs), some (itup zs), some (.int mv), some (.int r), some (.int s), none, none, none, none, none] t := fun t => rfl
  rw [hT8] at c1
  have zz : ∀ s, zip2 (nt ws) (nt vs) s = .ok (.fix ZD) s := fun s => by rw [hZD]; rfl
  obtain ⟨R, hR⟩ : ∃ R, R = rng 0 (n : Nat) := ⟨_, rfl⟩
  have lR : R.length ≤ 16777216 := by rw [hR, rng_len]; omega
  have hr : ∀ s, rg1 (.int (n : Nat)) s = .ok (.fix R) s := fun s => by rw [hr, hR]
  rw [← hR] at e2
  have tw : D.tup (ws.map fun w => D.int (w : Nat)) = nt ws := rfl
  have ow : ∀ s, oSeq (nt ws) s = .ok (ws.map fun w => D.int (w : Nat)) s := fun s => rfl
  have dw : ∀ s, dSq s (nt ws) = some (.fix (ws.map fun w => D.int (w : Nat))) := fun s => rfl
  have em1' : ∀ s, gMin (ws.map fun w => D.int (w : Nat)) s = .ok (.int m1) s := fun s => by
    have := em1 s
    rwa [List.map_map] at this
  have em2' : ∀ s, gMax (ws.map fun w => D.int (w : Nat)) s = .ok (.int m2) s := fun s => by
    have := em2 s
    rwa [List.map_map] at this
  have c3 := comp_map (q := .fix (ws.map fun w => D.int (w : Nat))) (set := gN 21) (fe := eBin oAdd (eVar 21) (eVar 14)) (τ := [some (.ref 1), some (.int (n : Nat)), some (nt ws), some (.int p), some (.int q), some (itup xs), some (nt vs), some (itup ys), some (.ref R8), some (.int (f : Nat)), some (.int (B : Nat)), some (itup ys), some (itup xs), some (qd L2), some (.int mv), none, none, none, none, none, none, none]) (st := s13) rfl (fun w : Nat => D.int (w : Nat)) (fun w => .int ((((w : Int) + mv).toNat : Nat) : Int)) ws [] (fun w hw => by
    have h1 := (hmw w hw).1
    exact ⟨[some (.ref 1), some (.int (n : Nat)), some (nt ws), some (.int p), some (.int q), some (itup xs), some (nt vs), some (itup ys), some (.ref R8), some (.int (f : Nat)), some (.int (B : Nat)), some (itup ys), some (itup xs), some (qd L2), some (.int mv), none, none, none, none, none, none, some (.int (w : Nat))], rfl, by simp [Int.toNat_of_nonneg h1]⟩)
  rw [List.nil_append, show (ws.map fun w : Nat => D.int ((((w : Int) + mv).toNat : Nat) : Int)) = us.map fun u => D.int (u : Nat) by rw [hus, List.map_map]; rfl] at c3
  have tu : D.tup (us.map fun u => D.int (u : Nat)) = nt us := rfl
  obtain ⟨WD, hWD⟩ : ∃ WD, WD = ws.map fun w => D.int (w : Nat) := ⟨_, rfl⟩
  have lWD : WD.length ≤ 16777216 := by rw [hWD, List.length_map]; omega
  obtain ⟨UD, hUD⟩ : ∃ UD, UD = us.map fun w => D.int (w : Nat) := ⟨_, rfl⟩
  obtain ⟨DD, hDD⟩ : ∃ DD, DD = ds.map D.int := ⟨_, rfl⟩
  have lDD : DD.length ≤ 16777216 := by rw [hDD, List.length_map]; omega
  obtain ⟨FD, hFD⟩ : ∃ FD, FD = ds.map fun d => D.int (d.natAbs : Nat) := ⟨_, rfl⟩
  rw [← hWD] at e2 tw ow dw em1' em2' c3
  rw [← hUD] at c3 tu
  rw [← hDD] at c1 c2 hs9 g9
  rw [← hFD] at c2 efar'
  unfold f__law_are_choices
  rw [runB_e]
  unfold m__law_are_choices
  rw [← hU]
  simp [-eCall_e, -eIf_e, List.replicate, e1]
  simp [-eIf_e, ← hn, lComp_e, lc1, wipeD, hr, lR, e2, tw, e3, hsA, e4, e5, e6, e7, e8, zz, lZD, c1, ← hR8, ← hs9]
  simp [-eIf_e, lComp_e, lc1, wipeD, dSq_ref g9, lDD, c2, efar', eIfB, ← hR9, ← hs10, sFor_e]
  simp [dSq_ref g10, e20, ow, em1', em2', e13, ← hmv, lComp_e, lc1, wipeD, dw, lWD, c3, tu, e14, hsB, e15, e16, e17, e18]
end

section
variable {st : Store} {ns : List Int}
theorem eq_itup {xs : List Int} {s : Store} : oEq (itup xs) (itup xs) s = .ok (.bl true) s := by
  unfold itup
  rw [oEq_tup (by simp [List.all_map]) (by simp [List.all_map])]
  simp
theorem r_one_better (H : DS ns st) : ∃ st', f__law_is_one_better [.ref 1] st = .ok (.bl true) st' ∧ DS ns st' ∧ Fr st st' := by
  obtain ⟨v1, s1, e1, a1, b1, D1, F1⟩ := r_draw (many := 11) H (by decide) (by decide)
  obtain ⟨v2, s2, e2, a2, b2, D2, F2⟩ := r_draw (many := 80) D1 (by decide) (by decide)
  obtain ⟨v3, s3, e3, a3, b3, D3, F3⟩ := r_draw (many := 1 + v2) D2 (by omega) (Nat.lt_of_le_of_lt (log2_le (k := 10) (by omega)) (by decide))
  obtain ⟨m, hm⟩ : ∃ m : Nat, (m : Int) = 2 + v1 := ⟨(2 + v1).toNat, by omega⟩
  obtain ⟨p, hp⟩ : ∃ p : Int, p = 1 + v2 := ⟨_, rfl⟩
  obtain ⟨q, hq⟩ : ∃ q : Int, q = 1 + v3 := ⟨_, rfl⟩
  obtain ⟨v4, s4, e4, a4, b4, D4, F4⟩ := r_draw (many := (m : Nat)) D3 (by omega) (Nat.lt_of_le_of_lt (log2_le (k := 10) (by omega)) (by decide))
  obtain ⟨v5, s5, e5, a5, b5, D5, F5⟩ := r_draw (many := 12) D4 (by decide) (by decide)
  obtain ⟨v, rfl⟩ : ∃ v : Nat, v4 = v := ⟨v4.toNat, by omega⟩
  obtain ⟨low, rfl⟩ : ∃ low : Nat, v5 = low := ⟨v5.toNat, by omega⟩
  obtain ⟨ws, hws⟩ : ∃ ws : List Nat, ws = (List.range m).map fun a => low + if a = v then 1 else 0 := ⟨_, rfl⟩
  have lw : ws.length = m := by rw [hws]; simp
  have w12 : ∀ w ∈ ws, w ≤ 12 := fun w hw => by
    rw [hws] at hw
    obtain ⟨a, _, rfl⟩ := List.mem_map.mp hw
    split <;> omega
  have w0 : ws ≠ [] := List.length_pos_iff.mp (by omega)
  have q1 : 1 ≤ q := by omega
  have pq : q ≤ p := by omega
  have p1 : p ≤ 1000 := by omega
  have hv : v < m := by omega
  obtain ⟨xs, s6, e6, G6, hx⟩ := r_choice_row (st := s5) (ws := ws) q1 pq p1 w12 w0 (by omega)
  obtain ⟨N, hN⟩ : ∃ N : Int, N = (m : Nat) - 1 := ⟨_, rfl⟩
  obtain ⟨Q, hQ⟩ : ∃ Q : Int, Q = p + N * q := ⟨_, rfl⟩
  have nq : 0 ≤ N * q ∧ N * q ≤ 11 * 80 := ⟨Int.mul_nonneg (by omega) (by omega), Int.mul_le_mul (by omega) (by omega) (by omega) (by omega)⟩
  have Q1 : 0 < Q := by omega
  have Q2 : Q ≤ 1000 := by omega
  obtain ⟨rows, s7, e7, G7, hR⟩ := r_spin_rows (st := s6) (m := m) (p := p) (q := Q) (by omega) (by omega) Q1 Q2 (by omega) (by omega)
  obtain ⟨s8, e8, G8⟩ := r_is_choice (st := s7) hx q1 pq p1 w12 w0 (by omega)
  have e9 := r_is_spin (st := s8) hR (by omega) (by omega) Q1 Q2 (by omega) (by omega)
  obtain ⟨ys, hys⟩ : ∃ ys, rows[v]? = some ys := ⟨_, gr_get (by rw [hR.len]; exact hv)⟩
  obtain ⟨sd, _⟩ := hR.at' v ys hys
  have hod := osh_div (m := m) (p := p) (q := Q) (by omega) Q1
  have same : ys = xs := by
    refine low_uniq sd.low hx.low sd.prp ?_
    obtain ⟨c, hc, e⟩ := hx.prp
    have q0 : (q : Rat) ≠ 0 := fun e => by have := Rat.intCast_eq_zero_iff.mp e; omega
    have Q0 : (Q : Rat) ≠ 0 := fun e => by have := Rat.intCast_eq_zero_iff.mp e; omega
    have N0 : (N : Rat) ≠ 0 := fun e => by have := Rat.intCast_eq_zero_iff.mp e; omega
    have up : ∀ n : Nat, 0 < (Rat.divInt p q) ^ n := fun n => Rat.pow_pos (pos_one (le_div_one q1 pq))
    refine ⟨c * (Rat.divInt p q) ^ low * ((Q : Rat) / q), ?_, ?_⟩
    · refine Rat.mul_pos (Rat.mul_pos hc (up low)) ?_
      rw [Rat.div_def]
      exact Rat.mul_pos (Rat.intCast_pos.mpr Q1) (Rat.inv_pos.mpr (Rat.intCast_pos.mpr (by omega)))
    · rw [e, hws]
      unfold sp
      rw [List.map_map, List.map_map, List.map_map]
      refine List.map_congr_left fun a _ => ?_
      show c * (Rat.divInt p q) ^ (low + if a = v then 1 else 0) = c * (Rat.divInt p q) ^ low * ((Q : Rat) / q) * (if a = v then Rat.divInt p Q else osh m (Rat.divInt p Q))
      rw [rpow_add, hod, ← hN]
      have eQ : Q - p = N * q := by omega
      rw [eQ]
      by_cases h : a = v
      · rw [if_pos h, if_pos h, Rat.pow_one, Rat.divInt_eq_div, Rat.divInt_eq_div]
        obtain ⟨z, hz⟩ : ∃ z, z = ((p : Rat) / q) ^ low := ⟨_, rfl⟩
        rw [← hz]
        grind
      · rw [if_neg h, if_neg h, Rat.pow_zero]
        obtain ⟨z, hz⟩ : ∃ z, z = (Rat.divInt p q) ^ low := ⟨_, rfl⟩
        rw [← hz, Rat.divInt_eq_div, Rat.intCast_mul, Rat.intCast_mul]
        grind
  have ix := fun s => ix_rows hys (s := s)
  rw [same] at ix
  have hr : ∀ s, rg1 (.int (m : Nat)) s = .ok (.fix (rng 0 m)) s := fun s => rg1_int (by omega)
  have c1 := comp_map (q := .fix (rng 0 m)) (set := gN 9) (fe := eBin oAdd (eVar 5) (eCB fInt (aCons (eBin oEq (eVar 9) (eVar 4)) aNil))) (τ := [some (.ref 1), some (.int (m : Nat)), some (.int p), some (.int q), some (.int (v : Nat)), some (.int (low : Nat)), none, none, none, none]) (st := s5) rfl (fun a : Nat => D.int (a : Nat)) (fun a => .int ((low + if a = v then 1 else 0 : Nat) : Int)) (List.range m) [] (fun a _ => by
    refine ⟨[some (.ref 1), some (.int (m : Nat)), some (.int p), some (.int q), some (.int (v : Nat)), some (.int (low : Nat)), none, none, none, some (.int (a : Nat))], rfl, ?_⟩
    by_cases h : a = v
    · subst h; simp
    · have h' : ¬ ((a : Int) = (v : Int)) := by omega
      simp [h, h'])
  rw [← rng_eq, List.nil_append, show ((List.range m).map fun a => D.int ((low + if a = v then 1 else 0 : Nat) : Int)) = ws.map fun w => D.int (w : Nat) by rw [hws, List.map_map]; rfl] at c1
  have tw : D.tup (ws.map fun w => D.int (w : Nat)) = nt ws := rfl
  obtain ⟨WD, hWD⟩ : ∃ WD, WD = ws.map fun w => D.int (w : Nat) := ⟨_, rfl⟩
  obtain ⟨R, hR'⟩ : ∃ R, R = rng 0 (m : Nat) := ⟨_, rfl⟩
  have lR : R.length ≤ 16777216 := by rw [hR', rng_len]; omega
  have hr : ∀ s, rg1 (.int (m : Nat)) s = .ok (.fix R) s := fun s => by rw [hr, hR']
  rw [← hWD] at tw c1
  rw [← hR'] at c1
  have om : okMul N q = true := okMul_l (by omega)
  refine ⟨s8, ?_, G8.ds (G7.ds (G6.ds D5)), ((((((F1.trans F2).trans F3).trans F4).trans F5).trans G6.fr).trans G7.fr).trans G8.fr⟩
  rw [← hp] at e3
  unfold f__law_is_one_better
  rw [runB_e]
  unfold m__law_is_one_better
  simp [List.replicate, e1, ← hm, e2, e3, ← hp, ← hq, e4, e5, lComp_e, lc1, wipeD, hr, lR, c1, tw, e6, ← hN, om, ← hQ, e7, e8, e9, ix, eq_itup]
end
theorem law_holds : ∀ ns : List Int, ns.length ≤ 63 → ∃ st, f_law [.rol (ns.map D.int)] [] = .ok (.bl true) st := by
  intro ns hns
  obtain ⟨s0, e0, D0, _⟩ := r_begin hns
  obtain ⟨s1, e1, D1, _⟩ := r_are_spins D0
  obtain ⟨s2, e2, D2, _⟩ := r_are_choices D1
  obtain ⟨s3, e3, D3, _⟩ := r_one_better D2
  refine ⟨s3, ?_⟩
  unfold f_law
  rw [runB_e]
  unfold m_law
  simp [List.replicate, e0, e1, e2, e3]

/-! ### the head -/
def fn : List He.DefD := [⟨("ratio", none), "ratio", "ratio", defArgs s_ratio, defBody s_ratio, defScope s_ratio, [], []⟩,
  ⟨("minus", none), "minus", "minus", defArgs s_minus, defBody s_minus, defScope s_minus, [], []⟩,
  ⟨("over", none), "over", "over", defArgs s_over, defBody s_over, defScope s_over, [], []⟩,
  ⟨("is_below", none), "is_below", "is_below", defArgs s_is_below, defBody s_is_below, defScope s_is_below, [], []⟩,
  ⟨("chances", none), "chances", "chances", defArgs s_chances, defBody s_chances, defScope s_chances, [], []⟩,
  ⟨("reduced", none), "reduced", "reduced", defArgs s_reduced, defBody s_reduced, defScope s_reduced, [], []⟩,
  ⟨("lowest", none), "lowest", "lowest", defArgs s_lowest, defBody s_lowest, defScope s_lowest, [], []⟩,
  ⟨("powers", none), "powers", "powers", defArgs s_powers, defBody s_powers, defScope s_powers, [], []⟩,
  ⟨("scaled_powers", none), "scaled_powers", "scaled_powers", defArgs s_scaled_powers, defBody s_scaled_powers, defScope s_scaled_powers, [], []⟩,
  ⟨("choice_weights", none), "choice_weights", "choice_weights", defArgs s_choice_weights, defBody s_choice_weights, defScope s_choice_weights, [], []⟩,
  ⟨("choice_row", none), "choice_row", "choice_row", defArgs s_choice_row, defBody s_choice_row, defScope s_choice_row, [], []⟩,
  ⟨("factor_of", none), "factor_of", "factor_of", defArgs s_factor_of, defBody s_factor_of, defScope s_factor_of, [], []⟩,
  ⟨("greater_loss", none), "greater_loss", "greater_loss", defArgs s_greater_loss, defBody s_greater_loss, defScope s_greater_loss, [], []⟩,
  ⟨("row_loss", none), "row_loss", "row_loss", defArgs s_row_loss, defBody s_row_loss, defScope s_row_loss, [], []⟩,
  ⟨("rows_loss", none), "rows_loss", "rows_loss", defArgs s_rows_loss, defBody s_rows_loss, defScope s_rows_loss, [], []⟩,
  ⟨("other_share", none), "other_share", "other_share", defArgs s_other_share, defBody s_other_share, defScope s_other_share, [], []⟩,
  ⟨("spin_chances", none), "spin_chances", "spin_chances", defArgs s_spin_chances, defBody s_spin_chances, defScope s_spin_chances, [], []⟩,
  ⟨("spin_row", none), "spin_row", "spin_row", defArgs s_spin_row, defBody s_spin_row, defScope s_spin_row, [], []⟩,
  ⟨("spin_rows", none), "spin_rows", "spin_rows", defArgs s_spin_rows, defBody s_spin_rows, defScope s_spin_rows, [], []⟩,
  ⟨("_law_begin", none), "_law_begin", "_law_begin", defArgs s__law_begin, defBody s__law_begin, defScope s__law_begin, [], []⟩,
  ⟨("_law_draw", none), "_law_draw", "_law_draw", defArgs s__law_draw, defBody s__law_draw, defScope s__law_draw, [], []⟩,
  ⟨("_law_is_int", none), "_law_is_int", "_law_is_int", defArgs s__law_is_int, defBody s__law_is_int, defScope s__law_is_int, [], []⟩,
  ⟨("_law_is_ints", none), "_law_is_ints", "_law_is_ints", defArgs s__law_is_ints, defBody s__law_is_ints, defScope s__law_is_ints, [], []⟩,
  ⟨("_law_gcd", none), "_law_gcd", "_law_gcd", defArgs s__law_gcd, defBody s__law_gcd, defScope s__law_gcd, [], []⟩,
  ⟨("_law_f", none), "_law_f", "_law_f", defArgs s__law_f, defBody s__law_f, defScope s__law_f, [], []⟩,
  ⟨("_law_less", none), "_law_less", "_law_less", defArgs s__law_less, defBody s__law_less, defScope s__law_less, [], []⟩,
  ⟨("_law_great", none), "_law_great", "_law_great", defArgs s__law_great, defBody s__law_great, defScope s__law_great, [], []⟩,
  ⟨("_law_is_frac", none), "_law_is_frac", "_law_is_frac", defArgs s__law_is_frac, defBody s__law_is_frac, defScope s__law_is_frac, [], []⟩,
  ⟨("_law_is_ratio", none), "_law_is_ratio", "_law_is_ratio", defArgs s__law_is_ratio, defBody s__law_is_ratio, defScope s__law_is_ratio, [], []⟩,
  ⟨("_law_powers", none), "_law_powers", "_law_powers", defArgs s__law_powers, defBody s__law_powers, defScope s__law_powers, [], []⟩,
  ⟨("_law_part", none), "_law_part", "_law_part", defArgs s__law_part, defBody s__law_part, defScope s__law_part, [], []⟩,
  ⟨("_law_base", none), "_law_base", "_law_base", defArgs s__law_base, defBody s__law_base, defScope s__law_base, [], []⟩,
  ⟨("_law_is_lowest", none), "_law_is_lowest", "_law_is_lowest", defArgs s__law_is_lowest, defBody s__law_is_lowest, defScope s__law_is_lowest, [], []⟩,
  ⟨("_law_is_loss", none), "_law_is_loss", "_law_is_loss", defArgs s__law_is_loss, defBody s__law_is_loss, defScope s__law_is_loss, [], []⟩,
  ⟨("_law_is_spin", none), "_law_is_spin", "_law_is_spin", defArgs s__law_is_spin, defBody s__law_is_spin, defScope s__law_is_spin, [], []⟩,
  ⟨("_law_spin_loss", none), "_law_spin_loss", "_law_spin_loss", defArgs s__law_spin_loss, defBody s__law_spin_loss, defScope s__law_spin_loss, [], []⟩,
  ⟨("_law_are_spins", none), "_law_are_spins", "_law_are_spins", defArgs s__law_are_spins, defBody s__law_are_spins, defScope s__law_are_spins, [], []⟩,
  ⟨("_law_is_choice", none), "_law_is_choice", "_law_is_choice", defArgs s__law_is_choice, defBody s__law_is_choice, defScope s__law_is_choice, [], []⟩,
  ⟨("_law_bent_worths", none), "_law_bent_worths", "_law_bent_worths", defArgs s__law_bent_worths, defBody s__law_bent_worths, defScope s__law_bent_worths, [], []⟩,
  ⟨("_law_own_loss", none), "_law_own_loss", "_law_own_loss", defArgs s__law_own_loss, defBody s__law_own_loss, defScope s__law_own_loss, [], []⟩,
  ⟨("_law_is_at_most", none), "_law_is_at_most", "_law_is_at_most", defArgs s__law_is_at_most, defBody s__law_is_at_most, defScope s__law_is_at_most, [], []⟩,
  ⟨("_law_are_choices", none), "_law_are_choices", "_law_are_choices", defArgs s__law_are_choices, defBody s__law_are_choices, defScope s__law_are_choices, [], []⟩,
  ⟨("_law_is_one_better", none), "_law_is_one_better", "_law_is_one_better", defArgs s__law_is_one_better, defBody s__law_is_one_better, defScope s__law_is_one_better, [], []⟩,
  ⟨("law", none), "law", "law", defArgs s_law, defBody s_law, defScope s_law, [], []⟩]
def fa : List He.Fa := [.glo "ratio", .glo "minus", .glo "over", .glo "is_below", .glo "chances", .glo "reduced", .glo "lowest", .glo "powers", .glo "scaled_powers", .glo "choice_weights", .glo "choice_row", .glo "factor_of", .glo "greater_loss", .glo "row_loss", .glo "rows_loss", .glo "other_share", .glo "spin_chances", .glo "spin_row", .glo "spin_rows", .glo "_law_begin", .glo "_law_draw", .glo "_law_is_int", .glo "_law_is_ints", .glo "_law_gcd", .glo "_law_f", .glo "_law_less", .glo "_law_great", .glo "_law_is_frac", .glo "_law_is_ratio", .glo "_law_powers", .glo "_law_part", .glo "_law_base", .glo "_law_is_lowest", .glo "_law_is_loss", .glo "_law_is_spin", .glo "_law_spin_loss", .glo "_law_are_spins", .glo "_law_is_choice", .glo "_law_bent_worths", .glo "_law_own_loss", .glo "_law_is_at_most", .glo "_law_are_choices", .glo "_law_is_one_better", .glo "law", .free "ZeroDivisionError", .free "sum", .free "tuple", .free "range", .free "max", .free "zip", .free "int", .free "len", .free "abs", .free "isinstance", .free "bool", .free "all", .free "min"]
def fx : List Fx := [.blt "gcd" "math.gcd", .blt "lcm" "math.lcm", .con "ONE" q_ONE]
abbrev hk : PySem.W.Hook := hookM 5 fa fx fn
def ob (s : PySem.W.SharedT) : He.AlD := obsMG 5 fa fx fn (HandSHeadRun.getT s)
theorem ob_eq (s : PySem.W.SharedT) : ob s = hk.obs s.abs := obsMG_eq (HandSHeadRun.getT_eq s)
def nm0 : List PySem.Str := ["ONE", "ratio", "minus", "over", "is_below", "chances", "reduced", "lowest", "powers", "scaled_powers", "choice_weights", "choice_row", "factor_of", "greater_loss", "row_loss", "rows_loss", "other_share", "spin_chances", "spin_row", "spin_rows", "_law_begin", "_law_draw", "_law_is_int", "_law_is_ints", "_law_gcd", "_law_f", "_law_less", "_law_great", "_law_is_frac", "_law_is_ratio"]
def nm1 : List PySem.Str := ["_law_powers", "_law_part", "_law_base", "_law_is_lowest", "_law_is_loss", "_law_is_spin", "_law_spin_loss", "_law_are_spins", "_law_is_choice", "_law_bent_worths", "_law_own_loss", "_law_is_at_most", "_law_are_choices", "_law_is_one_better"]
def nms : List PySem.Str := nm0 ++ nm1
theorem run (w : World) : HandSHeadRun.RunEqI (PySem.W.OpenLaw.row PySem.Challenge.rw_closedratios_k25_spins_and_choices) (PySem.W.view (PySem.W.OpenLaw.row PySem.Challenge.rw_closedratios_k25_spins_and_choices).prog [0, 52]) hk ob 6000 nms w := by
  unfold HandSHeadRun.RunEqI
  kernel_rfl
theorem facts {P : Program} {w : World} {K : PySem.W.Frag} {h : Heap} {mg : PySem.Str → Option Value} {f : Addr} (X : K.In h) (G : h.Ns mainGlobals mg) (hfa : mg ("law" : PySem.Str) = some (.ref f)) (c : SaysM fa fx fn K) :
    ∃ fd : FuncData, (∀ (s : Shared) (v : Value), BindsTo s fd ⟨[v], []⟩ [("script", v)]) ∧ ∀ base : Heap, K.In base → base.Ns mainGlobals mg → FnM P w K mg base 8 f fd ["script"] f_law := by
  obtain ⟨fd_ratio, F_ratio⟩ := c.def_ 0 rfl
  have gx_ratio := He.glo_ok X G (c.fact 0 (f := .glo "ratio") rfl)
  obtain ⟨fd_minus, F_minus⟩ := c.def_ 1 rfl
  have gx_minus := He.glo_ok X G (c.fact 1 (f := .glo "minus") rfl)
  obtain ⟨fd_over, F_over⟩ := c.def_ 2 rfl
  have gx_over := He.glo_ok X G (c.fact 2 (f := .glo "over") rfl)
  obtain ⟨fd_is_below, F_is_below⟩ := c.def_ 3 rfl
  have gx_is_below := He.glo_ok X G (c.fact 3 (f := .glo "is_below") rfl)
  obtain ⟨fd_chances, F_chances⟩ := c.def_ 4 rfl
  have gx_chances := He.glo_ok X G (c.fact 4 (f := .glo "chances") rfl)
  obtain ⟨fd_reduced, F_reduced⟩ := c.def_ 5 rfl
  have gx_reduced := He.glo_ok X G (c.fact 5 (f := .glo "reduced") rfl)
  obtain ⟨fd_lowest, F_lowest⟩ := c.def_ 6 rfl
  have gx_lowest := He.glo_ok X G (c.fact 6 (f := .glo "lowest") rfl)
  obtain ⟨fd_powers, F_powers⟩ := c.def_ 7 rfl
  have gx_powers := He.glo_ok X G (c.fact 7 (f := .glo "powers") rfl)
  obtain ⟨fd_scaled_powers, F_scaled_powers⟩ := c.def_ 8 rfl
  have gx_scaled_powers := He.glo_ok X G (c.fact 8 (f := .glo "scaled_powers") rfl)
  obtain ⟨fd_choice_weights, F_choice_weights⟩ := c.def_ 9 rfl
  have gx_choice_weights := He.glo_ok X G (c.fact 9 (f := .glo "choice_weights") rfl)
  obtain ⟨fd_choice_row, F_choice_row⟩ := c.def_ 10 rfl
  have gx_choice_row := He.glo_ok X G (c.fact 10 (f := .glo "choice_row") rfl)
  obtain ⟨fd_factor_of, F_factor_of⟩ := c.def_ 11 rfl
  have gx_factor_of := He.glo_ok X G (c.fact 11 (f := .glo "factor_of") rfl)
  obtain ⟨fd_greater_loss, F_greater_loss⟩ := c.def_ 12 rfl
  have gx_greater_loss := He.glo_ok X G (c.fact 12 (f := .glo "greater_loss") rfl)
  obtain ⟨fd_row_loss, F_row_loss⟩ := c.def_ 13 rfl
  have gx_row_loss := He.glo_ok X G (c.fact 13 (f := .glo "row_loss") rfl)
  obtain ⟨fd_rows_loss, F_rows_loss⟩ := c.def_ 14 rfl
  have gx_rows_loss := He.glo_ok X G (c.fact 14 (f := .glo "rows_loss") rfl)
  obtain ⟨fd_other_share, F_other_share⟩ := c.def_ 15 rfl
  have gx_other_share := He.glo_ok X G (c.fact 15 (f := .glo "other_share") rfl)
  obtain ⟨fd_spin_chances, F_spin_chances⟩ := c.def_ 16 rfl
  have gx_spin_chances := He.glo_ok X G (c.fact 16 (f := .glo "spin_chances") rfl)
  obtain ⟨fd_spin_row, F_spin_row⟩ := c.def_ 17 rfl
  have gx_spin_row := He.glo_ok X G (c.fact 17 (f := .glo "spin_row") rfl)
  obtain ⟨fd_spin_rows, F_spin_rows⟩ := c.def_ 18 rfl
  have gx_spin_rows := He.glo_ok X G (c.fact 18 (f := .glo "spin_rows") rfl)
  obtain ⟨fd__law_begin, F__law_begin⟩ := c.def_ 19 rfl
  have gx__law_begin := He.glo_ok X G (c.fact 19 (f := .glo "_law_begin") rfl)
  obtain ⟨fd__law_draw, F__law_draw⟩ := c.def_ 20 rfl
  have gx__law_draw := He.glo_ok X G (c.fact 20 (f := .glo "_law_draw") rfl)
  obtain ⟨fd__law_is_int, F__law_is_int⟩ := c.def_ 21 rfl
  have gx__law_is_int := He.glo_ok X G (c.fact 21 (f := .glo "_law_is_int") rfl)
  obtain ⟨fd__law_is_ints, F__law_is_ints⟩ := c.def_ 22 rfl
  have gx__law_is_ints := He.glo_ok X G (c.fact 22 (f := .glo "_law_is_ints") rfl)
  obtain ⟨fd__law_gcd, F__law_gcd⟩ := c.def_ 23 rfl
  have gx__law_gcd := He.glo_ok X G (c.fact 23 (f := .glo "_law_gcd") rfl)
  obtain ⟨fd__law_f, F__law_f⟩ := c.def_ 24 rfl
  have gx__law_f := He.glo_ok X G (c.fact 24 (f := .glo "_law_f") rfl)
  obtain ⟨fd__law_less, F__law_less⟩ := c.def_ 25 rfl
  have gx__law_less := He.glo_ok X G (c.fact 25 (f := .glo "_law_less") rfl)
  obtain ⟨fd__law_great, F__law_great⟩ := c.def_ 26 rfl
  have gx__law_great := He.glo_ok X G (c.fact 26 (f := .glo "_law_great") rfl)
  obtain ⟨fd__law_is_frac, F__law_is_frac⟩ := c.def_ 27 rfl
  have gx__law_is_frac := He.glo_ok X G (c.fact 27 (f := .glo "_law_is_frac") rfl)
  obtain ⟨fd__law_is_ratio, F__law_is_ratio⟩ := c.def_ 28 rfl
  have gx__law_is_ratio := He.glo_ok X G (c.fact 28 (f := .glo "_law_is_ratio") rfl)
  obtain ⟨fd__law_powers, F__law_powers⟩ := c.def_ 29 rfl
  have gx__law_powers := He.glo_ok X G (c.fact 29 (f := .glo "_law_powers") rfl)
  obtain ⟨fd__law_part, F__law_part⟩ := c.def_ 30 rfl
  have gx__law_part := He.glo_ok X G (c.fact 30 (f := .glo "_law_part") rfl)
  obtain ⟨fd__law_base, F__law_base⟩ := c.def_ 31 rfl
  have gx__law_base := He.glo_ok X G (c.fact 31 (f := .glo "_law_base") rfl)
  obtain ⟨fd__law_is_lowest, F__law_is_lowest⟩ := c.def_ 32 rfl
  have gx__law_is_lowest := He.glo_ok X G (c.fact 32 (f := .glo "_law_is_lowest") rfl)
  obtain ⟨fd__law_is_loss, F__law_is_loss⟩ := c.def_ 33 rfl
  have gx__law_is_loss := He.glo_ok X G (c.fact 33 (f := .glo "_law_is_loss") rfl)
  obtain ⟨fd__law_is_spin, F__law_is_spin⟩ := c.def_ 34 rfl
  have gx__law_is_spin := He.glo_ok X G (c.fact 34 (f := .glo "_law_is_spin") rfl)
  obtain ⟨fd__law_spin_loss, F__law_spin_loss⟩ := c.def_ 35 rfl
  have gx__law_spin_loss := He.glo_ok X G (c.fact 35 (f := .glo "_law_spin_loss") rfl)
  obtain ⟨fd__law_are_spins, F__law_are_spins⟩ := c.def_ 36 rfl
  have gx__law_are_spins := He.glo_ok X G (c.fact 36 (f := .glo "_law_are_spins") rfl)
  obtain ⟨fd__law_is_choice, F__law_is_choice⟩ := c.def_ 37 rfl
  have gx__law_is_choice := He.glo_ok X G (c.fact 37 (f := .glo "_law_is_choice") rfl)
  obtain ⟨fd__law_bent_worths, F__law_bent_worths⟩ := c.def_ 38 rfl
  have gx__law_bent_worths := He.glo_ok X G (c.fact 38 (f := .glo "_law_bent_worths") rfl)
  obtain ⟨fd__law_own_loss, F__law_own_loss⟩ := c.def_ 39 rfl
  have gx__law_own_loss := He.glo_ok X G (c.fact 39 (f := .glo "_law_own_loss") rfl)
  obtain ⟨fd__law_is_at_most, F__law_is_at_most⟩ := c.def_ 40 rfl
  have gx__law_is_at_most := He.glo_ok X G (c.fact 40 (f := .glo "_law_is_at_most") rfl)
  obtain ⟨fd__law_are_choices, F__law_are_choices⟩ := c.def_ 41 rfl
  have gx__law_are_choices := He.glo_ok X G (c.fact 41 (f := .glo "_law_are_choices") rfl)
  obtain ⟨fd__law_is_one_better, F__law_is_one_better⟩ := c.def_ 42 rfl
  have gx__law_is_one_better := He.glo_ok X G (c.fact 42 (f := .glo "_law_is_one_better") rfl)
  obtain ⟨fd_law, F_law⟩ := c.def_ 43 rfl
  have z_ZeroDivisionError := He.free_ok X G (c.fact 44 (f := .free "ZeroDivisionError") rfl)
  have z_sum := He.free_ok X G (c.fact 45 (f := .free "sum") rfl)
  have z_tuple := He.free_ok X G (c.fact 46 (f := .free "tuple") rfl)
  have z_range := He.free_ok X G (c.fact 47 (f := .free "range") rfl)
  have z_max := He.free_ok X G (c.fact 48 (f := .free "max") rfl)
  have z_zip := He.free_ok X G (c.fact 49 (f := .free "zip") rfl)
  have z_int := He.free_ok X G (c.fact 50 (f := .free "int") rfl)
  have z_len := He.free_ok X G (c.fact 51 (f := .free "len") rfl)
  have z_abs := He.free_ok X G (c.fact 52 (f := .free "abs") rfl)
  have z_isinstance := He.free_ok X G (c.fact 53 (f := .free "isinstance") rfl)
  have z_bool := He.free_ok X G (c.fact 54 (f := .free "bool") rfl)
  have z_all := He.free_ok X G (c.fact 55 (f := .free "all") rfl)
  have z_min := He.free_ok X G (c.fact 56 (f := .free "min") rfl)
  have g_gcd := blt_ok X G (c.more 0 (f := .blt "gcd" "math.gcd") rfl)
  have g_lcm := blt_ok X G (c.more 1 (f := .blt "lcm" "math.lcm") rfl)
  have k_ONE := con_ok X G (c.more 2 (f := .con "ONE" q_ONE) rfl)
  have e := hfa.symm.trans (He.glo_ok X G (c.fact 43 (f := .glo "law") rfl))
  cases e
  refine ⟨fd_law, fun s v => FunD.bindsA (ps := ["script"]) F_law (fun _ _ _ _ _ _ us hl => match us, hl with | [_], _ => rfl) s [v] rfl, fun base _ _ => ?_⟩
  have c_ratio := (ok_ratio (P := P) (w := w) (base := base) F_ratio gx_ratio g_gcd z_ZeroDivisionError).le le_ratio
  have c_minus := (ok_minus (P := P) (w := w) (base := base) F_minus gx_minus c_ratio).le le_minus
  have c_over := (ok_over (P := P) (w := w) (base := base) F_over gx_over c_ratio).le le_over
  have c_is_below := (ok_is_below (P := P) (w := w) (base := base) F_is_below gx_is_below ).le le_is_below
  have c_chances := (ok_chances (P := P) (w := w) (base := base) F_chances gx_chances c_ratio z_sum z_tuple).le le_chances
  have c_reduced := (ok_reduced (P := P) (w := w) (base := base) F_reduced gx_reduced g_gcd z_tuple).le le_reduced
  have c_lowest := (ok_lowest (P := P) (w := w) (base := base) F_lowest gx_lowest c_reduced g_lcm).le le_lowest
  have c_powers := (ok_powers (P := P) (w := w) (base := base) F_powers gx_powers z_range z_tuple).le le_powers
  have c_scaled_powers := (ok_scaled_powers (P := P) (w := w) (base := base) F_scaled_powers gx_scaled_powers c_powers z_range z_tuple).le le_scaled_powers
  have c_choice_weights := (ok_choice_weights (P := P) (w := w) (base := base) F_choice_weights gx_choice_weights c_scaled_powers z_max).le le_choice_weights
  have c_choice_row := (ok_choice_row (P := P) (w := w) (base := base) F_choice_row gx_choice_row c_reduced c_choice_weights).le le_choice_row
  have c_factor_of := (ok_factor_of (P := P) (w := w) (base := base) F_factor_of gx_factor_of c_over).le le_factor_of
  have c_greater_loss := (ok_greater_loss (P := P) (w := w) (base := base) F_greater_loss gx_greater_loss c_is_below).le le_greater_loss
  have c_row_loss := (ok_row_loss (P := P) (w := w) (base := base) F_row_loss gx_row_loss c_chances c_greater_loss c_factor_of k_ONE z_zip).le le_row_loss
  have c_rows_loss := (ok_rows_loss (P := P) (w := w) (base := base) F_rows_loss gx_rows_loss c_greater_loss c_row_loss k_ONE).le le_rows_loss
  have c_other_share := (ok_other_share (P := P) (w := w) (base := base) F_other_share gx_other_share c_over c_minus k_ONE).le le_other_share
  have c_spin_chances := (ok_spin_chances (P := P) (w := w) (base := base) F_spin_chances gx_spin_chances c_ratio c_other_share z_range z_tuple).le le_spin_chances
  have c_spin_row := (ok_spin_row (P := P) (w := w) (base := base) F_spin_row gx_spin_row c_lowest c_spin_chances).le le_spin_row
  have c_spin_rows := (ok_spin_rows (P := P) (w := w) (base := base) F_spin_rows gx_spin_rows c_spin_row z_range z_tuple).le le_spin_rows
  have c__law_begin := (ok__law_begin (P := P) (w := w) (base := base) F__law_begin gx__law_begin z_int).le le__law_begin
  have c__law_draw := (ok__law_draw (P := P) (w := w) (base := base) F__law_draw gx__law_draw z_int z_len z_abs).le le__law_draw
  have c__law_is_int := (ok__law_is_int (P := P) (w := w) (base := base) F__law_is_int gx__law_is_int z_int z_isinstance z_bool).le le__law_is_int
  have c__law_is_ints := (ok__law_is_ints (P := P) (w := w) (base := base) F__law_is_ints gx__law_is_ints c__law_is_int z_tuple z_isinstance z_all).le le__law_is_ints
  have c__law_gcd := (ok__law_gcd (P := P) (w := w) (base := base) F__law_gcd gx__law_gcd z_abs z_int).le le__law_gcd
  have c__law_f := (ok__law_f (P := P) (w := w) (base := base) F__law_f gx__law_f c__law_gcd).le le__law_f
  have c__law_less := (ok__law_less (P := P) (w := w) (base := base) F__law_less gx__law_less ).le le__law_less
  have c__law_great := (ok__law_great (P := P) (w := w) (base := base) F__law_great gx__law_great c__law_less).le le__law_great
  have c__law_is_frac := (ok__law_is_frac (P := P) (w := w) (base := base) F__law_is_frac gx__law_is_frac c__law_is_int c__law_gcd z_tuple z_isinstance z_len).le le__law_is_frac
  have c__law_is_ratio := (ok__law_is_ratio (P := P) (w := w) (base := base) F__law_is_ratio gx__law_is_ratio c__law_is_frac).le le__law_is_ratio
  have c__law_powers := (ok__law_powers (P := P) (w := w) (base := base) F__law_powers gx__law_powers z_range).le le__law_powers
  have c__law_part := (ok__law_part (P := P) (w := w) (base := base) F__law_part gx__law_part c__law_draw).le le__law_part
  have c__law_base := (ok__law_base (P := P) (w := w) (base := base) F__law_base gx__law_base c__law_draw).le le__law_base
  have c__law_is_lowest := (ok__law_is_lowest (P := P) (w := w) (base := base) F__law_is_lowest gx__law_is_lowest c__law_is_ints c__law_gcd z_len).le le__law_is_lowest
  have c__law_is_loss := (ok__law_is_loss (P := P) (w := w) (base := base) F__law_is_loss gx__law_is_loss c__law_is_ratio).le le__law_is_loss
  have c__law_is_spin := (ok__law_is_spin (P := P) (w := w) (base := base) F__law_is_spin gx__law_is_spin c__law_is_lowest z_tuple z_isinstance z_len z_range z_sum).le le__law_is_spin
  have c__law_spin_loss := (ok__law_spin_loss (P := P) (w := w) (base := base) F__law_spin_loss gx__law_spin_loss c__law_great c__law_f).le le__law_spin_loss
  have c__law_are_spins := (ok__law_are_spins (P := P) (w := w) (base := base) F__law_are_spins gx__law_are_spins c__law_draw c__law_part c_spin_rows c__law_is_spin c__law_spin_loss c__law_is_loss c_row_loss c__law_great c_rows_loss z_range z_tuple).le le__law_are_spins
  have c__law_is_choice := (ok__law_is_choice (P := P) (w := w) (base := base) F__law_is_choice gx__law_is_choice c__law_is_lowest c__law_powers z_len z_range).le le__law_is_choice
  have c__law_bent_worths := (ok__law_bent_worths (P := P) (w := w) (base := base) F__law_bent_worths gx__law_bent_worths c__law_draw z_min z_max z_tuple).le le__law_bent_worths
  have c__law_own_loss := (ok__law_own_loss (P := P) (w := w) (base := base) F__law_own_loss gx__law_own_loss c__law_f z_sum z_zip).le le__law_own_loss
  have c__law_is_at_most := (ok__law_is_at_most (P := P) (w := w) (base := base) F__law_is_at_most gx__law_is_at_most c__law_powers).le le__law_is_at_most
  have c__law_are_choices := (ok__law_are_choices (P := P) (w := w) (base := base) F__law_are_choices gx__law_are_choices c__law_draw c__law_base c_choice_row c__law_bent_worths c__law_is_choice c_row_loss c__law_is_loss c__law_own_loss c__law_is_at_most z_range z_tuple z_zip z_abs z_max z_min).le le__law_are_choices
  have c__law_is_one_better := (ok__law_is_one_better (P := P) (w := w) (base := base) F__law_is_one_better gx__law_is_one_better c__law_draw c_choice_row c_spin_rows c__law_is_choice c__law_is_spin z_range z_int z_tuple).le le__law_is_one_better
  exact (ok_law (P := P) (w := w) (base := base) F_law c__law_begin c__law_are_spins c__law_are_choices c__law_is_one_better).le le_law
end K25
open PySem PySem.W PySem.Calls PyProof.Rows
set_option maxHeartbeats 0 in
theorem PySem.Challenge.cw_closedratios_k25_spins_and_choices_holds : PySem.Challenge.rw_closedratios_k25_spins_and_choices.Holds := by
  w_on; o_law
  refine HandSHeadRun.head_imp (r := OpenLaw.row PySem.Challenge.rw_closedratios_k25_spins_and_choices) (q := view (OpenLaw.row PySem.Challenge.rw_closedratios_k25_spins_and_choices).prog [0, 52]) (H := K25.hk) (ob := K25.ob) (M := 6000) (loose := K25.nms) (d := HandSHeadRun.topDef (OpenLaw.row PySem.Challenge.rw_closedratios_k25_spins_and_choices).prog 52) (kwd := []) K25.ob_eq
    K25.run (by kernel_rfl) (by kernel_rfl) (by kernel_rfl) (by rfl) (by first | assumption | decide +kernel) (by decide +kernel) ⟨rfl, rfl, rfl, rfl, rfl, by decide +kernel⟩ ?hw ?hc
  case hw => w_witness2
  case hc =>
    refine L2.walk_ofE (l := PySem.Challenge.rw_closedratios_k25_spins_and_choices) (n := 63) (k := 8) (x := "script") (CX := L2.CX0) rfl (by decide) (by kernel_rfl) ⟨rfl, by decide, by decide⟩ ?F (fun _ _ _ _ z => z)
    intro w mg fa h Y G hmg0
    obtain ⟨K, KX, c⟩ := Y
    have hmg : mg ("law" : PySem.Str) = some (.ref fa) := by
      have e : (HandSHeadRun.topDef (OpenLaw.row PySem.Challenge.rw_closedratios_k25_spins_and_choices).prog 52).name = ("law" : PySem.Str) := by kernel_rfl
      rw [← e]
      exact hmg0
    obtain ⟨fd, hb, hF⟩ := K25.facts (P := (PySem.Challenge.rw_closedratios_k25_spins_and_choices).prog) (w := w) KX G hmg c
    exact ⟨K, fd, (fun vs H Q _ => HM.spM K 1 K25.f_law vs H Q fun _ _ _ => False), KX, hb, fun H a ns hl ho hS => HM.law_sp (n := 63) K25.law_holds H a ns hl ho hS, fun base h1 h2 => (hF base h1 h2).shut⟩
