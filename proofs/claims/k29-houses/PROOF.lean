import PyProof.Rows.All
import Wide.All
import OpenK.AllK
import Wide.FinOn
import HandS.ForMost
import HandS.ForExc
import HandS.Wide
import HandS.Gcd
import HandS.Flow
import HandS.IsInst
import HandS.Conv
import HandS.TupAny
import HandS.Zip
import HandS.CallSlots
import HandS.TupLe
import HandS.ExcBuiltin
import HandS.TryOnly
import HandS.Defaults
import HandS.HeadEnd
import HandS.HeadHook1
import HandS.HeadHook2
import KE.KStateDown
import Lean
import HandS.Head0
import HandS.Head1
import HandS.Head2
import HandS.Head3
import HandS.More
import HandS.Deep
import HandS.Text
import KE.KTupSum
import KE.KMathGC
import HandS.Codes
import HandS.TupMul
import PySem.Challenge.RW_closedratios_k29_houses_judged
set_option Elab.async false
set_option linter.all false
set_option maxRecDepth 100000
set_option maxHeartbeats 4000000
/-! HM: a layer of values over the hand layer. Part 1: values, stores, judgements. -/
namespace HM
open PySem PySem.Spec PyProof.Rows L2

/-! ### values -/
inductive D where
  | non | bl (b : Bool) | int (i : Int) | str (x : List Nat) | tup (xs : List D) | ref (n : Nat) | ty (n : String) | adr (a : Addr) | rol (xs : List D)
mutual
def D.dec : (a b : D) → Decidable (a = b)
  | .non, .non => Decidable.isTrue rfl
  | .bl a, .bl b => if h : a = b then Decidable.isTrue (h ▸ rfl) else Decidable.isFalse (fun e => h (D.bl.inj e))
  | .int a, .int b => if h : a = b then Decidable.isTrue (h ▸ rfl) else Decidable.isFalse (fun e => h (D.int.inj e))
  | .str a, .str b => if h : a = b then Decidable.isTrue (h ▸ rfl) else Decidable.isFalse (fun e => h (D.str.inj e))
  | .ref a, .ref b => if h : a = b then Decidable.isTrue (h ▸ rfl) else Decidable.isFalse (fun e => h (D.ref.inj e))
  | .ty a, .ty b => if h : a = b then Decidable.isTrue (h ▸ rfl) else Decidable.isFalse (fun e => h (D.ty.inj e))
  | .adr a, .adr b => if h : a = b then Decidable.isTrue (h ▸ rfl) else Decidable.isFalse (fun e => h (D.adr.inj e))
  | .tup a, .tup b => match D.decAll a b with
    | .isTrue h => Decidable.isTrue (h ▸ rfl)
    | .isFalse h => Decidable.isFalse (fun e => h (D.tup.inj e))
  | .rol a, .rol b => match D.decAll a b with
    | .isTrue h => Decidable.isTrue (h ▸ rfl)
    | .isFalse h => Decidable.isFalse (fun e => h (D.rol.inj e))
  | .non, .bl _ | .non, .int _ | .non, .str _ | .non, .tup _ | .non, .ref _ | .non, .ty _ | .non, .adr _ | .non, .rol _ => Decidable.isFalse nofun
  | .bl _, .non | .bl _, .int _ | .bl _, .str _ | .bl _, .tup _ | .bl _, .ref _ | .bl _, .ty _ | .bl _, .adr _ | .bl _, .rol _ => Decidable.isFalse nofun
  | .int _, .non | .int _, .bl _ | .int _, .str _ | .int _, .tup _ | .int _, .ref _ | .int _, .ty _ | .int _, .adr _ | .int _, .rol _ => Decidable.isFalse nofun
  | .str _, .non | .str _, .bl _ | .str _, .int _ | .str _, .tup _ | .str _, .ref _ | .str _, .ty _ | .str _, .adr _ | .str _, .rol _ => Decidable.isFalse nofun
  | .tup _, .non | .tup _, .bl _ | .tup _, .int _ | .tup _, .str _ | .tup _, .ref _ | .tup _, .ty _ | .tup _, .adr _ | .tup _, .rol _ => Decidable.isFalse nofun
  | .ref _, .non | .ref _, .bl _ | .ref _, .int _ | .ref _, .str _ | .ref _, .tup _ | .ref _, .ty _ | .ref _, .adr _ | .ref _, .rol _ => Decidable.isFalse nofun
  | .ty _, .non | .ty _, .bl _ | .ty _, .int _ | .ty _, .str _ | .ty _, .tup _ | .ty _, .ref _ | .ty _, .adr _ | .ty _, .rol _ => Decidable.isFalse nofun
  | .rol _, .non | .rol _, .bl _ | .rol _, .int _ | .rol _, .str _ | .rol _, .tup _ | .rol _, .ref _ | .rol _, .ty _ | .rol _, .adr _ => Decidable.isFalse nofun
  | .adr _, .non | .adr _, .bl _ | .adr _, .int _ | .adr _, .str _ | .adr _, .tup _ | .adr _, .ref _ | .adr _, .ty _ | .adr _, .rol _ => Decidable.isFalse nofun
def D.decAll : (a b : List D) → Decidable (a = b)
  | [], [] => Decidable.isTrue rfl
  | [], _ :: _ => Decidable.isFalse nofun
  | _ :: _, [] => Decidable.isFalse nofun
  | x :: xs, y :: ys => match D.dec x y with
    | .isFalse h => Decidable.isFalse (fun e => h (List.cons.inj e).1)
    | .isTrue h => match D.decAll xs ys with
      | .isTrue h2 => Decidable.isTrue (by rw [h, h2])
      | .isFalse h2 => Decidable.isFalse (fun e => h2 (List.cons.inj e).2)
end
instance : DecidableEq D := D.dec
instance : Inhabited D := ⟨.non⟩
/-- what stands in a cell of the store -/
inductive Cell where
  | lst (xs : List D)
  deriving DecidableEq, Inhabited
abbrev Store := List Cell
abbrev Sl := List (Option D)
/-- an exception: its class, its fields -/
structure Xc where
  cls : D
  fs : List (Str × D) := []
/-- what an evaluation gives -/
inductive ER (α : Type) where
  | ok (a : α) (st : Store) | exc (x : Xc) (st : Store) | bad
def ER.bind {α β : Type} (r : ER α) (k : α → Store → ER β) : ER β := match r with
  | .ok a st => k a st
  | .exc x st => .exc x st
  | .bad => .bad
@[simp] theorem ER.bind_ok {α β : Type} (a : α) (st : Store) (k : α → Store → ER β) : (ER.ok a st).bind k = k a st := rfl
@[simp] theorem ER.bind_exc {α β : Type} (x : Xc) (st : Store) (k : α → Store → ER β) : (ER.exc x st : ER α).bind k = .exc x st := rfl
@[simp] theorem ER.bind_bad {α β : Type} (k : α → Store → ER β) : (ER.bad : ER α).bind k = .bad := rfl
/-- what a statement gives -/
inductive SR where
  | nx (τ : Sl) (st : Store) | bk (τ : Sl) (st : Store) | ct (τ : Sl) (st : Store) | rt (d : D) (st : Store) | exc (x : Xc) (τ : Sl) (st : Store) | bad
abbrev EM (α : Type) := Sl → Store → ER α
abbrev SM := Sl → Store → SR

/-! ### how values stand for those of the layer -/
/-- a list that nobody writes -/
def FzL (K : PySem.W.Frag) (H : Hp) (a : Addr) (xs : List V) : Prop :=
  (∃ o, H a = some (.frz o (.lst xs))) ∨
    ∃ (o : Obj) (its : Array Value) (n : Nat), K.lookup a = some o ∧ o.cls = .type "list" ∧ o.dict = none ∧ o.data = .seq its n ∧ its.size ≤ sizeLine ∧ Vals xs its.toList
theorem FzL.sq {K : PySem.W.Frag} {H : Hp} {a : Addr} {xs : List V} (h : FzL K H a xs) : SqL K H a xs := by
  rcases h with ⟨o, h⟩ | h
  · exact .inl (.inr ⟨o, h⟩)
  · exact .inr h
theorem FzL.of {K : PySem.W.Frag} {H : Hp} {a : Addr} {xs : List V} (h : SqL K H a xs) (n : ∀ ys, H a ≠ some (.lst ys)) : FzL K H a xs := by
  rcases h with (h | h) | h
  · exact absurd h (n xs)
  · exact .inl h
  · exact .inr h
theorem FzL.new {K : PySem.W.Frag} {H : Hp} {p : Addr} {o : HO} (h : H p = none) {a : Addr} {vs : List V} (s : FzL K H a vs) : FzL K (upd H p o) a vs := by
  rcases s with ⟨ob, s⟩ | s
  · exact .inl ⟨ob, by rw [upd_ne (ne_of_none s h)]; exact s⟩
  · exact .inr s
mutual
inductive RD (K : PySem.W.Frag) (m : List Addr) (H : Hp) : D → V → Prop
  | non : RD K m H .non .non
  | bl (b : Bool) : RD K m H (.bl b) (.bl b)
  | int (i : Int) : RD K m H (.int i) (.int i)
  | str (x : List Nat) : RD K m H (.str x) (.str ⟨x.toArray⟩)
  | ty (n : String) : RD K m H (.ty n) (.ty n)
  | adr (a : Addr) : RD K m H (.adr a) (.ref a)
  | tup {a : Addr} {vs : List V} {ds : List D} : SqT K H a vs → RDs K m H ds vs → RD K m H (.tup ds) (.ref a)
  | rol {a : Addr} {vs : List V} {ds : List D} : FzL K H a vs → RDs K m H ds vs → RD K m H (.rol ds) (.ref a)
  | ref {n : Nat} {a : Addr} : m[n]? = some a → RD K m H (.ref n) (.ref a)
inductive RDs (K : PySem.W.Frag) (m : List Addr) (H : Hp) : List D → List V → Prop
  | nil : RDs K m H [] []
  | cons {d : D} {v : V} {ds : List D} {vs : List V} : RD K m H d v → RDs K m H ds vs → RDs K m H (d :: ds) (v :: vs)
end
/-- what values lean on is kept -/
structure Kp (K : PySem.W.Frag) (m : List Addr) (H : Hp) (m' : List Addr) (H' : Hp) : Prop where
  pre : ∀ (n : Nat) (a : Addr), m[n]? = some a → m'[n]? = some a
  tup : ∀ (a : Addr) (vs : List V), SqT K H a vs → SqT K H' a vs
  fzl : ∀ (a : Addr) (vs : List V), FzL K H a vs → FzL K H' a vs
/-- all that was is kept, but what the store may change -/
structure Ext (K : PySem.W.Frag) (m : List Addr) (H : Hp) (m' : List Addr) (H' : Hp) : Prop extends Kp K m H m' H' where
  frm : ∀ (a : Addr) (o : HO), a ∉ m → H a = some o → H' a = some o
  new : ∀ a : Addr, a ∈ m' → a ∉ m → H a = none
section
variable {K : PySem.W.Frag} {m m1 m2 m' : List Addr} {H H1 H2 H' : Hp}
theorem Ext.refl : Ext K m H m H := ⟨⟨fun _ _ h => h, fun _ _ h => h, fun _ _ h => h⟩, fun _ _ _ h => h, fun _ h n => absurd h n⟩
theorem Ext.mem (e : Ext K m H m1 H1) {a : Addr} (h : a ∈ m) : a ∈ m1 := by
  obtain ⟨n, q⟩ := List.getElem?_of_mem h
  exact List.mem_of_getElem? (e.pre n a q)
theorem Ext.trans (e : Ext K m H m1 H1) (f : Ext K m1 H1 m2 H2) : Ext K m H m2 H2 where
  pre := fun n a h => f.pre n a (e.pre n a h)
  tup := fun a vs h => f.tup a vs (e.tup a vs h)
  fzl := fun a vs h => f.fzl a vs (e.fzl a vs h)
  frm := fun a o n h => by
    refine f.frm a o (fun q => ?_) (e.frm a o n h)
    rw [e.new a q n] at h
    cases h
  new := fun a h n => by
    by_cases q : a ∈ m1
    · exact e.new a q n
    · have z := f.new a h q
      cases r : H a with
      | none => rfl
      | some o =>
        rw [e.frm a o n r] at z
        cases z
mutual
theorem RD.kp (e : Kp K m H m' H') : ∀ {d : D} {v : V}, RD K m H d v → RD K m' H' d v
  | _, _, .non => .non
  | _, _, .bl b => .bl b
  | _, _, .int i => .int i
  | _, _, .str x => .str x
  | _, _, .ty n => .ty n
  | _, _, .adr a => .adr a
  | _, _, .tup h r => .tup (e.tup _ _ h) (RDs.kp e r)
  | _, _, .rol h r => .rol (e.fzl _ _ h) (RDs.kp e r)
  | _, _, .ref h => .ref (e.pre _ _ h)
theorem RDs.kp (e : Kp K m H m' H') : ∀ {ds : List D} {vs : List V}, RDs K m H ds vs → RDs K m' H' ds vs
  | _, _, .nil => .nil
  | _, _, .cons h r => .cons (RD.kp e h) (RDs.kp e r)
end
theorem RD.mono (e : Ext K m H m' H') {d : D} {v : V} (r : RD K m H d v) : RD K m' H' d v := r.kp e.toKp
theorem RDs.mono (e : Ext K m H m' H') {ds : List D} {vs : List V} (r : RDs K m H ds vs) : RDs K m' H' ds vs := r.kp e.toKp
theorem RDs.len : ∀ {ds : List D} {vs : List V}, RDs K m H ds vs → ds.length = vs.length
  | _, _, .nil => rfl
  | _, _, .cons _ r => congrArg (· + 1) r.len
theorem RDs.get : ∀ {ds : List D} {vs : List V} {i : Nat} {d : D}, RDs K m H ds vs → ds[i]? = some d → ∃ v, vs[i]? = some v ∧ RD K m H d v
  | _, _, _, _, .nil, e => by simp at e
  | _, _, 0, _, .cons h _, e => by
    simp at e
    subst e
    exact ⟨_, rfl, h⟩
  | _, _, i + 1, d, .cons _ r, e => by
    obtain ⟨v, h1, h2⟩ := RDs.get (i := i) (d := d) r (by simpa using e)
    exact ⟨v, by simpa using h1, h2⟩
theorem RDs.append : ∀ {ds es : List D} {vs us : List V}, RDs K m H ds vs → RDs K m H es us → RDs K m H (ds ++ es) (vs ++ us)
  | _, _, _, _, .nil, s => s
  | _, _, _, _, .cons h r, s => .cons h (RDs.append r s)
theorem RDs.take : ∀ {ds : List D} {vs : List V} (n : Nat), RDs K m H ds vs → RDs K m H (ds.take n) (vs.take n)
  | _, _, 0, _ => .nil
  | _, _, _ + 1, .nil => .nil
  | _, _, n + 1, .cons h r => .cons h (RDs.take n r)
theorem RDs.drop : ∀ {ds : List D} {vs : List V} (n : Nat), RDs K m H ds vs → RDs K m H (ds.drop n) (vs.drop n)
  | _, _, 0, r => r
  | _, _, _ + 1, .nil => .nil
  | _, _, n + 1, .cons _ r => RDs.drop n r
theorem RDs.set {d : D} {v : V} (h : RD K m H d v) : ∀ {ds : List D} {vs : List V} (i : Nat), RDs K m H ds vs → RDs K m H (ds.set i d) (vs.set i v)
  | _, _, _, .nil => .nil
  | _, _, 0, .cons _ r => .cons h r
  | _, _, i + 1, .cons g r => .cons g (RDs.set h i r)
theorem RDs.erase : ∀ {ds : List D} {vs : List V} (i : Nat), RDs K m H ds vs → RDs K m H (ds.eraseIdx i) (vs.eraseIdx i)
  | _, _, _, .nil => .nil
  | _, _, 0, .cons _ r => r
  | _, _, i + 1, .cons g r => .cons g (RDs.erase i r)
theorem RDs.dropLast {ds : List D} {vs : List V} (r : RDs K m H ds vs) : RDs K m H ds.dropLast vs.dropLast := by
  rw [List.dropLast_eq_take, List.dropLast_eq_take, r.len]
  exact r.take _
theorem RDs.one {d : D} {vs : List V} (r : RDs K m H [d] vs) : ∃ v, vs = [v] ∧ RD K m H d v := by
  cases r with
  | cons h r =>
    cases r
    exact ⟨_, rfl, h⟩
theorem RDs.two {d e : D} {vs : List V} (r : RDs K m H [d, e] vs) : ∃ v u, vs = [v, u] ∧ RD K m H d v ∧ RD K m H e u := by
  cases r with
  | cons h r =>
    obtain ⟨u, rfl, h2⟩ := r.one
    exact ⟨_, _, rfl, h, h2⟩
theorem RDs.reverse {ds : List D} {vs : List V} (r : RDs K m H ds vs) : RDs K m H ds.reverse vs.reverse := by
  induction ds generalizing vs with
  | nil =>
    cases r
    exact .nil
  | cons d ds ih =>
    cases r with
    | cons h r =>
      rw [List.reverse_cons, List.reverse_cons]
      exact (ih r).append (.cons h .nil)
theorem RDs.ints : ∀ (ns : List Int), RDs K m H (ns.map D.int) (ns.map V.int)
  | [] => .nil
  | n :: r => .cons (.int n) (RDs.ints r)
/-- a cell and what stands at its address -/
def RC (K : PySem.W.Frag) (m : List Addr) (H : Hp) (a : Addr) : Cell → Prop
  | .lst ds => ∃ vs, H a = some (.lst vs) ∧ RDs K m H ds vs
structure SS (K : PySem.W.Frag) (m : List Addr) (st : Store) (H : Hp) : Prop where
  len : m.length = st.length
  nd : m.Nodup
  cel : ∀ (n : Nat) (c : Cell) (a : Addr), st[n]? = some c → m[n]? = some a → RC K m H a c
/-- the slots -/
structure SL (K : PySem.W.Frag) (m : List Addr) (H : Hp) (τ : Sl) (σ : L2.St) : Prop where
  len : τ.length = σ.length
  get : ∀ (i : Nat) (d : D), τ[i]? = some (some d) → ∃ v, σ[i]? = some (some v) ∧ RD K m H d v
theorem SL.mono {τ : Sl} {σ : L2.St} (s : SL K m H τ σ) (e : Ext K m H m' H') : SL K m' H' τ σ :=
  ⟨s.len, fun i d h => let ⟨v, h1, h2⟩ := s.get i d h; ⟨v, h1, h2.mono e⟩⟩
theorem SL.set {τ : Sl} {σ : L2.St} {d : D} {v : V} (s : SL K m H τ σ) (i : Nat) (r : RD K m H d v) : SL K m H (τ.set i (some d)) (σ.set i (some v)) := by
  refine ⟨by simpa using s.len, fun j e h => ?_⟩
  by_cases hj : i = j
  · subst hj
    by_cases hl : i < τ.length
    · rw [List.getElem?_set_self hl] at h
      simp only [Option.some.injEq] at h
      subst h
      exact ⟨v, by rw [List.getElem?_set_self (by rw [← s.len]; exact hl)], r⟩
    · rw [List.getElem?_eq_none (by simpa using hl)] at h
      cases h
  · rw [List.getElem?_set_ne hj] at h
    rw [List.getElem?_set_ne hj]
    exact s.get j e h
theorem SS.at {st : Store} {n : Nat} {c : Cell} (s : SS K m st H) (h : st[n]? = some c) : ∃ a, m[n]? = some a ∧ RC K m H a c := by
  have hl : n < m.length := by
    rw [s.len]
    exact (List.getElem?_eq_some_iff.mp h).1
  exact ⟨m[n], by simp, s.cel n c _ h (by simp)⟩
theorem sqT_new {p : Addr} {o : HO} (h : H p = none) {a : Addr} {vs : List V} (s : SqT K H a vs) : SqT K (upd H p o) a vs := by
  rcases s with (s | ⟨ob, s⟩) | s
  · exact .inl (.inl (by rw [upd_ne (ne_of_none s h)]; exact s))
  · exact .inl (.inr ⟨ob, by rw [upd_ne (ne_of_none s h)]; exact s⟩)
  · exact .inr s
theorem sqL_new {p : Addr} {o : HO} (h : H p = none) {a : Addr} {vs : List V} (s : SqL K H a vs) : SqL K (upd H p o) a vs := by
  rcases s with (s | ⟨ob, s⟩) | s
  · exact .inl (.inl (by rw [upd_ne (ne_of_none s h)]; exact s))
  · exact .inl (.inr ⟨ob, by rw [upd_ne (ne_of_none s h)]; exact s⟩)
  · exact .inr s
theorem sqL_ne {p a : Addr} {o : HO} {vs : List V} (h : a ≠ p) (s : SqL K H a vs) : SqL K (upd H p o) a vs := by
  rcases s with (s | ⟨ob, s⟩) | s
  · exact .inl (.inl (by rw [upd_ne h]; exact s))
  · exact .inl (.inr ⟨ob, by rw [upd_ne h]; exact s⟩)
  · exact .inr s
theorem RC.here {a : Addr} {c : Cell} (r : RC K m H a c) : ∃ o, H a = some o := by
  cases c with
  | lst ds =>
    obtain ⟨vs, h, _⟩ := r
    exact ⟨_, h⟩
/-- a new object that the store does not hold -/
theorem Ext.fresh {p : Addr} {o : HO} (h : H p = none) : Ext K m H m (upd H p o) :=
  ⟨⟨fun _ _ h => h, fun _ _ s => sqT_new h s, fun _ _ s => s.new h⟩, fun a ob _ q => by rw [upd_ne (ne_of_none q h)]; exact q, fun _ q n => absurd q n⟩
theorem RC.fresh {p a : Addr} {o : HO} {c : Cell} (h : H p = none) (r : RC K m H a c) : RC K m (upd H p o) a c := by
  cases c with
  | lst ds =>
    obtain ⟨vs, q, r⟩ := r
    exact ⟨vs, by rw [upd_ne (ne_of_none q h)]; exact q, r.mono (Ext.fresh h)⟩
theorem SS.fresh {p : Addr} {o : HO} {st : Store} (s : SS K m st H) (h : H p = none) : SS K m st (upd H p o) :=
  ⟨s.len, s.nd, fun n c a h1 h2 => (s.cel n c a h1 h2).fresh h⟩
/-- a new object of the store's -/
theorem Ext.app {p : Addr} {o : HO} (h : H p = none) : Ext K m H (m ++ [p]) (upd H p o) where
  pre := fun n a q => by
    rw [List.getElem?_append_left (List.getElem?_eq_some_iff.mp q).1]
    exact q
  tup := fun _ _ s => sqT_new h s
  fzl := fun _ _ s => s.new h
  frm := fun a ob _ q => by rw [upd_ne (ne_of_none q h)]; exact q
  new := fun a q n => by
    rcases List.mem_append.mp q with q | q
    · exact absurd q n
    · have e : a = p := by simpa using q
      rw [e]
      exact h
theorem Ext.grow {p : Addr} : (H p = none) → Ext K m H (m ++ [p]) H := fun h => {
  pre := fun n a q => by
    rw [List.getElem?_append_left (List.getElem?_eq_some_iff.mp q).1]
    exact q
  tup := fun _ _ s => s
  fzl := fun _ _ s => s
  frm := fun a ob _ q => q
  new := fun a q n => by
    rcases List.mem_append.mp q with q | q
    · exact absurd q n
    · have e : a = p := by simpa using q
      rw [e]
      exact h }
theorem RC.kp {a : Addr} {c : Cell} (r : RC K m H a c) (e : Kp K m H m' H') (h : ∀ o, H a = some o → H' a = some o) : RC K m' H' a c := by
  cases c with
  | lst ds =>
    obtain ⟨vs, q, r⟩ := r
    exact ⟨vs, h _ q, r.kp e⟩
theorem Kp.grow {p : Addr} : Kp K m H (m ++ [p]) H := ⟨fun n a q => by
    rw [List.getElem?_append_left (List.getElem?_eq_some_iff.mp q).1]
    exact q, fun _ _ s => s, fun _ _ s => s⟩
/-- an object that is there becomes the store's -/
theorem SS.grow {p : Addr} {c : Cell} {st : Store} (s : SS K m st H) (hp : p ∉ m) (r : RC K (m ++ [p]) H p c) : SS K (m ++ [p]) (st ++ [c]) H where
  len := by simp [s.len]
  nd := by
    rw [List.nodup_append]
    refine ⟨s.nd, by simp, fun a h1 b h2 e => ?_⟩
    have e2 : b = p := by simpa using h2
    rw [e, e2] at h1
    exact hp h1
  cel := fun n d a h1 h2 => by
    by_cases hn : n < st.length
    · rw [List.getElem?_append_left hn] at h1
      rw [List.getElem?_append_left (by rw [s.len]; exact hn)] at h2
      exact (s.cel n d a h1 h2).kp Kp.grow fun _ q => q
    · have hl : n < (st ++ [c]).length := (List.getElem?_eq_some_iff.mp h1).1
      have e : n = st.length := by
        rw [List.length_append, List.length_singleton] at hl
        omega
      subst e
      have e1 : c = d := by simpa using h1
      have e2 : p = a := by
        rw [← s.len] at h2
        simpa using h2
      rw [← e1, ← e2]
      exact r
theorem SS.notin {st : Store} {p : Addr} (s : SS K m st H) (h : H p = none) : p ∉ m := fun q => by
  obtain ⟨n, e⟩ := List.getElem?_of_mem q
  have hl : n < st.length := by
    rw [← s.len]
    exact (List.getElem?_eq_some_iff.mp e).1
  obtain ⟨o, z⟩ := (s.cel n st[n] p (by simp) e).here
  rw [h] at z
  cases z
/-- a list is written -/
theorem Kp.write {p : Addr} {xs : List V} {o : HO} (h : H p = some (.lst xs)) : Kp K m H m (upd H p o) where
  pre := fun _ _ q => q
  tup := fun a vs s => by
    rcases s with (s | ⟨ob, s⟩) | s
    · exact .inl (.inl (by rw [upd_ne (fun e => by rw [e, h] at s; cases s)]; exact s))
    · exact .inl (.inr ⟨ob, by rw [upd_ne (fun e => by rw [e, h] at s; cases s)]; exact s⟩)
    · exact .inr s
  fzl := fun a vs s => by
    rcases s with ⟨ob, s⟩ | s
    · exact .inl ⟨ob, by rw [upd_ne (fun e => by rw [e, h] at s; cases s)]; exact s⟩
    · exact .inr s
/-- a list that is not the store's is written -/
theorem SS.other {st : Store} {p : Addr} {xs : List V} {o : HO} (s : SS K m st H) (h : H p = some (.lst xs)) (hp : p ∉ m) : SS K m st (upd H p o) :=
  ⟨s.len, s.nd, fun n c a h1 h2 => (s.cel n c a h1 h2).kp (Kp.write h) fun ob q => by rw [upd_ne (fun e : a = p => hp (by rw [← e]; exact List.mem_of_getElem? h2))]; exact q⟩
/-- a list of the store's is written -/
theorem Ext.write {n : Nat} {p : Addr} {xs : List V} {o : HO} (h : H p = some (.lst xs)) (hn : m[n]? = some p) : Ext K m H m (upd H p o) :=
  { Kp.write h with
    frm := fun a ob q z => by rw [upd_ne (fun e : a = p => q (by rw [e]; exact List.mem_of_getElem? hn))]; exact z
    new := fun a q n => absurd q n }
theorem SS.write {st : Store} {n : Nat} {p : Addr} {xs ys : List V} {ds : List D} (s : SS K m st H) (h : H p = some (.lst xs)) (hn : m[n]? = some p) (r : RDs K m H ds ys) : SS K m (st.set n (.lst ds)) (upd H p (.lst ys)) where
  len := by rw [List.length_set]; exact s.len
  nd := s.nd
  cel := fun i c a h1 h2 => by
    by_cases hi : n = i
    · subst hi
      rw [hn] at h2
      cases h2
      have hl : n < st.length := by
        rw [← s.len]
        exact (List.getElem?_eq_some_iff.mp hn).1
      rw [List.getElem?_set_self hl] at h1
      cases h1
      exact ⟨ys, upd_same, r.kp (Kp.write h)⟩
    · rw [List.getElem?_set_ne hi] at h1
      refine (s.cel i c a h1 h2).kp (Kp.write h) fun ob q => ?_
      rw [upd_ne fun e => hi ?_]
      · exact q
      · subst e
        obtain ⟨l1, e1⟩ := List.getElem?_eq_some_iff.mp hn
        obtain ⟨l2, e2⟩ := List.getElem?_eq_some_iff.mp h2
        exact (List.getElem_inj s.nd).mp (e1.trans e2.symm)
end
end HM

/-! HM, part 2: what an evaluation promises; expressions. -/
namespace HM
open PySem PySem.Spec PyProof.Rows L2

/-- an exception and how it flies -/
def XR (K : PySem.W.Frag) (m : List Addr) (H : Hp) (x : Xc) (c : Value) (d : Option Addr) : Prop := match x.cls with
  | .ty n => c = .type n ∧ x.fs = []
  | .adr a => c = .ref a ∧ (x.fs = [] ∨ ∃ da vs, d = some da ∧ H da = some (.xd vs) ∧ Paired (fun (p : Str × D) (q : Str × V) => p.1 = q.1 ∧ RD K m H p.2 q.2) x.fs vs)
  | _ => False
/-- behind an evaluation -/
def Pe {α β : Type} (K : PySem.W.Frag) (E : XK) (R : List Addr → Hp → α → β → Prop) (m : List Addr) (H : Hp) (r : ER α) (Q : β → Hp → Prop) : Prop := match r with
  | .ok a st => ∀ m' H' b, Ext K m H m' H' → SS K m' st H' → R m' H' a b → Q b H'
  | .exc x st => ∀ m' H' c d, Ext K m H m' H' → SS K m' st H' → XR K m' H' x c d → E c d H'
  | .bad => False
section
variable {α β γ δ : Type} {K : PySem.W.Frag} {E : XK} {R : List Addr → Hp → α → β → Prop} {S : List Addr → Hp → γ → δ → Prop} {m m1 : List Addr} {H H1 : Hp} {r : ER α} {Q : β → Hp → Prop}
theorem Pe.up (h : Pe K E R m H r Q) (e : Ext K m H m1 H1) : Pe K E R m1 H1 r Q := by
  cases r with
  | ok a st => exact fun m' H' b e' s q => h m' H' b (e.trans e') s q
  | exc x st => exact fun m' H' c d e' s q => h m' H' c d (e.trans e') s q
  | bad => exact h
theorem Pe.bind {k : α → Store → ER γ} {Q' : δ → Hp → Prop} (h : Pe K E S m H (r.bind k) Q')
    (hk : ∀ a st m' H' b, Ext K m H m' H' → SS K m' st H' → R m' H' a b → Pe K E S m' H' (k a st) Q' → Q b H') : Pe K E R m H r Q := by
  cases r with
  | ok a st => exact fun m' H' b e s q => hk a st m' H' b e s q (Pe.up h e)
  | exc x st => exact h
  | bad => exact h
theorem Pe.now {a : α} {st : Store} {b : β} (h : Pe K E R m H (.ok a st) Q) (s : SS K m st H) (q : R m H a b) : Q b H := h m H b .refl s q
theorem Pe.imp {Q' : β → Hp → Prop} (h : Pe K E R m H r Q) (hQ : ∀ b H, Q b H → Q' b H) : Pe K E R m H r Q' := by
  cases r with
  | ok a st => exact fun m' H' b e s q => hQ _ _ (h m' H' b e s q)
  | exc x st => exact h
  | bad => exact h
end
abbrev RB : List Addr → Hp → Bool → Bool → Prop := fun _ _ a b => a = b

/-! ### judgements -/
def wE (X : Cx) (e : Expr) : TE := fun σ H Q => ∀ (pins : List (Addr × Obj)) (s : Shared), Inv X pins σ H s → wpAny (model X.prog X.w) X.A (eval e X.env) (EP X pins σ Q) X.xe s
def wT (X : Cx) (e : Expr) : TT := fun σ H Q => ∀ (pins : List (Addr × Obj)) (s : Shared), Inv X pins σ H s → wpAny (model X.prog X.w) X.A (isTrue e X.env (eval e X.env)) (TP X pins σ Q) X.xe s
def wW (X : Cx) (e : Expr) : TT := fun σ H Q => ∀ (whole : Sem Value) (pins : List (Addr × Obj)) (s : Shared), Inv X pins σ H s → wpAny (model X.prog X.w) X.A (isTrue e X.env whole) (TP X pins σ Q) X.xe s
def wA (X : Cx) (es : List Expr) : TA := fun σ H Q => ∀ (pos : Pos) (pins : List (Addr × Obj)) (s : Shared), Inv X pins σ H s → wpAny (model X.prog X.w) X.A (spliced (backTo pos (starEach es X.env))) (AP X pins σ Q) X.xe s
theorem peW {X : Cx} {e : Expr} : PE X e (wE X e) := ⟨fun pins s σ H Q I h => h pins s I⟩
theorem ptW {X : Cx} {e : Expr} : PT X e (wT X e) := ⟨fun pins s σ H Q I h => h pins s I⟩
theorem pwW {X : Cx} {e : Expr} : PW X e (wW X e) := ⟨fun wh pins s σ H Q I h => h wh pins s I⟩
theorem paW {X : Cx} {es : List Expr} : PA X es (wA X es) := ⟨fun pos pins s σ H Q I h => h pos pins s I⟩
/-- an expression -/
structure Ex (X : Cx) (W : WX) (e : Expr) (f : EM D) : Prop where
  run : ∀ (m : List Addr) (τ : Sl) (st : Store) (σ : L2.St) (H : Hp) (Q : VK), SL X.K m H τ σ → SS X.K m st H → Pe X.K (fun c d H' => W c d σ H') (RD X.K) m H (f τ st) Q → wE X e σ H Q
/-- a test -/
structure Et (X : Cx) (W : WX) (e : Expr) (f : EM Bool) : Prop where
  run : ∀ (m : List Addr) (τ : Sl) (st : Store) (σ : L2.St) (H : Hp) (Q : Bool → Hp → Prop), SL X.K m H τ σ → SS X.K m st H → Pe X.K (fun c d H' => W c d σ H') RB m H (f τ st) Q → wT X e σ H Q
/-- a test whatever its whole is -/
structure Ew (X : Cx) (W : WX) (e : Expr) (f : EM Bool) : Prop where
  run : ∀ (m : List Addr) (τ : Sl) (st : Store) (σ : L2.St) (H : Hp) (Q : Bool → Hp → Prop), SL X.K m H τ σ → SS X.K m st H → Pe X.K (fun c d H' => W c d σ H') RB m H (f τ st) Q → wW X e σ H Q
/-- arguments -/
structure Ea (X : Cx) (W : WX) (es : List Expr) (f : EM (List D)) : Prop where
  run : ∀ (m : List Addr) (τ : Sl) (st : Store) (σ : L2.St) (H : Hp) (Q : List V → Hp → Prop), SL X.K m H τ σ → SS X.K m st H → Pe X.K (fun c d H' => W c d σ H') (RDs X.K) m H (f τ st) Q → wA X es σ H Q
section
variable {X : Cx} {W : WX} {e a b c : Expr} {es rest : List Expr} {pos : Pos} {f fa fb fc : EM D} {fs : EM (List D)} {g : EM Bool}
theorem Ex.le {f' : EM D} (h : Ex X W e f) (hl : ∀ (m : List Addr) (τ : Sl) (st : Store) (H : Hp) (E : XK) (Q : VK), SS X.K m st H → Pe X.K E (RD X.K) m H (f' τ st) Q → Pe X.K E (RD X.K) m H (f τ st) Q) : Ex X W e f' :=
  ⟨fun m τ st σ H Q hL hS hP => h.run m τ st σ H Q hL hS (hl m τ st H _ Q hS hP)⟩

/-! ### names, constants -/
def eVar (i : Nat) : EM D := fun τ st => match τ[i]? with
  | some (some d) => .ok d st
  | _ => .bad
theorem ex_var {i : Nat} {x : Str} (hN : X.N[i]? = some x) (hv : Vis X.env.scope x) (hd : (x == ("__debug__" : Str)) = false := by decide) (hcd : (x == ("__classdict__" : Str)) = false := by decide) : Ex X W (.Name x pos) (eVar i) := by
  refine ⟨fun m τ st σ H Q hL hS hP pins s I => ?_⟩
  refine (pe_var hN hv hd hcd).run pins s σ H Q I ?_
  unfold eVar at hP
  split at hP
  · rename_i d hd
    obtain ⟨v, h1, h2⟩ := hL.get i d hd
    exact ⟨v, h1, hP.now hS h2⟩
  · exact hP.elim
theorem xv (i : Nat) {x : Str} (hN : X.N[i]? = some x := by rfl) (hv : Vis X.env.scope x := by first | exact Or.inl rfl | exact Or.inr (Or.inl rfl) | exact Or.inr (Or.inr rfl)) (hd : (x == ("__debug__" : Str)) = false := by decide)
    (hcd : (x == ("__classdict__" : Str)) = false := by decide) : Ex X W (.Name x pos) (eVar i) := ex_var hN hv hd hcd
def eC (d : D) : EM D := fun _ st => .ok d st
theorem ex_c {t : TE} {d : D} {v : V} (h : PE X e t) (ht : ∀ σ H Q, Q v H → t σ H Q) (r : ∀ m H, RD X.K m H d v) : Ex X W e (eC d) :=
  ⟨fun m τ st σ H Q hL hS hP pins s I => h.run pins s σ H Q I (ht _ _ _ (hP.now hS (r m H)))⟩
theorem ex_int {i j} : Ex X W (.Constant (.int i) j pos) (eC (.int i)) := ex_c pe_int (fun _ _ _ h => h) fun _ _ => .int i
theorem ex_bl {i j} : Ex X W (.Constant (.bool i) j pos) (eC (.bl i)) := ex_c pe_bl (fun _ _ _ h => h) fun _ _ => .bl i
theorem ex_non {j} : Ex X W (.Constant .none j pos) (eC .non) := ex_c pe_non (fun _ _ _ h => h) fun _ _ => .non
theorem ex_str {x : Str} {j} : Ex X W (.Constant (.str x) j pos) (eC (.str x.cps.toList)) := ex_c pe_str (fun _ _ _ h => h) fun _ _ => by
  have e : x = ⟨x.cps.toList.toArray⟩ := by simp
  exact e ▸ .str x.cps.toList
theorem ex_strc {x : Str} {j} (l : List Nat) (h : x.cps.toList = l) : Ex X W (.Constant (.str x) j pos) (eC (.str l)) := by
  subst h
  exact ex_str
/-- a module's constant -/
theorem ex_glob {x : Str} {v : V} {u : Value} {d : D} (hg : Gl X x) (hm : X.mg x = some u) (r : RelV v u) (rd : ∀ m H, RD X.K m H d v) (hd : (x == ("__debug__" : Str)) = false := by decide) : Ex X W (.Name x pos) (eC d) :=
  ex_c (pe_glob hg hm r hd) (fun _ _ _ h => h) rd
theorem ex_bltn {x : Str} {v : V} {u : Value} {d : D} (hg : Gl X x) (hm : X.mg x = none) (hv : bootBuiltins x = some u) (r : RelV v u) (rd : ∀ m H, RD X.K m H d v) (hn : x ≠ "__name__" := by decide) (hd : (x == ("__debug__" : Str)) = false := by decide) : Ex X W (.Name x pos) (eC d) :=
  ex_c (pe_bltn hg hm hv r hn hd) (fun _ _ _ h => h) rd

/-! ### operators -/
abbrev O1 := D → Store → ER D
abbrev O2 := D → D → Store → ER D
/-- a rule by values -/
def OpM (X : Cx) (W : WX) (f : Value → Value → Sem Value) (g : O2) : Prop :=
  ∀ (m : List Addr) (st : Store) (σ : L2.St) (H : Hp) (dx dy : D) (x y : V) (Q : VK), SS X.K m st H → RD X.K m H dx x → RD X.K m H dy y → Pe X.K (fun c d H' => W c d σ H') (RD X.K) m H (g dx dy st) Q →
    ∀ (pins : List (Addr × Obj)) (s : Shared) (v u : Value), Inv X pins σ H s → RelV x v → RelV y u → wpAny (model X.prog X.w) X.A (f v u) (EP X pins σ Q) X.xe s
theorem OpM.opr {F : Value → Value → Sem Value} {g : O2} (h : OpM X W F g) : OpR X F (fun x y H Q => ∀ (pins : List (Addr × Obj)) (s : Shared) (σ : L2.St) (v u : Value), Inv X pins σ H s → RelV x v → RelV y u → wpAny (model X.prog X.w) X.A (F v u) (EP X pins σ Q) X.xe s) :=
  fun pins s σ H x y v u Q I rx ry z => z pins s σ v u I rx ry
def eBin (g : O2) (fa fb : EM D) : EM D := fun τ st => (fa τ st).bind fun x s1 => (fb τ s1).bind fun y s2 => g x y s2
def wR2 (X : Cx) (f : Value → Value → Sem Value) (σ : L2.St) : R2 := fun x y H Q => ∀ (pins : List (Addr × Obj)) (s : Shared) (v u : Value), Inv X pins σ H s → RelV x v → RelV y u → wpAny (model X.prog X.w) X.A (f v u) (EP X pins σ Q) X.xe s
/-- two expressions in a row -/
theorem two {g : D → D → Store → ER α} {α' : Type} {RA : List Addr → Hp → α → α' → Prop} {Q : α' → Hp → Prop} (ha : Ex X W a fa) (hb : Ex X W b fb) {m : List Addr} {τ : Sl} {st : Store} {σ : L2.St} {H : Hp} (hL : SL X.K m H τ σ) (hS : SS X.K m st H)
    (hP : Pe X.K (fun c d H' => W c d σ H') RA m H ((fa τ st).bind fun x s1 => (fb τ s1).bind fun y s2 => g x y s2) Q) {R : V → V → Hp → Prop}
    (hk : ∀ (m2 : List Addr) (st2 : Store) (H2 : Hp) (dx dy : D) (x y : V), Ext X.K m H m2 H2 → SS X.K m2 st2 H2 → RD X.K m2 H2 dx x → RD X.K m2 H2 dy y → Pe X.K (fun c d H' => W c d σ H') RA m2 H2 (g dx dy st2) Q → R x y H2) :
    wE X a σ H fun x H1 => wE X b σ H1 fun y H2 => R x y H2 :=
  ha.run m τ st σ H _ hL hS (hP.bind fun dx s1 m1 H1 x e1 hS1 r1 hP1 => hb.run m1 τ s1 σ H1 _ (hL.mono e1) hS1 (hP1.bind fun dy s2 m2 H2 y e2 hS2 r2 hP2 => hk m2 s2 H2 dx dy x y (e1.trans e2) hS2 (r1.mono e2) r2 hP2))
theorem ex_op {op : Operator} {g : O2} (ho : OpM X W (binaryOp op) g) (ha : Ex X W a fa) (hb : Ex X W b fb) : Ex X W (.BinOp a op b pos) (eBin g fa fb) := by
  refine ⟨fun m τ st σ H Q hL hS hP pins s I => ?_⟩
  refine wpAny_BinOp (binT peW peW I (R := fun x y H2 => wR2 X (binaryOp op) σ x y H2 Q) (two ha hb hL hS hP fun m2 st2 H2 dx dy x y e2 hS2 r1 r2 hP2 pins s v u I rx ry => ho m2 st2 σ H2 dx dy x y Q hS2 r1 r2 hP2 pins s v u I rx ry) fun v u s2 x y H2 I2 rx ry q => q pins s2 v u I2 rx ry)
end
end HM

/-! HM, part 3: operators by values. -/
namespace HM
open PySem PySem.Spec PyProof.Rows L2
section
variable {X : Cx} {W : WX}
theorem opm_of {f : Value → Value → Sem Value} {r : R2} {g : O2} (hr : OpR X f r) (h : ∀ (m : List Addr) (st : Store) (H : Hp) (dx dy : D) (x y : V) (E : XK) (Q : VK), SS X.K m st H → RD X.K m H dx x → RD X.K m H dy y → Pe X.K E (RD X.K) m H (g dx dy st) Q → r x y H Q) : OpM X W f g :=
  fun m st σ H dx dy x y Q hS r1 r2 hP pins s v u I rx ry => hr pins s σ H x y v u Q I rx ry (h m st H dx dy x y _ Q hS r1 r2 hP)
end
section
variable {K : PySem.W.Frag} {E : XK} {m : List Addr} {st : Store} {H : Hp} {Q : VK}
/-- a new tuple -/
theorem Pe.tup {ds : List D} {vs : List V} (h : Pe K E (RD K) m H (.ok (.tup ds) st) Q) (s : SS K m st H) (r : RDs K m H ds vs) : ∀ p, H p = none → Q (.ref p) (upd H p (.tup vs)) := fun p hp =>
  h m _ _ (Ext.fresh hp) (s.fresh hp) (.tup (SqT.of upd_same) (r.mono (Ext.fresh hp)))
/-- a new list of the store's -/
theorem SS.app {c : Cell} {p : Addr} {o : HO} (s : SS K m st H) (hp : H p = none) (r : RC K (m ++ [p]) (upd H p o) p c) : SS K (m ++ [p]) (st ++ [c]) (upd H p o) :=
  (s.fresh hp).grow (s.notin hp) r
theorem Pe.lst {ds : List D} {vs : List V} (h : Pe K E (RD K) m H (.ok (.ref st.length) (st ++ [.lst ds])) Q) (s : SS K m st H) (r : RDs K m H ds vs) : ∀ p, H p = none → Q (.ref p) (upd H p (.lst vs)) := fun p hp => by
  refine h (m ++ [p]) _ _ (Ext.app hp) (s.app hp ⟨vs, upd_same, r.mono (Ext.app hp)⟩) (.ref ?_)
  rw [← s.len]
  simp
end
/-- the items of a list -/
def lstAt (st : Store) (n : Nat) : Option (List D) := match st[n]? with
  | some (.lst xs) => some xs
  | none => none
@[simp] theorem lstAt_app {st : Store} {xs : List D} : lstAt (st ++ [.lst xs]) st.length = some xs := by simp [lstAt]
theorem lstAt_left {st more : Store} {n : Nat} (h : n < st.length) : lstAt (st ++ more) n = lstAt st n := by
  unfold lstAt
  rw [List.getElem?_append_left h]
theorem SS.list {K : PySem.W.Frag} {m : List Addr} {st : Store} {H : Hp} {n : Nat} {xs : List D} {a : Addr} (s : SS K m st H) (h : lstAt st n = some xs) (e : m[n]? = some a) : ∃ vs, H a = some (.lst vs) ∧ RDs K m H xs vs := by
  unfold lstAt at h
  split at h
  · rename_i ys q
    cases h
    exact s.cel n _ a q e
  · cases h
theorem lstAt_lt {st : Store} {n : Nat} {xs : List D} (h : lstAt st n = some xs) : n < st.length := by
  unfold lstAt at h
  split at h
  · rename_i q
    exact (List.getElem?_eq_some_iff.mp q).1
  · cases h

/-! ### arithmetic -/
def oAdd : O2 := fun x y st => match x, y with
  | .int i, .int j => .ok (.int (i + j)) st
  | .str a, .str b => if a.length + b.length ≤ 16777216 then .ok (.str (a ++ b)) st else .bad
  | .tup a, .tup b => if a.length + b.length ≤ 16777216 then .ok (.tup (a ++ b)) st else .bad
  | .ref a, .ref b => match lstAt st a, lstAt st b with
    | some xs, some ys => if xs.length + ys.length ≤ 16777216 then .ok (.ref st.length) (st ++ [.lst (xs ++ ys)]) else .bad
    | _, _ => .bad
  | _, _ => .bad
def oInt (g : Int → Int → Int) : O2 := fun x y st => match x, y with
  | .int i, .int j => .ok (.int (g i j)) st
  | _, _ => .bad
def oIntC (C : Int → Int → Bool) (g : Int → Int → Int) : O2 := fun x y st => match x, y with
  | .int i, .int j => if C i j then .ok (.int (g i j)) st else .bad
  | _, _ => .bad
abbrev oSub : O2 := oInt fun i j => i - j
def oIAdd : O2 := fun x y st => match x, y with
  | .int i, .int j => .ok (.int (i + j)) st
  | .str a, .str b => if a.length + b.length ≤ 16777216 then .ok (.str (a ++ b)) st else .bad
  | _, _ => .bad
def okMul (i j : Int) : Bool := decide ((i.natAbs < 18446744073709551616 ∨ j.natAbs < 18446744073709551616) ∨ i.natAbs.log2 + j.natAbs.log2 < 1000000)
def okDiv (_ j : Int) : Bool := decide (j ≠ 0 ∧ j.natAbs.log2 < 9000)
def okMod (_ j : Int) : Bool := decide (j ≠ 0)
def okPow (i j : Int) : Bool := decide (0 ≤ j ∧ j ≤ 1000000 ∧ i.natAbs < 18446744073709551616)
def okShr (_ j : Int) : Bool := decide (0 ≤ j)
abbrev oMulI : O2 := oIntC okMul fun i j => i * j
abbrev oDiv : O2 := oIntC okDiv fun i j => i.fdiv j
abbrev oMod : O2 := oIntC okMod fun i j => i.fmod j
abbrev oPow : O2 := oIntC okPow fun i j => i ^ j.toNat
abbrev oShl : O2 := oIntC okPow fun i j => i * 2 ^ j.toNat
abbrev oShr : O2 := oIntC okShr fun i j => i / 2 ^ j.toNat
abbrev oAnd : O2 := oInt Builtin.bitAnd
section
variable {X : Cx} {W : WX}
theorem line_of {n : Nat} (h : n ≤ 16777216) : n ≤ sizeLine := by
  rw [PySem.sizeLine_eq]
  exact h
theorem op_add_all : OpR X (binaryOp .Add) (fun x y H Q => (rI0 (fun i j => .int (i + j)) x y H Q ∨ (∃ i j, x = .str i ∧ y = .str j ∧ i.length + j.length ≤ sizeLine ∧ Q (.str (i ++ j)) H)) ∨ (rCatA X.K x y H Q ∨ rCat x y H Q)) :=
  (op_add.or op_add_str).or (op_catA.or op_cat)
theorem m_add : OpM X W (binaryOp .Add) oAdd := opm_of op_add_all fun m st H dx dy x y E Q hS r1 r2 hP => by
  unfold oAdd at hP
  split at hP
  · cases r1
    cases r2
    exact .inl (.inl ⟨_, _, rfl, rfl, hP.now hS (.int _)⟩)
  · split at hP
    · rename_i hl
      cases r1
      cases r2
      refine .inl (.inr ⟨_, _, rfl, rfl, line_of hl, ?_⟩)
      have q := hP.now hS (.str _)
      have e : ∀ a b : List Nat, (⟨(a ++ b).toArray⟩ : PySem.Str) = (⟨a.toArray⟩ : PySem.Str) ++ (⟨b.toArray⟩ : PySem.Str) := fun a b => by
        show (⟨(a ++ b).toArray⟩ : PySem.Str) = ⟨a.toArray ++ b.toArray⟩
        simp
      rw [e] at q
      exact q
    · exact hP.elim
  · split at hP
    · rename_i a b hl
      cases r1 with
      | tup s1 h1 =>
        rename_i va
        cases r2 with
        | tup s2 h2 =>
          rename_i vb
          refine .inr (.inl ⟨_, _, _, _, rfl, rfl, s1, s2, line_of (by rw [← h1.len, ← h2.len]; exact hl), fun e => ?_, fun _ e => ?_, fun _ _ => ?_⟩)
          · subst e
            cases h1
            exact hP.now hS (.tup s2 h2)
          · subst e
            cases h2
            rw [List.append_nil] at hP
            exact hP.now hS (.tup s1 h1)
          · exact hP.tup hS (h1.append h2)
    · exact hP.elim
  · rename_i a b
    split at hP
    · rename_i xs ys ex ey
      split at hP
      · rename_i hl
        cases r1 with
        | ref e1 =>
          cases r2 with
          | ref e2 =>
            obtain ⟨va, ha, ra⟩ := hS.list ex e1
            obtain ⟨vb, hb, rb⟩ := hS.list ey e2
            exact .inr (.inr ⟨_, _, va, vb, rfl, rfl, ha, hb, line_of (by rw [← ra.len, ← rb.len]; exact hl), hP.lst hS (ra.append rb)⟩)
      · exact hP.elim
    · exact hP.elim
  · exact hP.elim
theorem m_int {f : Value → Value → Sem Value} {g : Int → Int → Int} (h : OpR X f (rI0 fun i j => .int (g i j))) : OpM X W f (oInt g) := opm_of h fun m st H dx dy x y E Q hS r1 r2 hP => by
  unfold oInt at hP
  split at hP
  · cases r1
    cases r2
    exact ⟨_, _, rfl, rfl, hP.now hS (.int _)⟩
  · exact hP.elim
theorem m_intC {f : Value → Value → Sem Value} {C : Int → Int → Bool} {C' : Int → Int → Prop} {g : Int → Int → Int} (h : OpR X f (rI C' fun i j => .int (g i j))) (hC : ∀ i j, C i j = true → C' i j) : OpM X W f (oIntC C g) := opm_of h fun m st H dx dy x y E Q hS r1 r2 hP => by
  unfold oIntC at hP
  split at hP
  · split at hP
    · rename_i hc
      cases r1
      cases r2
      exact ⟨_, _, rfl, rfl, hC _ _ hc, hP.now hS (.int _)⟩
    · exact hP.elim
  · exact hP.elim
theorem m_sub : OpM X W (binaryOp .Sub) oSub := m_int op_sub
theorem op_mulAny : OpR X (binaryOp .Mult) (rI IntMulOk fun i j => .int (i * j)) := opI fun _ _ _ _ _ _ _ hc q => mul_int q hc
theorem m_mulI : OpM X W (binaryOp .Mult) oMulI := m_intC op_mulAny fun i j h => by
  have q : (i.natAbs < 18446744073709551616 ∨ j.natAbs < 18446744073709551616) ∨ i.natAbs.log2 + j.natAbs.log2 < 1000000 := of_decide_eq_true h
  rcases q with (q | q) | q
  · exact CMul.ok (.inl (by omega))
  · exact CMul.ok (.inr (by omega))
  · exact CMulW.ok q
theorem op_fdivAny : OpR X (binaryOp .FloorDiv) (rI (fun _ j => j ≠ 0 ∧ j.natAbs.log2 < 9000) fun i j => .int (i.fdiv j)) := opI fun _ _ _ _ _ _ _ hc q => floordiv_int hc.1 q (.inl (PyProof.noPylong_of_log2 hc.2))
theorem m_div : OpM X W (binaryOp .FloorDiv) oDiv := m_intC op_fdivAny fun i j h => of_decide_eq_true h
theorem m_mod : OpM X W (binaryOp .Mod) oMod := m_intC op_modN fun i j h => of_decide_eq_true h
theorem ok_pow {i j : Int} (h : okPow i j = true) : CPow i j := by
  have q : 0 ≤ j ∧ j ≤ 1000000 ∧ i.natAbs < 18446744073709551616 := of_decide_eq_true h
  exact q
theorem m_pow : OpM X W (binaryOp .Pow) oPow := m_intC op_pow fun i j h => ok_pow h
theorem m_shl : OpM X W (binaryOp .LShift) oShl := m_intC op_shl fun i j h => ok_pow h
theorem m_shr : OpM X W (binaryOp .RShift) oShr := m_intC op_shr fun i j h => of_decide_eq_true h
theorem m_and : OpM X W (binaryOp .BitAnd) oAnd := m_int op_and
/-- in place -/
theorem mi_add : OpM X W (inplaceOp .Add) oIAdd := opm_of (iop_add.or iop_add_str) fun m st H dx dy x y E Q hS r1 r2 hP => by
  unfold oIAdd at hP
  split at hP
  · cases r1
    cases r2
    exact .inl ⟨_, _, rfl, rfl, hP.now hS (.int _)⟩
  · split at hP
    · rename_i hl
      cases r1
      cases r2
      refine .inr ⟨_, _, rfl, rfl, line_of hl, ?_⟩
      have q := hP.now hS (.str _)
      have e : ∀ a b : List Nat, (⟨(a ++ b).toArray⟩ : PySem.Str) = (⟨a.toArray⟩ : PySem.Str) ++ (⟨b.toArray⟩ : PySem.Str) := fun a b => by
        show (⟨(a ++ b).toArray⟩ : PySem.Str) = ⟨a.toArray ++ b.toArray⟩
        simp
      rw [e] at q
      exact q
    · exact hP.elim
  · exact hP.elim
theorem mi_sub : OpM X W (inplaceOp .Sub) oSub := m_int iop_sub
end

/-! ### == by what is data -/
def D.plain : Nat → D → Bool
  | _, .non => true
  | _, .int _ => true
  | _, .str x => x.all fun c => decide (c < 1114112)
  | 0, .tup _ => false
  | n + 1, .tup xs => xs.all (D.plain n)
  | _, _ => false
def D.toP : Nat → D → PyData
  | _, .int i => .int i
  | _, .str x => .str ⟨x.toArray⟩
  | n + 1, .tup xs => .tuple (xs.map (D.toP n))
  | _, .bl b => .bool b
  | _, _ => .none
theorem plain_all {K : PySem.W.Frag} {m : List Addr} {H : Hp} {n : Nat} (ih : ∀ (d : D) (v : V), d.plain n = true → RD K m H d v → Dp K H v (d.toP n) ∧ (d.toP n).canLay0 = true ∧ (d.toP n).depth ≤ n) : ∀ (ds : List D) (vs : List V), ds.all (D.plain n) = true → RDs K m H ds vs →
    DpAll K H vs (ds.map (D.toP n)) ∧ PyData.canLayAll0 (ds.map (D.toP n)) = true ∧ PyData.depthAll (ds.map (D.toP n)) ≤ n
  | [], _, _, r => by
    cases r
    exact ⟨.nil, by simp [PyData.canLayAll0], by simp [PyData.depthAll]⟩
  | d :: ds, _, h, r => by
    cases r with
    | cons r1 r2 =>
      rw [List.all_cons, Bool.and_eq_true] at h
      obtain ⟨a1, a2, a3⟩ := ih d _ h.1 r1
      obtain ⟨b1, b2, b3⟩ := plain_all ih ds _ h.2 r2
      refine ⟨.cons a1 b1, ?_, ?_⟩
      · simp only [List.map_cons, PyData.canLayAll0, a2, b2, Bool.and_self]
      · simp only [List.map_cons, PyData.depthAll]
        omega
theorem str_ok {x : List Nat} {n : Nat} (h : (x.all fun c => decide (c < 1114112)) = true) : ((D.str x).toP n).canLay0 = true := by
  have e : (D.str x).toP n = .str ⟨x.toArray⟩ := by cases n <;> rfl
  rw [e]
  simp only [PyData.canLay0, PyData.strOk]
  simpa using h
theorem plain_dp {K : PySem.W.Frag} {m : List Addr} {H : Hp} : ∀ (n : Nat) (d : D) (v : V), d.plain n = true → RD K m H d v → Dp K H v (d.toP n) ∧ (d.toP n).canLay0 = true ∧ (d.toP n).depth ≤ n := by
  intro n
  induction n with
  | zero =>
    intro d v h r
    cases r <;> simp [D.plain] at h
    · exact ⟨.non, by simp [D.toP, PyData.canLay0], by simp [D.toP, PyData.depth]⟩
    · exact ⟨.int _, by simp [D.toP, PyData.canLay0], by simp [D.toP, PyData.depth]⟩
    · exact ⟨.str _, str_ok (by simpa using h), by simp [D.toP, PyData.depth]⟩
  | succ n ih =>
    intro d v h r
    cases r with
    | non => exact ⟨.non, by simp [D.toP, PyData.canLay0], by simp [D.toP, PyData.depth]⟩
    | int i => exact ⟨.int _, by simp [D.toP, PyData.canLay0], by simp [D.toP, PyData.depth]⟩
    | str x => exact ⟨.str _, str_ok h, by simp [D.toP, PyData.depth]⟩
    | tup s rs =>
      rename_i a vs ds
      obtain ⟨b1, b2, b3⟩ := plain_all ih ds vs h rs
      refine ⟨.tup s b1, by simpa only [D.toP, PyData.canLay0] using b2, ?_⟩
      simp only [D.toP, PyData.depth]
      omega
    | _ => simp [D.plain] at h
theorem eqvAll_map {n : Nat} (ih : ∀ x y : D, x.plain n = true → y.plain n = true → PyData.eqv (x.toP n) (y.toP n) = decide (x = y)) : ∀ xs ys : List D, xs.all (D.plain n) = true → ys.all (D.plain n) = true → PyData.eqvAll (xs.map (D.toP n)) (ys.map (D.toP n)) = decide (xs = ys)
  | [], [], _, _ => by simp [PyData.eqvAll]
  | [], _ :: _, _, _ => by simp [PyData.eqvAll]
  | _ :: _, [], _, _ => by simp [PyData.eqvAll]
  | x :: xs, y :: ys, h1, h2 => by
    rw [List.all_cons, Bool.and_eq_true] at h1 h2
    simp only [List.map_cons, PyData.eqvAll, ih x y h1.1 h2.1, eqvAll_map ih xs ys h1.2 h2.2, List.cons.injEq, Bool.decide_and]
theorem eqv_plain : ∀ (n : Nat) (x y : D), x.plain n = true → y.plain n = true → PyData.eqv (x.toP n) (y.toP n) = decide (x = y) := by
  intro n
  induction n with
  | zero =>
    intro x y h1 h2
    cases x <;> simp [D.plain] at h1 <;> cases y <;> simp [D.plain] at h2 <;> simp [D.toP, PyData.eqv]
    all_goals first | rfl | (rw [Bool.eq_iff_iff]; simp)
  | succ n ih =>
    intro x y h1 h2
    cases x <;> simp only [D.plain, Bool.false_eq_true] at h1 <;> cases y <;> simp only [D.plain, Bool.false_eq_true] at h2 <;> first
      | (simp only [D.toP, PyData.eqv, D.tup.injEq]; exact eqvAll_map ih _ _ h1 h2)
      | (simp only [D.toP, PyData.eqv]; first | rfl | (rw [Bool.eq_iff_iff]; simp))
/-- a value as data that == compares: one by itself, or a list -/
def D.pd (st : Store) (d : D) : Option (D ⊕ List D) := match d with
  | .ref n => match lstAt st n with
    | some xs => if xs.all (D.plain 59) then some (.inr xs) else none
    | none => none
  | .rol xs => if xs.all (D.plain 59) then some (.inr xs) else none
  | d => if d.plain 60 then some (.inl d) else none
def pdP : D ⊕ List D → PyData
  | .inl d => d.toP 60
  | .inr xs => .list (xs.map (D.toP 59))
theorem pd_dp {K : PySem.W.Frag} {m : List Addr} {st : Store} {H : Hp} {d : D} {v : V} {p : D ⊕ List D} (s : SS K m st H) (h : d.pd st = some p) (r : RD K m H d v) : Dp K H v (pdP p) ∧ SeqAt.shaped (pdP p) = true := by
  have fin : ∀ {q : PyData}, q.canLay0 = true → q.depth ≤ 60 → SeqAt.shaped q = true := fun {q} h1 h2 => by
    unfold SeqAt.shaped
    rw [h1, Bool.true_and, decide_eq_true_eq]
    omega
  have one : ∀ {d : D}, RD K m H d v → d.plain 60 = true → Dp K H v (d.toP 60) ∧ SeqAt.shaped (d.toP 60) = true := fun {d} r h => by
    obtain ⟨a, b, c⟩ := plain_dp 60 d v h r
    exact ⟨a, fin b c⟩
  have lst : ∀ {xs : List D} {vs : List V} {a : Addr}, SqL K H a vs → RDs K m H xs vs → xs.all (D.plain 59) = true → Dp K H (.ref a) (.list (xs.map (D.toP 59))) ∧ SeqAt.shaped (.list (xs.map (D.toP 59))) = true := fun {xs vs a} hl rs h => by
    obtain ⟨a, b, c⟩ := plain_all (plain_dp 59) xs vs h rs
    refine ⟨.lst hl a, fin (by simpa only [PyData.canLay0] using b) ?_⟩
    simp only [PyData.depth]
    omega
  unfold D.pd at h
  split at h
  · split at h
    · split at h
      · rename_i n _ xs e ha
        cases h
        cases r with
        | ref q =>
          obtain ⟨vs, h1, h2⟩ := s.list e q
          exact lst (SqL.of h1) h2 ha
      · cases h
    · cases h
  · split at h
    · rename_i ha
      cases h
      cases r with
      | rol q rs => exact lst q.sq rs ha
    · cases h
  · split at h
    · rename_i ha
      cases h
      exact one r ha
    · cases h
theorem pd_ok {st : Store} {d : D} {p : D ⊕ List D} (h : d.pd st = some p) : (∃ e : D, p = .inl e ∧ e.plain 60 = true) ∨ ∃ xs : List D, p = .inr xs ∧ xs.all (D.plain 59) = true := by
  unfold D.pd at h
  split at h
  · split at h
    · split at h
      · cases h
        exact .inr ⟨_, rfl, by assumption⟩
      · cases h
    · cases h
  · split at h
    · cases h
      exact .inr ⟨_, rfl, by assumption⟩
    · cases h
  · split at h
    · cases h
      exact .inl ⟨_, rfl, by assumption⟩
    · cases h
theorem pd_eqv {st st' : Store} {d e : D} {p q : D ⊕ List D} (h : d.pd st = some p) (h' : e.pd st' = some q) : PyData.eqv (pdP p) (pdP q) = decide (p = q) := by
  rcases pd_ok h with ⟨x, rfl, hx⟩ | ⟨xs, rfl, hx⟩
  · rcases pd_ok h' with ⟨y, rfl, hy⟩ | ⟨ys, rfl, hy⟩
    · show PyData.eqv (x.toP 60) (y.toP 60) = _
      rw [eqv_plain 60 x y hx hy]
      simp
    · show PyData.eqv (x.toP 60) _ = _
      cases x <;> simp [D.plain] at hx <;> simp [D.toP, pdP, PyData.eqv]
  · rcases pd_ok h' with ⟨y, rfl, hy⟩ | ⟨ys, rfl, hy⟩
    · show PyData.eqv _ (y.toP 60) = _
      cases y <;> simp [D.plain] at hy <;> simp [D.toP, pdP, PyData.eqv]
    · show PyData.eqvAll (xs.map (D.toP 59)) (ys.map (D.toP 59)) = _
      rw [eqvAll_map (eqv_plain 59) xs ys hx hy]
      simp
def dEq (x y : D) (st : Store) : Option Bool := match x, y with
  | .str a, .str b => some (decide (a = b))
  | .bl a, .bl b => some (decide (a = b))
  | .int a, .int b => some (decide (a = b))
  | .bl a, .int b => some (decide ((if a then 1 else 0) = b))
  | .int a, .bl b => some (decide (a = (if b then 1 else 0)))
  | x, y => match x.pd st, y.pd st with
    | some p, some q => some (decide (p = q))
    | _, _ => none
def oEq : O2 := fun x y st => match dEq x y st with
  | some b => .ok (.bl b) st
  | none => .bad
def oNe : O2 := fun x y st => match dEq x y st with
  | some b => .ok (.bl !b) st
  | none => .bad
section
variable {X : Cx} {W : WX}
theorem m_eqB {op : CmpOp} {neg : Bool → Bool} {r1 r2 : R2} (h1 : OpR X (compareOp op) r1) (h2 : OpR X (compareOp op) r2) (s1 : ∀ x y H Q, scal x y = true → Q (.bl (neg (decide (x = y)))) H → r1 x y H Q)
    (s2 : ∀ x y H Q d e, Dp X.K H x d → Dp X.K H y e → SeqAt.shaped d = true → SeqAt.shaped e = true → Q (.bl (neg (PyData.eqv d e))) H → r2 x y H Q) : OpM X W (compareOp op) (fun x y st => match dEq x y st with
    | some b => .ok (.bl (neg b)) st
    | none => .bad) := opm_of (h1.or h2) fun m st H dx dy x y E Q hS ra rb hP => by
  split at hP
  · rename_i b hb
    have q := hP.now hS (.bl _)
    unfold dEq at hb
    split at hb
    · cases ra
      cases rb
      cases hb
      refine .inl (s1 _ _ _ _ rfl ?_)
      simpa using q
    · cases ra
      cases rb
      cases hb
      refine .inl (s1 _ _ _ _ rfl ?_)
      simpa using q
    · cases ra
      cases rb
      cases hb
      refine .inl (s1 _ _ _ _ rfl ?_)
      simpa using q
    · cases ra
      cases rb
      cases hb
      refine .inr (s2 _ _ _ _ _ _ (.bl _) (.int _) rfl rfl ?_)
      simpa [PyData.eqv, Bool.beq_eq_decide_eq] using q
    · cases ra
      cases rb
      cases hb
      refine .inr (s2 _ _ _ _ _ _ (.int _) (.bl _) rfl rfl ?_)
      simpa [PyData.eqv, Bool.beq_eq_decide_eq] using q
    · split at hb
      · rename_i p q' e1 e2
        cases hb
        obtain ⟨a1, a2⟩ := pd_dp hS e1 ra
        obtain ⟨b1, b2⟩ := pd_dp hS e2 rb
        refine .inr (s2 _ _ _ _ _ _ a1 b1 a2 b2 ?_)
        rw [pd_eqv e1 e2]
        exact q
      · cases hb
  · exact hP.elim
theorem m_eq (hu : X.A.units + 64 < cLine) : OpM X W (compareOp .Eq) oEq := m_eqB (neg := id) op_eq (op_eqD hu) (fun x y H Q h q => ⟨h, q⟩) fun x y H Q d e h1 h2 h3 h4 q => ⟨d, e, h1, h2, h3, h4, q⟩
theorem m_ne (hu : X.A.units + 64 < cLine) : OpM X W (compareOp .NotEq) oNe := m_eqB (neg := Bool.not) op_ne (op_neD hu) (fun x y H Q h q => ⟨h, q⟩) fun x y H Q d e h1 h2 h3 h4 q => ⟨d, e, h1, h2, h3, h4, q⟩
/-! ### order of ints, is -/
def oCmp (g : Int → Int → Bool) : O2 := fun x y st => match x, y with
  | .int i, .int j => .ok (.bl (g i j)) st
  | _, _ => .bad
theorem m_cmp {f : Value → Value → Sem Value} {g : Int → Int → Bool} (h : OpR X f (rI0 fun i j => .bl (g i j))) : OpM X W f (oCmp g) := opm_of h fun m st H dx dy x y E Q hS r1 r2 hP => by
  unfold oCmp at hP
  split at hP
  · cases r1
    cases r2
    exact ⟨_, _, rfl, rfl, hP.now hS (.bl _)⟩
  · exact hP.elim
abbrev oLt : O2 := oCmp fun i j => decide (i < j)
abbrev oLe : O2 := oCmp fun i j => decide (i ≤ j)
abbrev oGt : O2 := oCmp fun i j => decide (j < i)
abbrev oGe : O2 := oCmp fun i j => decide (j ≤ i)
theorem m_lt : OpM X W (compareOp .Lt) oLt := m_cmp op_lt
theorem m_le : OpM X W (compareOp .LtE) oLe := m_cmp op_le
theorem m_gt : OpM X W (compareOp .Gt) oGt := m_cmp op_gt
theorem m_ge : OpM X W (compareOp .GtE) oGe := m_cmp op_ge
def dIs (x y : D) : Option Bool := match x, y with
  | .non, .non => some true
  | .bl _, .non | .int _, .non | .str _, .non | .tup _, .non | .ref _, .non | .rol _, .non => some false
  | .bl a, .bl b => some (decide (a = b))
  | _, _ => none
def oIs : O2 := fun x y st => match dIs x y with
  | some b => .ok (.bl b) st
  | none => .bad
def oIsNot : O2 := fun x y st => match dIs x y with
  | some b => .ok (.bl !b) st
  | none => .bad
theorem m_isB {op : CmpOp} {neg : Bool → Bool} {r1 r2 : R2} (h1 : OpR X (compareOp op) r1) (h2 : OpR X (compareOp op) r2) (s1 : ∀ x H (Q : VK), Q (.bl (neg (decide (x = .non)))) H → r1 x .non H Q)
    (s2 : ∀ a b H (Q : VK), Q (.bl (neg (decide (a = b)))) H → r2 (.bl a) (.bl b) H Q) : OpM X W (compareOp op) (fun x y st => match dIs x y with
    | some b => .ok (.bl (neg b)) st
    | none => .bad) := opm_of (h1.or h2) fun m st H dx dy x y E Q hS ra rb hP => by
  split at hP
  · rename_i b hb
    have q := hP.now hS (.bl _)
    unfold dIs at hb
    split at hb <;> cases hb <;> cases ra <;> cases rb <;> first | exact .inl (s1 _ _ _ q) | exact .inr (s2 _ _ _ _ q)
  · exact hP.elim
theorem m_is : OpM X W (compareOp .Is) oIs := m_isB (neg := id) op_isN op_is_bl (fun x H Q q => ⟨rfl, q⟩) fun a b H Q q => ⟨_, _, rfl, rfl, q⟩
theorem m_isnot : OpM X W (compareOp .IsNot) oIsNot := m_isB (neg := Bool.not) op_notN op_isnot_bl (fun x H Q q => ⟨rfl, q⟩) fun a b H Q q => ⟨_, _, rfl, rfl, q⟩
end
end HM

/-! HM, part 4: expressions. -/
namespace HM
open PySem PySem.Spec PyProof.Rows L2
section
variable {X : Cx} {W : WX} {e a b c : Expr} {es rest : List Expr} {pos : Pos} {f fa fb fc : EM D} {fs : EM (List D)} {g ga gb : EM Bool}

/-! ### unary, comparisons -/
def eUn (o : O1) (fa : EM D) : EM D := fun τ st => (fa τ st).bind o
def UnM (X : Cx) (W : WX) (F : Value → Sem Value) (g : O1) : Prop :=
  ∀ (m : List Addr) (st : Store) (σ : L2.St) (H : Hp) (dx : D) (x : V) (Q : VK), SS X.K m st H → RD X.K m H dx x → Pe X.K (fun c d H' => W c d σ H') (RD X.K) m H (g dx st) Q →
    ∀ (pins : List (Addr × Obj)) (s : Shared) (v : Value), Inv X pins σ H s → RelV x v → wpAny (model X.prog X.w) X.A (F v) (EP X pins σ Q) X.xe s
theorem ex_un {op : UnaryOp} {o : O1} (ho : UnM X W (unaryOp op) o) (ha : Ex X W a fa) : Ex X W (.UnaryOp op a pos) (eUn o fa) := by
  refine ⟨fun m τ st σ H Q hL hS hP pins s I => ?_⟩
  refine UnaryOp_ (thn (ha.run m τ st σ H (fun x H1 => ∀ (pins : List (Addr × Obj)) (s : Shared) (v : Value), Inv X pins σ H1 s → RelV x v → wpAny (model X.prog X.w) X.A (unaryOp op v) (EP X pins σ Q) X.xe s) hL hS (hP.bind fun dx s1 m1 H1 x e1 hS1 r1 hP1 pins s v I rx => ho m1 s1 σ H1 dx x Q hS1 r1 hP1 pins s v I rx) pins s I) fun v s1 ⟨x, H1, I1, r1, q1⟩ => q1 pins s1 v I1 r1)
def oNeg : O1 := fun x st => match x with
  | .int i => .ok (.int (-i)) st
  | _ => .bad
theorem m_neg : UnM X W (unaryOp .USub) oNeg := fun m st σ H dx x Q hS r hP pins s v I rx => by
  unfold oNeg at hP
  split at hP
  · cases r
    exact un_neg pins s σ H _ v Q I rx ⟨_, rfl, hP.now hS (.int _)⟩
  · exact hP.elim
theorem ex_cmp {op : CmpOp} {o : O2} (ho : OpM X W (compareOp op) o) (ha : Ex X W a fa) (hb : Ex X W b fb) (hm : behindInMarks op b = false) : Ex X W (.Compare a [op] [b] pos) (eBin o fa fb) := by
  refine ⟨fun m τ st σ H Q hL hS hP pins s I => ?_⟩
  exact wpAny_Compare1 (binT peW peW I (R := fun x y H2 => wR2 X (compareOp op) σ x y H2 Q) (two ha hb hL hS hP fun m2 st2 H2 dx dy x y e2 hS2 r1 r2 hP2 pins s v u I rx ry => ho m2 st2 σ H2 dx dy x y Q hS2 r1 r2 hP2 pins s v u I rx ry) fun v u s2 x y H2 I2 rx ry q => q pins s2 v u I2 rx ry) hm
/-- a bool as a test -/
def dBl (x : D) (st : Store) : ER Bool := match x with
  | .bl b => .ok b st
  | _ => .bad
def tBl (fa : EM D) : EM Bool := fun τ st => (fa τ st).bind dBl
theorem bl_post {K : PySem.W.Frag} {E : XK} {m : List Addr} {H : Hp} {dx : D} {s1 : Store} {x : V} {Q : Bool → Hp → Prop} (hS : SS K m s1 H) (r : RD K m H dx x) (hP : Pe K E RB m H (dBl dx s1) Q) : ∃ k, x = .bl k ∧ Q k H := by
  unfold dBl at hP
  split at hP
  · cases r
    exact ⟨_, rfl, hP.now hS rfl⟩
  · exact hP.elim
theorem et_cmp {op : CmpOp} {o : O2} (ho : OpM X W (compareOp op) o) (ha : Ex X W a fa) (hb : Ex X W b fb) (hm : behindInMarks op b = false) : Et X W (.Compare a [op] [b] pos) (tBl (eBin o fa fb)) := by
  refine ⟨fun m τ st σ H Q hL hS hP pins s I => ?_⟩
  have q : wE X (.Compare a [op] [b] pos) σ H fun x H1 => ∃ k, x = .bl k ∧ Q k H1 := (ex_cmp ho ha hb hm).run m τ st σ H _ hL hS (hP.bind fun dx s1 m1 H1 x e1 hS1 r1 hP1 => bl_post hS1 r1 hP1)
  refine wpAny_isTrue_Compare1 (binT peW peW I (R := fun x y H2 => wR2 X (compareOp op) σ x y H2 fun x H1 => ∃ k, x = .bl k ∧ Q k H1) ?_ fun v u s2 x y H2 I2 rx ry q => thn (q pins s2 v u I2 rx ry) fun c s3 ⟨x, H1, I1, r1, q1⟩ => ?_) hm
  · have hP' : Pe X.K (fun c d H' => W c d σ H') (RD X.K) m H (eBin o fa fb τ st) fun x H1 => ∃ k, x = .bl k ∧ Q k H1 := hP.bind fun dx s1 m1 H1 x e1 hS1 r1 hP1 => bl_post hS1 r1 hP1
    exact two ha hb hL hS hP' fun m2 st2 H2 dx dy x y e2 hS2 r1 r2 hP2 pins s v u I rx ry => ho m2 st2 σ H2 dx dy x y _ hS2 r1 r2 hP2 pins s v u I rx ry
  · obtain ⟨k, rfl, q1⟩ := q1
    cases r1
    exact wpAny_truthy_bool ⟨H1, I1, q1⟩
/-- a chain of two comparisons -/
def eChain (o o' : O2) (fa fb fc : EM D) : EM D := fun τ st => (fa τ st).bind fun x s1 => (fb τ s1).bind fun y s2 => (o x y s2).bind fun z s3 => match z with
  | .bl true => (fc τ s3).bind fun w s4 => o' y w s4
  | .bl false => .ok (.bl false) s3
  | _ => .bad
theorem chain_read {op op' : CmpOp} {o o' : O2} (ho : OpM X W (compareOp op) o) (ho' : OpM X W (compareOp op') o') (ha : Ex X W a fa) (hb : Ex X W b fb) (hc : Ex X W c fc) {m : List Addr} {τ : Sl} {st : Store} {σ : L2.St} {H : Hp} {Q : VK} (hL : SL X.K m H τ σ) (hS : SS X.K m st H)
    (hP : Pe X.K (fun c d H' => W c d σ H') (RD X.K) m H (eChain o o' fa fb fc τ st) Q) : tChain (fun x y H Q => wR2 X (compareOp op) σ x y H Q) (fun x y H Q => wR2 X (compareOp op') σ x y H Q) (wE X a) (wE X b) (wE X c) σ H Q := by
  refine two ha hb hL hS hP fun m2 st2 H2 dx dy x y e2 hS2 r1 r2 hP2 pins s v u I rx ry => ?_
  refine ho m2 st2 σ H2 dx dy x y _ hS2 r1 r2 (hP2.bind fun dz s3 m3 H3 z e3 hS3 r3 hP3 => ?_) pins s v u I rx ry
  split at hP3
  · cases r3
    refine ⟨true, rfl, ?_⟩
    rw [if_pos rfl]
    exact hc.run m3 τ s3 σ H3 _ (hL.mono (e2.trans e3)) hS3 (hP3.bind fun dw s4 m4 H4 w e4 hS4 r4 hP4 pins s v u I rx ry => ho' m4 s4 σ H4 dy dw y w Q hS4 ((r2.mono e3).mono e4) r4 hP4 pins s v u I rx ry)
  · cases r3
    refine ⟨false, rfl, ?_⟩
    rw [if_neg Bool.false_ne_true]
    exact hP3.now hS3 (.bl _)
  · exact hP3.elim
/-- a rule of the layer's whose premises may speak of the slots at hand -/
theorem oprS {F : Value → Value → Sem Value} {σ : L2.St} : ∀ (pins : List (Addr × Obj)) (s : Shared) (H : Hp) (x y : V) (v u : Value) (Q : VK), Inv X pins σ H s → RelV x v → RelV y u → wR2 X F σ x y H Q → wpAny (model X.prog X.w) X.A (F v u) (EP X pins σ Q) X.xe s :=
  fun pins s H x y v u Q I rx ry q => q pins s v u I rx ry
theorem ex_chain {op op' : CmpOp} {o o' : O2} (ho : OpM X W (compareOp op) o) (ho' : OpM X W (compareOp op') o') (ha : Ex X W a fa) (hb : Ex X W b fb) (hc : Ex X W c fc) (hm : lastMarks [op, op'] [b, c] = false := by with_unfolding_all rfl) : Ex X W (.Compare a [op, op'] [b, c] pos) (eChain o o' fa fb fc) := by
  refine ⟨fun m τ st σ H Q hL hS hP pins s I => ?_⟩
  have h := chain_read ho ho' ha hb hc hL hS hP
  refine Compare_chain (thn (peW.run pins s σ H _ I h) fun v s1 ⟨x, H1, I1, r1, q1⟩ => chain_link (thn (peW.run pins s1 σ H1 _ I1 q1) fun u s2 ⟨y, H2, I2, r2, q2⟩ =>
    thn (q2 pins s2 v u I2 r1 r2) fun d s3 ⟨z, H3, I3, r3, k, e, q3⟩ => ?_)) hm
  subst e
  cases r3
  refine wpAny_truthy_bool ?_
  cases k with
  | false => exact ite_ff ⟨.bl false, H3, I3, rfl, q3⟩
  | true => exact ite_tt (chain_last (thn (peW.run pins s3 σ H3 _ I3 q3) fun w' s4 ⟨z', H4, I4, r4, q4⟩ => q4 pins s4 u w' I4 r2 r4))
theorem et_chain {op op' : CmpOp} {o o' : O2} (ho : OpM X W (compareOp op) o) (ho' : OpM X W (compareOp op') o') (ha : Ex X W a fa) (hb : Ex X W b fb) (hc : Ex X W c fc) (hm : lastMarks [op, op'] [b, c] = false := by with_unfolding_all rfl) : Et X W (.Compare a [op, op'] [b, c] pos) (tBl (eChain o o' fa fb fc)) := by
  refine ⟨fun m τ st σ H Q hL hS hP pins s I => ?_⟩
  have hP' : Pe X.K (fun c d H' => W c d σ H') (RD X.K) m H (eChain o o' fa fb fc τ st) fun x H1 => ∃ k, x = .bl k ∧ Q k H1 := hP.bind fun dx s1 m1 H1 x e1 hS1 r1 hP1 => bl_post hS1 r1 hP1
  have h := chain_read ho ho' ha hb hc hL hS hP'
  refine isTrue_chain (thn (peW.run pins s σ H _ I h) fun v s1 ⟨x, H1, I1, r1, q1⟩ => test_link (thn (peW.run pins s1 σ H1 _ I1 q1) fun u s2 ⟨y, H2, I2, r2, q2⟩ =>
    thn (q2 pins s2 v u I2 r1 r2) fun d s3 ⟨z, H3, I3, r3, k, e, q3⟩ => ?_)) hm
  subst e
  cases r3
  refine wpAny_truthy_bool ?_
  cases k with
  | false =>
    obtain ⟨k', e', q'⟩ := q3
    cases e'
    exact ite_ff ⟨H3, I3, q'⟩
  | true =>
    refine ite_tt (test_last (thn (peW.run pins s3 σ H3 _ I3 q3) fun w' s4 ⟨z', H4, I4, r4, q4⟩ => thn (q4 pins s4 u w' I4 r2 r4) fun d' s5 ⟨z2, H5, I5, r5, k2, e2, q5⟩ => ?_))
    subst e2
    cases r5
    exact wpAny_truthy_bool ⟨H5, I5, q5⟩

/-! ### tests -/
/-- a value's truth -/
def dTru (st : Store) : D → Option Bool
  | .non => some false
  | .bl b => some b
  | .int i => some (i != 0)
  | .str x => if x.length ≤ 16777216 then some (!x.isEmpty) else none
  | .tup xs => some (!xs.isEmpty)
  | .rol xs => some (!xs.isEmpty)
  | .ref n => (lstAt st n).map fun xs => !xs.isEmpty
  | _ => none
def tVal (fa : EM D) : EM Bool := fun τ st => (fa τ st).bind fun x s1 => match dTru s1 x with
  | some b => .ok b s1
  | none => .bad
theorem empty_of {K : PySem.W.Frag} {m : List Addr} {H : Hp} {ds : List D} {vs : List V} (r : RDs K m H ds vs) : ds.isEmpty = vs.isEmpty := by
  cases r <;> rfl
theorem tru_read {K : PySem.W.Frag} {m : List Addr} {st : Store} {H : Hp} {d : D} {v : V} {b : Bool} (s : SS K m st H) (h : dTru st d = some b) (r : RD K m H d v) : TruV K v H b := by
  cases r with
  | non =>
    cases h
    exact rfl
  | bl b =>
    cases h
    exact rfl
  | int i =>
    cases h
    exact rfl
  | str x =>
    have h : (if x.length ≤ 16777216 then some (!x.isEmpty) else none) = some b := h
    split at h
    · rename_i hl
      cases h
      refine ⟨line_of (by simpa [PySem.Str.length] using hl), ?_⟩
      cases x with
      | nil => rfl
      | cons c x =>
        have e : ((⟨(c :: x).toArray⟩ : PySem.Str).length : Int) ≠ 0 := by
          show (((c :: x).toArray.size : Nat) : Int) ≠ 0
          rw [List.size_toArray, List.length_cons]
          omega
        simp [PySem.Str.length]
        omega
    · cases h
  | tup q rs =>
    cases h
    exact .inr (.inl ⟨_, q, by rw [empty_of rs]⟩)
  | rol q rs =>
    cases h
    exact .inl ⟨_, q.sq, by rw [empty_of rs]⟩
  | ref q =>
    unfold dTru at h
    simp only [Option.map_eq_some_iff] at h
    obtain ⟨xs, e, rfl⟩ := h
    obtain ⟨vs, h1, h2⟩ := s.list e q
    exact .inl ⟨vs, SqL.of h1, by rw [empty_of h2]⟩
  | _ => cases h
theorem et_val (ha : Ex X W a fa) (he : ∀ whole, isTrue a X.env whole = (do let v ← whole; standAt a.pos; holding [v] (truthy v)) := by intro _; rfl) : Et X W a (tVal fa) := by
  refine ⟨fun m τ st σ H Q hL hS hP pins s I => ?_⟩
  refine isTrue_plain (thn (ha.run m τ st σ H (fun x H' => ∃ k, TruV X.K x H' k ∧ Q k H') hL hS (hP.bind fun dx s1 m1 H1 x e1 hS1 r1 hP1 => ?_) pins s I) fun v s1 ⟨x, H1, I1, r1, q1⟩ => tru_ok pins s1 σ H1 x v Q I1 r1 q1) (he _)
  split at hP1
  · rename_i k hk
    exact ⟨k, tru_read hS1 hk r1, hP1.now hS1 rfl⟩
  · exact hP1.elim
def tAnd (ga gb : EM Bool) : EM Bool := fun τ st => (ga τ st).bind fun x s1 => if x then gb τ s1 else .ok false s1
def tOr (ga gb : EM Bool) : EM Bool := fun τ st => (ga τ st).bind fun x s1 => if x then .ok true s1 else gb τ s1
def tNot (ga : EM Bool) : EM Bool := fun τ st => (ga τ st).bind fun x s1 => .ok (!x) s1
theorem Ew.et (h : Ew X W e g) : Et X W e g := ⟨fun m τ st σ H Q hL hS hP pins s I => h.run m τ st σ H Q hL hS hP _ pins s I⟩
theorem ew_and1 (ha : Et X W a ga) : Ew X W (.BoolOp .And [a] pos) ga := ⟨fun m τ st σ H Q hL hS hP wh pins s I => (pw_and1 ptW).run wh pins s σ H Q I (ha.run m τ st σ H Q hL hS hP)⟩
theorem ew_or1 (ha : Et X W a ga) : Ew X W (.BoolOp .Or [a] pos) ga := ⟨fun m τ st σ H Q hL hS hP wh pins s I => (pw_or1 ptW).run wh pins s σ H Q I (ha.run m τ st σ H Q hL hS hP)⟩
theorem ew_and (ha : Et X W a ga) (hb : Ew X W (.BoolOp .And (b :: rest) pos) gb) : Ew X W (.BoolOp .And (a :: b :: rest) pos) (tAnd ga gb) := by
  refine ⟨fun m τ st σ H Q hL hS hP wh pins s I => (pw_and ptW pwW).run wh pins s σ H Q I ?_⟩
  refine ha.run m τ st σ H _ hL hS (hP.bind fun dx s1 m1 H1 x e1 hS1 r1 hP1 => ?_)
  subst r1
  cases dx with
  | true => exact iteT (hb.run m1 τ s1 σ H1 Q (hL.mono e1) hS1 hP1)
  | false => exact iteF (hP1.now hS1 rfl)
theorem ew_or (ha : Et X W a ga) (hb : Ew X W (.BoolOp .Or (b :: rest) pos) gb) : Ew X W (.BoolOp .Or (a :: b :: rest) pos) (tOr ga gb) := by
  refine ⟨fun m τ st σ H Q hL hS hP wh pins s I => (pw_or ptW pwW).run wh pins s σ H Q I ?_⟩
  refine ha.run m τ st σ H _ hL hS (hP.bind fun dx s1 m1 H1 x e1 hS1 r1 hP1 => ?_)
  subst r1
  cases dx with
  | true => exact iteT (hP1.now hS1 rfl)
  | false => exact iteF (hb.run m1 τ s1 σ H1 Q (hL.mono e1) hS1 hP1)
theorem et_not (ha : Et X W a ga) : Et X W (.UnaryOp .Not a pos) (tNot ga) := by
  refine ⟨fun m τ st σ H Q hL hS hP pins s I => (pt_not ptW).run pins s σ H Q I ?_⟩
  refine ha.run m τ st σ H _ hL hS (hP.bind fun dx s1 m1 H1 x e1 hS1 r1 hP1 => ?_)
  subst r1
  exact hP1.now hS1 rfl
/-! ### and, or, not as values -/
def eAnd (fa fb : EM D) : EM D := fun τ st => (fa τ st).bind fun x s1 => match dTru s1 x with
  | some true => fb τ s1
  | some false => .ok x s1
  | none => .bad
def eOr (fa fb : EM D) : EM D := fun τ st => (fa τ st).bind fun x s1 => match dTru s1 x with
  | some true => .ok x s1
  | some false => fb τ s1
  | none => .bad
def eNot (fa : EM D) : EM D := fun τ st => (fa τ st).bind fun x s1 => match dTru s1 x with
  | some b => .ok (.bl !b) s1
  | none => .bad
theorem ex_one {op} (h : Ex X W a fa) : Ex X W (.BoolOp op [a] pos) fa := ⟨fun m τ st σ H Q hL hS hP pins s I => BoolOp_one (h.run m τ st σ H Q hL hS hP pins s I)⟩
theorem ex_and (ha : Ex X W a fa) (hb : Ex X W (.BoolOp .And (b :: rest) pos) fb) : Ex X W (.BoolOp .And (a :: b :: rest) pos) (eAnd fa fb) := by
  refine ⟨fun m τ st σ H Q hL hS hP pins s I => (pe_andT peW peW).run pins s σ H Q I ?_⟩
  refine ha.run m τ st σ H _ hL hS (hP.bind fun dx s1 m1 H1 x e1 hS1 r1 hP1 => ?_)
  split at hP1
  · rename_i hk
    exact ⟨true, tru_read hS1 hk r1, iteT (hb.run m1 τ s1 σ H1 Q (hL.mono e1) hS1 hP1)⟩
  · rename_i hk
    exact ⟨false, tru_read hS1 hk r1, iteF (hP1.now hS1 r1)⟩
  · exact hP1.elim
theorem ex_or (ha : Ex X W a fa) (hb : Ex X W (.BoolOp .Or (b :: rest) pos) fb) : Ex X W (.BoolOp .Or (a :: b :: rest) pos) (eOr fa fb) := by
  refine ⟨fun m τ st σ H Q hL hS hP pins s I => (pe_orT peW peW).run pins s σ H Q I ?_⟩
  refine ha.run m τ st σ H _ hL hS (hP.bind fun dx s1 m1 H1 x e1 hS1 r1 hP1 => ?_)
  split at hP1
  · rename_i hk
    exact ⟨true, tru_read hS1 hk r1, iteT (hP1.now hS1 r1)⟩
  · rename_i hk
    exact ⟨false, tru_read hS1 hk r1, iteF (hb.run m1 τ s1 σ H1 Q (hL.mono e1) hS1 hP1)⟩
  · exact hP1.elim
theorem ex_not (ha : Ex X W a fa) : Ex X W (.UnaryOp .Not a pos) (eNot fa) := by
  refine ⟨fun m τ st σ H Q hL hS hP pins s I => (pe_notT peW).run pins s σ H Q I ?_⟩
  refine ha.run m τ st σ H _ hL hS (hP.bind fun dx s1 m1 H1 x e1 hS1 r1 hP1 => ?_)
  split at hP1
  · rename_i k hk
    exact ⟨k, tru_read hS1 hk r1, hP1.now hS1 (.bl _)⟩
  · exact hP1.elim
def eIf (g : EM Bool) (fa fb : EM D) : EM D := fun τ st => (g τ st).bind fun x s1 => if x then fa τ s1 else fb τ s1
theorem ex_if {c : Expr} (hc : Et X W c g) (ha : Ex X W a fa) (hb : Ex X W b fb) : Ex X W (.IfExp c a b pos) (eIf g fa fb) := by
  refine ⟨fun m τ st σ H Q hL hS hP pins s I => (pe_ifExp ptW peW peW).run pins s σ H Q I ?_⟩
  refine hc.run m τ st σ H _ hL hS (hP.bind fun dx s1 m1 H1 x e1 hS1 r1 hP1 => ?_)
  subst r1
  cases dx with
  | true => exact iteT (ha.run m1 τ s1 σ H1 Q (hL.mono e1) hS1 hP1)
  | false => exact iteF (hb.run m1 τ s1 σ H1 Q (hL.mono e1) hS1 hP1)

/-! ### arguments, displays -/
def aNil : EM (List D) := fun _ st => .ok [] st
def aCons (f : EM D) (fs : EM (List D)) : EM (List D) := fun τ st => (f τ st).bind fun x s1 => (fs τ s1).bind fun xs s2 => .ok (x :: xs) s2
theorem ea_nil : Ea X W [] aNil := ⟨fun m τ st σ H Q hL hS hP pos pins s I => pa_nil.run pos pins s σ H Q I (hP.now hS .nil)⟩
theorem ea_cons (ha : Ex X W e f) (hr : Ea X W es fs) (hs : starEach (e :: es) X.env = (false, eval e X.env) :: starEach es X.env := by rfl) : Ea X W (e :: es) (aCons f fs) := by
  refine ⟨fun m τ st σ H Q hL hS hP pos pins s I => (pa_cons peW paW hs).run pos pins s σ H Q I ?_⟩
  refine ha.run m τ st σ H _ hL hS (hP.bind fun dx s1 m1 H1 x e1 hS1 r1 hP1 => ?_)
  exact hr.run m1 τ s1 σ H1 _ (hL.mono e1) hS1 (hP1.bind fun ds s2 m2 H2 xs e2 hS2 r2 hP2 => hP2.now hS2 (.cons (r1.mono e2) r2))
def eTup (fs : EM (List D)) : EM D := fun τ st => (fs τ st).bind fun xs s1 => if xs.length ≤ 16777216 then .ok (.tup xs) s1 else .bad
def eLst (fs : EM (List D)) : EM D := fun τ st => (fs τ st).bind fun xs s1 => if xs.length ≤ 16777216 then .ok (.ref s1.length) (s1 ++ [.lst xs]) else .bad
theorem ex_tup {x1} (h : Ea X W es fs) : Ex X W (.Tuple es x1 pos) (eTup fs) := by
  refine ⟨fun m τ st σ H Q hL hS hP pins s I => (pe_tup paW).run pins s σ H Q I ?_⟩
  refine h.run m τ st σ H _ hL hS (hP.bind fun ds s1 m1 H1 vs e1 hS1 r1 hP1 => ?_)
  split at hP1
  · rename_i hl
    exact ⟨line_of (by rw [← r1.len]; exact hl), hP1.tup hS1 r1⟩
  · exact hP1.elim
theorem ex_lst (h : Ea X W es fs) : Ex X W (.List es pos) (eLst fs) := by
  refine ⟨fun m τ st σ H Q hL hS hP pins s I => (pe_lst paW).run pins s σ H Q I ?_⟩
  refine h.run m τ st σ H _ hL hS (hP.bind fun ds s1 m1 H1 vs e1 hS1 r1 hP1 => ?_)
  split at hP1
  · rename_i hl
    exact ⟨line_of (by rw [← r1.len]; exact hl), hP1.lst hS1 r1⟩
  · exact hP1.elim

/-! ### subscripts -/
def IxM (X : Cx) (W : WX) (g : O2) : Prop :=
  ∃ r : R2, IxR X r ∧ ∀ (m : List Addr) (st : Store) (H : Hp) (dx dy : D) (x y : V) (E : XK) (Q : VK), SS X.K m st H → RD X.K m H dx x → RD X.K m H dy y → Pe X.K E (RD X.K) m H (g dx dy st) Q → r x y H Q
theorem ex_ix {o : O2} (ho : IxM X W o) (ha : Ex X W a fa) (hb : Ex X W b fb) (hs : PlainIx b := by exact fun _ _ => rfl) : Ex X W (.Subscript a b pos) (eBin o fa fb) := by
  obtain ⟨r, hr, h⟩ := ho
  refine ⟨fun m τ st σ H Q hL hS hP pins s I => (pe_ix hr peW peW hs).run pins s σ H Q I ?_⟩
  exact two ha hb hL hS hP fun m2 st2 H2 dx dy x y e2 hS2 r1 r2 hP2 => h m2 st2 H2 dx dy x y _ Q hS2 r1 r2 hP2
def oIx : O2 := fun x y st => match x, y with
  | .tup xs, .int i => match atI xs i with
    | some d => .ok d st
    | none => .bad
  | .rol xs, .int i => match atI xs i with
    | some d => .ok d st
    | none => .bad
  | .ref n, .int i => match lstAt st n with
    | some xs => match atI xs i with
      | some d => .ok d st
      | none => .bad
    | none => .bad
  | .str x, .int i => if x.length ≤ 16777216 then match atI x i with
      | some c => .ok (.str [c]) st
      | none => .bad
    else .bad
  | _, _ => .bad
theorem atI_rds {K : PySem.W.Frag} {m : List Addr} {H : Hp} {ds : List D} {vs : List V} {i : Int} {d : D} (r : RDs K m H ds vs) (h : atI ds i = some d) : ∃ v, atI vs i = some v ∧ RD K m H d v := by
  unfold atI at h ⊢
  rw [← r.len]
  cases e : ixN ds.length i with
  | none =>
    rw [e] at h
    cases h
  | some j =>
    rw [e] at h
    exact r.get h
theorem m_ix : IxM X W oIx := ⟨_, ix_seq, fun m st H dx dy x y E Q hS r1 r2 hP => by
  unfold oIx at hP
  split at hP
  · split at hP
    · rename_i d e
      cases r1 with
      | tup q rs =>
        cases r2
        obtain ⟨v, h1, h2⟩ := atI_rds rs e
        exact .inr (.inl ⟨_, _, _, v, rfl, rfl, q, h1, hP.now hS h2⟩)
    · exact hP.elim
  · split at hP
    · rename_i d e
      cases r1 with
      | rol q rs =>
        cases r2
        obtain ⟨v, h1, h2⟩ := atI_rds rs e
        exact .inl ⟨_, _, _, v, rfl, rfl, q.sq, h1, hP.now hS h2⟩
    · exact hP.elim
  · split at hP
    · split at hP
      · rename_i ex _ _ e
        cases r1 with
        | ref q =>
          cases r2
          obtain ⟨vs, h1, h2⟩ := hS.list ex q
          obtain ⟨v, h3, h4⟩ := atI_rds h2 e
          exact .inl ⟨_, _, _, v, rfl, rfl, SqL.of h1, h3, hP.now hS h4⟩
      · exact hP.elim
    · exact hP.elim
  · split at hP
    · split at hP
      · rename_i hl _ c e
        cases r1
        cases r2
        exact .inr (.inr ⟨_, _, c, rfl, rfl, line_of (by simpa [PySem.Str.length] using hl), by simpa using e, hP.now hS (.str [c])⟩)
      · exact hP.elim
    · exact hP.elim
  · exact hP.elim⟩
end
end HM

/-! HM, part 5: calls, what is walked, comprehensions. -/
namespace HM
open PySem PySem.Spec PyProof.Rows L2

/-! ### defs -/
abbrev FM := List D → Store → ER D
/-- a def's promise by its mirror -/
def spM (K : PySem.W.Frag) (n : Nat) (mf : FM) : Sp := fun vs H Q E => ∃ (m : List Addr) (st : Store) (ds : List D), ds.length = n ∧ SS K m st H ∧ RDs K m H ds vs ∧ Pe K E (RD K) m H (mf ds st) Q
/-- the def f keeps the mirror -/
abbrev FnM (P : Program) (w : World) (K : PySem.W.Frag) (mg : Str → Option Value) (base : Heap) (k : Nat) (f : Addr) (fd : FuncData) (ps : List Str) (mf : FM) : Prop :=
  FnOk P w K mg base (L2.CX P w) k f fd ps (spM K ps.length mf)
section
variable {X : Cx} {W : WX} {e a b c : Expr} {es rest : List Expr} {pos p : Pos} {f fa fb fc : EM D} {fs : EM (List D)} {g ga gb : EM Bool}
def eCall (n : Nat) (mf : FM) (fs : EM (List D)) : EM D := fun τ st => (fs τ st).bind fun ds s1 => if ds.length = n then mf ds s1 else .bad
theorem ex_call {k : Nat} {fa : Addr} {fd : FuncData} {ps : List Str} {mf : FM} {x : Str} (tk : Takes X W) (F : FnM X.prog X.w X.K X.mg X.base k fa fd ps mf) (hr : Room k X.A) (hg : Gl X x) (hm : X.mg x = some (.ref fa)) (hk : PySem.W.keepIn X.K (.ref fa) = true) (hb : Binds X.K fd ps [])
    (ha : Ea X W (e :: es) fs) (hdb : (x == ("__debug__" : Str)) = false := by decide) (he : starEach (e :: es) X.env = (false, eval e X.env) :: starEach es X.env := by rfl) (hpl : (backTo pos (starEach es X.env)).any (·.1) = false := by rfl) :
    Ex X W (.Call (.Name x p) (e :: es) [] pos) (eCall ps.length mf fs) := by
  refine ⟨fun m τ st σ H Q hL hS hP pins s I => ?_⟩
  refine wpAny_Call_Name_kw (ld_glob I hg hm ?_ hdb)
  have q : wA X (e :: es) σ H fun vs H1 => spM X.K ps.length mf (vs ++ []) H1 Q (WE W σ) := ha.run m τ st σ H _ hL hS (hP.bind fun ds s1 m1 H1 vs e1 hS1 r1 hP1 => by
    split at hP1
    · rename_i hl
      rw [List.append_nil]
      exact ⟨m1, s1, ds, hl, hS1, r1, hP1⟩
    · exact hP1.elim)
  refine PySem.W.callWith_K (h₀ := X.base) I.ok.mod.kin hk (thn (q pos pins s I) fun us s1 ⟨vs, H1, I1, r, q⟩ => ⟨I1.kIn, ?_⟩) he hpl
  exact run_fnSD (E := WE W) F hr hb .nil (passAt tk σ) I1 r q
theorem ex_call0 {k : Nat} {fa : Addr} {fd : FuncData} {ps : List Str} {mf : FM} {x : Str} (tk : Takes X W) (F : FnM X.prog X.w X.K X.mg X.base k fa fd ps mf) (hr : Room k X.A) (hg : Gl X x) (hm : X.mg x = some (.ref fa)) (hk : PySem.W.keepIn X.K (.ref fa) = true) (hb : Binds X.K fd ps [])
    (hdb : (x == ("__debug__" : Str)) = false := by decide) : Ex X W (.Call (.Name x p) [] [] pos) (eCall ps.length mf aNil) := by
  refine ⟨fun m τ st σ H Q hL hS hP pins s I => ?_⟩
  refine wpAny_Call_Name_kw (ld_glob I hg hm ?_ hdb)
  refine PySem.W.callWith_K0 I.kIn hk (run_fnSD (E := WE W) (us := []) (vs := []) F hr hb .nil (passAt tk σ) I .nil ?_)
  have hP : Pe X.K (fun c d H' => W c d σ H') (RD X.K) m H (if ([] : List D).length = ps.length then mf [] st else .bad) Q := hP
  split at hP
  · rename_i hl
    exact ⟨m, st, [], hl, hS, .nil, hP⟩
  · exact hP.elim

/-! ### built-ins by values -/
def CallM (X : Cx) (fv : Value) (g : FM) : Prop :=
  ∃ r, CallR X fv r ∧ ∀ (m : List Addr) (st : Store) (H : Hp) (ds : List D) (vs : List V) (E : XK) (Q : VK), SS X.K m st H → RDs X.K m H ds vs → Pe X.K E (RD X.K) m H (g ds st) Q → r vs H Q
def eCB (mf : FM) (fs : EM (List D)) : EM D := fun τ st => (fs τ st).bind mf
theorem ex_callB {x : Str} {id : String} {mf : FM} (hc : CallM X (.builtin id) mf) (hg : Gl X x) (hm : X.mg x = none) (hv : bootBuiltins x = some (.builtin id)) (ha : Ea X W (e :: es) fs) (hn : x ≠ "__name__" := by decide) (hdb : (x == ("__debug__" : Str)) = false := by decide)
    (he : starEach (e :: es) X.env = (false, eval e X.env) :: starEach es X.env := by rfl) (hpl : (backTo pos (starEach es X.env)).any (·.1) = false := by rfl) : Ex X W (.Call (.Name x p) (e :: es) [] pos) (eCB mf fs) := by
  obtain ⟨r, hr, h⟩ := hc
  refine ⟨fun m τ st σ H Q hL hS hP pins s I => (pe_callB hr hg hm hv paW hn hdb he hpl).run pins s σ H Q I ?_⟩
  exact ha.run m τ st σ H _ hL hS (hP.bind fun ds s1 m1 H1 vs e1 hS1 r1 hP1 => h m1 s1 H1 ds vs _ Q hS1 r1 hP1)
theorem ex_callT {x : Str} {T : String} {mf : FM} (hc : CallM X (.type T) mf) (hg : Gl X x) (hm : X.mg x = none) (hv : bootBuiltins x = some (.type T)) (ha : Ea X W (e :: es) fs) (hn : x ≠ "__name__" := by decide) (hdb : (x == ("__debug__" : Str)) = false := by decide)
    (he : starEach (e :: es) X.env = (false, eval e X.env) :: starEach es X.env := by rfl) (hpl : (backTo pos (starEach es X.env)).any (·.1) = false := by rfl) : Ex X W (.Call (.Name x p) (e :: es) [] pos) (eCB mf fs) := by
  obtain ⟨r, hr, h⟩ := hc
  refine ⟨fun m τ st σ H Q hL hS hP pins s I => (pe_callTy hr hg hm hv paW hn hdb he hpl).run pins s σ H Q I ?_⟩
  exact ha.run m τ st σ H _ hL hS (hP.bind fun ds s1 m1 H1 vs e1 hS1 r1 hP1 => h m1 s1 H1 ds vs _ Q hS1 r1 hP1)
theorem ex_callF {x : Str} {id : String} {mf : FM} (hc : CallM X (.builtin id) mf) (hg : Gl X x) (hm : X.mg x = some (.builtin id)) (ha : Ea X W (e :: es) fs) (hdb : (x == ("__debug__" : Str)) = false := by decide)
    (he : starEach (e :: es) X.env = (false, eval e X.env) :: starEach es X.env := by rfl) (hpl : (backTo pos (starEach es X.env)).any (·.1) = false := by rfl) : Ex X W (.Call (.Name x p) (e :: es) [] pos) (eCB mf fs) := by
  obtain ⟨r, hr, h⟩ := hc
  refine ⟨fun m τ st σ H Q hL hS hP pins s I => (pe_callBfun hr hg hm paW hdb he hpl).run pins s σ H Q I ?_⟩
  exact ha.run m τ st σ H _ hL hS (hP.bind fun ds s1 m1 H1 vs e1 hS1 r1 hP1 => h m1 s1 H1 ds vs _ Q hS1 r1 hP1)
/-- the items of what is a list or a tuple -/
def dSeq (st : Store) : D → Option (List D)
  | .tup xs => some xs
  | .rol xs => some xs
  | .ref n => lstAt st n
  | _ => none
def SqV (K : PySem.W.Frag) (m : List Addr) (H : Hp) (ds : List D) (v : V) : Prop := ∃ a vs, v = .ref a ∧ (SqL K H a vs ∨ SqT K H a vs) ∧ RDs K m H ds vs
theorem dSeq_read {K : PySem.W.Frag} {m : List Addr} {st : Store} {H : Hp} {d : D} {v : V} {xs : List D} (s : SS K m st H) (h : dSeq st d = some xs) (r : RD K m H d v) : SqV K m H xs v := by
  cases r with
  | tup q rs =>
    cases h
    exact ⟨_, _, rfl, .inr q, rs⟩
  | rol q rs =>
    cases h
    exact ⟨_, _, rfl, .inl q.sq, rs⟩
  | ref q =>
    obtain ⟨vs, h1, h2⟩ := s.list h q
    exact ⟨_, vs, rfl, .inl (SqL.of h1), h2⟩
  | _ => cases h
def fLen : FM := fun ds st => match ds with
  | [.str x] => if x.length ≤ 16777216 then .ok (.int x.length) st else .bad
  | [d] => match dSeq st d with
    | some xs => .ok (.int xs.length) st
    | none => .bad
  | _ => .bad
theorem c_len : CallM X (.builtin "len") fLen := ⟨_, call_len_seq.or call_len_str, fun m st H ds vs E Q hS r hP => by
  unfold fLen at hP
  split at hP
  · split at hP
    · rename_i x hl
      obtain ⟨v, rfl, r1⟩ := r.one
      cases r1
      refine .inr ⟨_, rfl, line_of (by simpa [PySem.Str.length] using hl), ?_⟩
      have e : (((⟨x.toArray⟩ : PySem.Str).length : Nat) : Int) = (x.length : Int) := by simp [PySem.Str.length]
      rw [e]
      exact hP.now hS (.int _)
    · exact hP.elim
  · split at hP
    · rename_i xs hx
      obtain ⟨v, rfl, r1⟩ := r.one
      obtain ⟨a, vs, rfl, q, rs⟩ := dSeq_read hS hx r1
      refine .inl ⟨a, vs, rfl, q, ?_⟩
      rw [← rs.len]
      exact hP.now hS (.int _)
    · exact hP.elim
  · exact hP.elim⟩
def fInt : FM := fun ds st => match ds with
  | [.int i] => .ok (.int i) st
  | [.bl b] => .ok (.int (if b then 1 else 0)) st
  | _ => .bad
theorem c_int : CallM X (.type "int") fInt := ⟨_, call_int1, fun m st H ds vs E Q hS r hP => by
  unfold fInt at hP
  split at hP
  · obtain ⟨v, rfl, r1⟩ := r.one
    cases r1
    exact .inl ⟨_, rfl, hP.now hS (.int _)⟩
  · obtain ⟨v, rfl, r1⟩ := r.one
    cases r1
    exact .inr ⟨_, rfl, hP.now hS (.int _)⟩
  · exact hP.elim⟩
def fAbs : FM := fun ds st => match ds with
  | [.int i] => .ok (.int (i.natAbs : Nat)) st
  | _ => .bad
theorem c_abs : CallM X (.builtin "abs") fAbs := ⟨_, call_abs, fun m st H ds vs E Q hS r hP => by
  unfold fAbs at hP
  split at hP
  · rename_i i
    obtain ⟨v, rfl, r1⟩ := r.one
    cases r1
    refine ⟨_, rfl, ?_⟩
    have e : (if i < 0 then -i else i) = ((i.natAbs : Nat) : Int) := by split <;> omega
    rw [e]
    exact hP.now hS (.int _)
  · exact hP.elim⟩
def fGcd : FM := fun ds st => match ds with
  | [.int i, .int j] => .ok (.int (Nat.gcd i.natAbs j.natAbs : Nat)) st
  | _ => .bad
theorem c_gcd : CallM X (.builtin "math.gcd") fGcd := ⟨_, cr_gcd, fun m st H ds vs E Q hS r hP => by
  unfold fGcd at hP
  split at hP
  · obtain ⟨v, u, rfl, r1, r2⟩ := r.two
    cases r1
    cases r2
    exact ⟨_, _, rfl, hP.now hS (.int _)⟩
  · exact hP.elim⟩
def fTuple : FM := fun ds st => match ds with
  | [d] => match dSeq st d with
    | some xs => .ok (.tup xs) st
    | none => .bad
  | _ => .bad
theorem c_tuple : CallM X (.type "tuple") fTuple := ⟨_, call_tuple_of, fun m st H ds vs E Q hS r hP => by
  unfold fTuple at hP
  split at hP
  · split at hP
    · rename_i xs hx
      obtain ⟨v, rfl, r1⟩ := r.one
      obtain ⟨a, vs, rfl, q, rs⟩ := dSeq_read hS hx r1
      rcases q with q | q
      · exact ⟨a, vs, rfl, .inl ⟨q, hP.tup hS rs⟩⟩
      · exact ⟨a, vs, rfl, .inr ⟨q, hP.now hS (.tup q rs)⟩⟩
    · exact hP.elim
  · exact hP.elim⟩
def fList : FM := fun ds st => match ds with
  | [d] => match dSeq st d with
    | some xs => .ok (.ref st.length) (st ++ [.lst xs])
    | none => .bad
  | _ => .bad
theorem c_list : CallM X (.type "list") fList := ⟨_, call_list_of, fun m st H ds vs E Q hS r hP => by
  unfold fList at hP
  split at hP
  · split at hP
    · rename_i xs hx
      obtain ⟨v, rfl, r1⟩ := r.one
      obtain ⟨a, vs, rfl, q, rs⟩ := dSeq_read hS hx r1
      exact ⟨a, vs, rfl, q, hP.lst hS rs⟩
    · exact hP.elim
  · exact hP.elim⟩
def fMin2 : FM := fun ds st => match ds with
  | [.int i, .int j] => .ok (.int (if j < i then j else i)) st
  | _ => .bad
theorem c_min2 (hc : X.calm = true) : CallM X (.builtin "min") fMin2 := ⟨_, call_min2 hc, fun m st H ds vs E Q hS r hP => by
  unfold fMin2 at hP
  split at hP
  · obtain ⟨v, u, rfl, r1, r2⟩ := r.two
    cases r1
    cases r2
    exact ⟨_, _, rfl, hP.now hS (.int _)⟩
  · exact hP.elim⟩
def fMax2 : FM := fun ds st => match ds with
  | [.int i, .int j] => .ok (.int (if j > i then j else i)) st
  | _ => .bad
theorem c_max2 (hc : X.calm = true) : CallM X (.builtin "max") fMax2 := ⟨_, call_max2 hc, fun m st H ds vs E Q hS r hP => by
  unfold fMax2 at hP
  split at hP
  · obtain ⟨v, u, rfl, r1, r2⟩ := r.two
    cases r1
    cases r2
    exact ⟨_, _, rfl, hP.now hS (.int _)⟩
  · exact hP.elim⟩
/-! ### isinstance -/
def dTy (st : Store) : D → Option String
  | .non => some "NoneType"
  | .bl _ => some "bool"
  | .int _ => some "int"
  | .str _ => some "str"
  | .tup _ => some "tuple"
  | .rol _ => some "list"
  | .ref n => (lstAt st n).map fun _ => "list"
  | _ => none
def isiT (a b : String) : Option Bool :=
  if (["NoneType", "bool", "int", "str", "tuple", "list"].contains a && ["bool", "int", "str", "tuple", "list"].contains b) = true then some (decide (a = b) || (decide (a = "bool") && decide (b = "int"))) else none
theorem isiT_ok {a b : String} {r : Bool} (h : isiT a b = some r) : kitB a b = some r := by
  have all : (["NoneType", "bool", "int", "str", "tuple", "list"].all fun a => ["bool", "int", "str", "tuple", "list"].all fun b => decide (kitB a b = some (decide (a = b) || (decide (a = "bool") && decide (b = "int"))))) = true := by decide +kernel
  unfold isiT at h
  split at h
  · rename_i c
    rw [Bool.and_eq_true] at c
    have z := List.all_eq_true.mp (List.all_eq_true.mp all a (List.contains_iff_mem.mp c.1)) b (List.contains_iff_mem.mp c.2)
    rw [of_decide_eq_true z]
    exact h
  · cases h
theorem ty_read {K : PySem.W.Frag} {m : List Addr} {st : Store} {H : Hp} {d : D} {v : V} {t : String} (s : SS K m st H) (h : dTy st d = some t) (r : RD K m H d v) : TyX K H v (.type t) := by
  cases r with
  | non => cases h; exact .base .non
  | bl b => cases h; exact .base (.bl b)
  | int i => cases h; exact .base (.int i)
  | str x => cases h; exact .base (.str _)
  | tup q rs =>
    cases h
    rcases q with (q | ⟨o, q⟩) | ⟨o, its, n, q1, q2, _⟩
    · exact .base (.tup q)
    · exact .fTuple q
    · exact .kTuple q1 q2
  | rol q rs =>
    cases h
    rcases q with ⟨o, q⟩ | ⟨o, its, n, q1, q2, _⟩
    · exact .base (.frz q)
    · exact .kList q1 q2
  | ref q =>
    have h : (lstAt st _).map (fun _ => "list") = some t := h
    simp only [Option.map_eq_some_iff] at h
    obtain ⟨xs, e, rfl⟩ := h
    obtain ⟨vs, h1, h2⟩ := s.list e q
    exact .base (.lst h1)
  | _ => cases h
def fIsi : FM := fun ds st => match ds with
  | [d, .ty c] => match dTy st d with
    | some t => match isiT t c with
      | some b => .ok (.bl b) st
      | none => .bad
    | none => .bad
  | _ => .bad
theorem c_isi : CallM X (.builtin "isinstance") fIsi := ⟨_, call_isi, fun m st H ds vs E Q hS r hP => by
  unfold fIsi at hP
  split at hP
  · split at hP
    · rename_i t ht
      split at hP
      · rename_i b hb
        obtain ⟨v, u, rfl, r1, r2⟩ := r.two
        cases r2
        exact ⟨_, _, _, _, b, rfl, by constructor, ty_read hS ht r1, kit_ty (isiT_ok hb), hP.now hS (.bl _)⟩
      · exact hP.elim
    · exact hP.elim
  · exact hP.elim⟩

/-! ### fresh lists, sequences as arguments -/
/-- an expression that makes a list that nobody else has -/
structure El (X : Cx) (W : WX) (e : Expr) (f : EM (List D)) : Prop where
  run : ∀ (m : List Addr) (τ : Sl) (st : Store) (σ : L2.St) (H : Hp) (Q : VK), SL X.K m H τ σ → SS X.K m st H →
    Pe X.K (fun c d H' => W c d σ H') (fun m' H' ds v => ∃ a vs, v = .ref a ∧ H' a = some (.lst vs) ∧ a ∉ m' ∧ H a = none ∧ RDs X.K m' H' ds vs) m H (f τ st) Q → wE X e σ H Q
def eEl (f : EM (List D)) : EM D := fun τ st => (f τ st).bind fun ds s1 => .ok (.ref s1.length) (s1 ++ [.lst ds])
theorem Ext.back {K : PySem.W.Frag} {m m1 : List Addr} {H H1 : Hp} {s1 : Store} {a : Addr} (e : Ext K m H m1 H1) (s : SS K m1 s1 H1) (h : H1 a = none) : H a = none := by
  cases q : H a with
  | none => rfl
  | some o =>
    by_cases hm : a ∈ m
    · exact absurd (e.mem hm) (s.notin h)
    · rw [e.frm a o hm q] at h
      cases h
theorem Ext.own {K : PySem.W.Frag} {m m1 : List Addr} {H H1 : Hp} {a : Addr} (e : Ext K m H m1 H1) (h : H a = none) : Ext K m H (m1 ++ [a]) H1 where
  pre := fun n b q => by
    have z := e.pre n b q
    rw [List.getElem?_append_left (List.getElem?_eq_some_iff.mp z).1]
    exact z
  tup := e.tup
  fzl := e.fzl
  frm := e.frm
  new := fun b q n => by
    rcases List.mem_append.mp q with q | q
    · exact e.new b q n
    · have z : b = a := by simpa using q
      rw [z]
      exact h
theorem ex_el {fl : EM (List D)} (h : El X W e fl) : Ex X W e (eEl fl) := by
  refine ⟨fun m τ st σ H Q hL hS hP => h.run m τ st σ H Q hL hS ?_⟩
  unfold eEl at hP
  cases hq : fl τ st with
  | ok ds s1 =>
    rw [hq] at hP
    intro m1 H1 v e1 hS1 ⟨a, vs, e, ha, na, hn, rs⟩
    subst e
    refine hP (m1 ++ [a]) H1 (.ref a) (e1.own hn) (hS1.grow na ⟨vs, ha, rs.kp Kp.grow⟩) (.ref ?_)
    rw [← hS1.len]
    simp
  | exc x st' =>
    rw [hq] at hP
    exact hP
  | bad =>
    rw [hq] at hP
    exact hP.elim
/-- the items of an expression's list or tuple -/
structure Es (X : Cx) (W : WX) (e : Expr) (f : EM (List D)) : Prop where
  run : ∀ (m : List Addr) (τ : Sl) (st : Store) (σ : L2.St) (H : Hp) (Q : VK), SL X.K m H τ σ → SS X.K m st H → Pe X.K (fun c d H' => W c d σ H') (SqV X.K) m H (f τ st) Q → wE X e σ H Q
theorem es_el {fl : EM (List D)} (h : El X W e fl) : Es X W e fl := by
  refine ⟨fun m τ st σ H Q hL hS hP => h.run m τ st σ H Q hL hS ?_⟩
  cases hq : fl τ st with
  | ok ds s1 =>
    rw [hq] at hP
    intro m1 H1 v e1 hS1 ⟨a, vs, e, ha, na, hn, rs⟩
    exact hP m1 H1 v e1 hS1 ⟨a, vs, e, .inl (SqL.of ha), rs⟩
  | exc x st' =>
    rw [hq] at hP
    exact hP
  | bad =>
    rw [hq] at hP
    exact hP.elim
def sEx (f : EM D) : EM (List D) := fun τ st => (f τ st).bind fun d s1 => match dSeq s1 d with
  | some xs => .ok xs s1
  | none => .bad
theorem es_ex (h : Ex X W e f) : Es X W e (sEx f) := by
  refine ⟨fun m τ st σ H Q hL hS hP => h.run m τ st σ H Q hL hS (hP.bind fun d s1 m1 H1 v e1 hS1 r1 hP1 => ?_)⟩
  split at hP1
  · rename_i xs hx
    exact hP1.now hS1 (dSeq_read hS1 hx r1)
  · exact hP1.elim
/-- a built-in of one argument, by its items -/
abbrev SM1 := List D → Store → ER D
def CallS (X : Cx) (fv : Value) (g : SM1) : Prop :=
  ∃ r, CallR X fv r ∧ ∀ (m : List Addr) (st : Store) (H : Hp) (ds : List D) (v : V) (E : XK) (Q : VK), SS X.K m st H → SqV X.K m H ds v → Pe X.K E (RD X.K) m H (g ds st) Q → r [v] H Q
def eCS (g : SM1) (f : EM (List D)) : EM D := fun τ st => (f τ st).bind g
theorem ex_callBs {x : Str} {id : String} {g : SM1} {fl : EM (List D)} (hc : CallS X (.builtin id) g) (hg : Gl X x) (hm : X.mg x = none) (hv : bootBuiltins x = some (.builtin id)) (ha : Es X W e fl) (hn : x ≠ "__name__" := by decide) (hdb : (x == ("__debug__" : Str)) = false := by decide)
    (he : starEach [e] X.env = (false, eval e X.env) :: starEach [] X.env := by rfl) (hpl : (backTo pos (starEach [] X.env)).any (·.1) = false := by rfl) : Ex X W (.Call (.Name x p) [e] [] pos) (eCS g fl) := by
  obtain ⟨r, hr, h⟩ := hc
  refine ⟨fun m τ st σ H Q hL hS hP pins s I => (pe_callB hr hg hm hv (pa_cons peW pa_nil he) hn hdb he hpl).run pins s σ H Q I ?_⟩
  exact ha.run m τ st σ H _ hL hS (hP.bind fun ds s1 m1 H1 v e1 hS1 r1 hP1 => h m1 s1 H1 ds v _ Q hS1 r1 hP1)
theorem ex_callTs {x : Str} {T : String} {g : SM1} {fl : EM (List D)} (hc : CallS X (.type T) g) (hg : Gl X x) (hm : X.mg x = none) (hv : bootBuiltins x = some (.type T)) (ha : Es X W e fl) (hn : x ≠ "__name__" := by decide) (hdb : (x == ("__debug__" : Str)) = false := by decide)
    (he : starEach [e] X.env = (false, eval e X.env) :: starEach [] X.env := by rfl) (hpl : (backTo pos (starEach [] X.env)).any (·.1) = false := by rfl) : Ex X W (.Call (.Name x p) [e] [] pos) (eCS g fl) := by
  obtain ⟨r, hr, h⟩ := hc
  refine ⟨fun m τ st σ H Q hL hS hP pins s I => (pe_callTy hr hg hm hv (pa_cons peW pa_nil he) hn hdb he hpl).run pins s σ H Q I ?_⟩
  exact ha.run m τ st σ H _ hL hS (hP.bind fun ds s1 m1 H1 v e1 hS1 r1 hP1 => h m1 s1 H1 ds v _ Q hS1 r1 hP1)
def gTuple : SM1 := fun xs st => .ok (.tup xs) st
theorem s_tuple : CallS X (.type "tuple") gTuple := ⟨_, call_tuple_of, fun m st H ds v E Q hS r hP => by
  obtain ⟨a, vs, rfl, q, rs⟩ := r
  rcases q with q | q
  · exact ⟨a, vs, rfl, .inl ⟨q, hP.tup hS rs⟩⟩
  · exact ⟨a, vs, rfl, .inr ⟨q, hP.now hS (.tup q rs)⟩⟩⟩
def gLen : SM1 := fun xs st => .ok (.int xs.length) st
theorem s_len : CallS X (.builtin "len") gLen := ⟨_, call_len_seq, fun m st H ds v E Q hS r hP => by
  obtain ⟨a, vs, rfl, q, rs⟩ := r
  refine ⟨a, vs, rfl, q, ?_⟩
  rw [← rs.len]
  exact hP.now hS (.int _)⟩

/-! ### targets -/
def wG (X : Cx) (tg : Expr) : TG := fun v σ H Q => ∀ (pins : List (Addr × Obj)) (s : Shared) (u : Value), Inv X pins σ H s → RelV v u → wpAny (model X.prog X.w) X.A (assign tg X.env u) (fun _ s' => ∃ σ' H', Inv X pins σ' H' s' ∧ Q σ' H') X.xe s
theorem pgW {X : Cx} {tg : Expr} : PG X tg (wG X tg) := ⟨fun pins s σ H v u Q I r h => h pins s u I r⟩
/-- a target: the slots at ix are set -/
structure Eg (X : Cx) (tg : Expr) (ix : List Nat) (set : D → Sl → Option Sl) : Prop where
  run : ∀ (m : List Addr) (τ τ' : Sl) (st : Store) (σ : L2.St) (H : Hp) (d : D) (v : V) (Q : L2.St → Hp → Prop), SL X.K m H τ σ → SS X.K m st H → RD X.K m H d v → set d τ = some τ' →
    (∀ σ', σ'.length = σ.length → (∀ j, j ∉ ix → σ'[j]? = σ[j]?) → SL X.K m H τ' σ' → Q σ' H) → wG X tg v σ H Q
def gN (i : Nat) : D → Sl → Option Sl := fun d τ => some (τ.set i (some d))
theorem eg_name {i : Nat} {x : Str} (hN : X.N.Nodup) (hi : X.N[i]? = some x := by rfl) (hx : Loc X.env.scope x := by first | exact Or.inl rfl | exact Or.inr rfl) (hf : X.fn x = true ∨ X.env.scope.names.lookup x = some .local := by first | exact .inl rfl | exact .inr rfl) : Eg X (.Name x pos) [i] (gN i) := by
  refine ⟨fun m τ τ' st σ H d v Q hL hS r e k pins s u I ru => (pg_name hN hi hx hf).run pins s σ H v u Q I ru ?_⟩
  cases e
  exact k _ (by simp) (fun j hj => List.getElem?_set_ne (fun z => hj (by simp [z]))) (hL.set i r)
/-- several names, one after another -/
structure Egs (X : Cx) (ts : List Expr) (ix : List Nat) (set : List D → Sl → Option Sl) : Prop where
  run : ∃ t : TGs, PGs X ts t ∧ ∀ (m : List Addr) (τ τ' : Sl) (σ : L2.St) (H : Hp) (ds : List D) (vs : List V) (Q : L2.St → Hp → Prop), SL X.K m H τ σ → RDs X.K m H ds vs → set ds τ = some τ' →
    (∀ σ', σ'.length = σ.length → (∀ j, j ∉ ix → σ'[j]? = σ[j]?) → SL X.K m H τ' σ' → Q σ' H) → t vs σ H Q
def gNil0 : List D → Sl → Option Sl := fun ds τ => match ds with
  | [] => some τ
  | _ => none
theorem egs_nil : Egs X [] [] gNil0 := ⟨_, pgs_nil, fun m τ τ' σ H ds vs Q hL r e k => by
    cases r with
    | nil =>
      cases e
      exact ⟨rfl, k σ rfl (fun _ _ => rfl) hL⟩
    | cons _ _ => cases e⟩
def gCs (i : Nat) (set : List D → Sl → Option Sl) : List D → Sl → Option Sl := fun ds τ => match ds with
  | d :: r => set r (τ.set i (some d))
  | [] => none
theorem egs_cons {i : Nat} {ix : List Nat} {x : Str} {ts : List Expr} {set : List D → Sl → Option Sl} (hN : X.N.Nodup) (hr : Egs X ts ix set) (hi : X.N[i]? = some x := by rfl) (hx : Loc X.env.scope x := by first | exact Or.inl rfl | exact Or.inr rfl) (hf : X.fn x = true ∨ X.env.scope.names.lookup x = some .local := by first | exact .inl rfl | exact .inr rfl)
    (hs : (assignEach (.Name x pos :: ts) X.env).map (·.2) = assign (.Name x pos) X.env :: (assignEach ts X.env).map (·.2) := by rfl) : Egs X (.Name x pos :: ts) (i :: ix) (gCs i set) := by
  obtain ⟨t, ht, h⟩ := hr
  refine ⟨_, pgs_cons (pg_name hN hi hx hf) ht hs, fun m τ τ' σ H ds vs Q hL r e k => ?_⟩
  cases r with
  | nil => cases e
  | cons r1 r2 =>
    refine ⟨_, _, rfl, h m _ τ' _ H _ _ Q (hL.set i r1) r2 e fun σ' l q s => k σ' (by rw [l, List.length_set]) (fun j hj => ?_) s⟩
    rw [q j fun z => hj (List.mem_cons_of_mem _ z)]
    exact List.getElem?_set_ne (fun z => hj (by simp [z]))
def gT (n : Nat) (set : List D → Sl → Option Sl) : D → Sl → Option Sl := fun d τ => match d with
  | .tup ds => if ds.length = n then set ds τ else none
  | _ => none
theorem eg_tup {ts : List Expr} {kk : Nat} {ix : List Nat} {set : List D → Sl → Option Sl} {n : Nat} (hc : X.calm = true) (h : Egs X ts ix set) (hn : (assignEach ts X.env).length = n := by rfl) (hst : (assignEach ts X.env).findIdx? (·.1) = none := by rfl) : Eg X (.Tuple ts kk pos) ix (gT n set) := by
  obtain ⟨t, ht, h⟩ := h
  refine ⟨fun m τ τ' st σ H d v Q hL hS r e k pins s u I ru => (pg_tup hc ht hn hst).run pins s σ H v u Q I ru ?_⟩
  unfold gT at e
  split at e
  · split at e
    · rename_i hl
      cases r with
      | tup q rs => exact ⟨_, _, rfl, q, by rw [← rs.len]; exact hl, h m τ τ' σ H _ _ Q hL rs e k⟩
    · cases e
  · cases e

/-! ### what is walked -/
inductive Sq where
  /-- items that stay -/
  | fix (xs : List D)
  /-- the items of a list of the store's, which must stay as long as it is walked -/
  | cell (n : Nat) (xs : List D)
  /-- pairs of the items of two lists of the store's -/
  | two (n k : Nat) (xs ys : List D)
/-- pairs -/
def zipD (xs ys : List D) : List D := (List.zip xs ys).map fun p => .tup [p.1, p.2]
def Sq.items : Sq → List D
  | .fix xs => xs
  | .cell _ xs => xs
  | .two _ _ xs ys => zipD xs ys
def Sq.chk (q : Sq) (st : Store) : Bool := match q with
  | .fix _ => true
  | .cell n xs => decide (lstAt st n = some xs)
  | .two n k xs ys => decide (lstAt st n = some xs) && decide (lstAt st k = some ys)
def JOk (K : PySem.W.Frag) (m0 : List Addr) (H0 : Hp) (q : Sq) (J : It) : Prop :=
  ∀ (m : List Addr) (H : Hp) (st : Store), Ext K m0 H0 m H → SS K m st H → q.chk st = true →
    (∀ (i : Nat) (d : D), q.items[i]? = some d → J.go i H ∧ ∀ x H', J.yld i H x H' → Ext K m H m H' ∧ SS K m st H' ∧ RD K m H' d x) ∧ J.stop q.items.length H
def wI (X : Cx) (tg iter : Expr) : TI := fun σ H R => ∀ (pins : List (Addr × Obj)) (s : Shared), Inv X pins σ H s → wpAny (model X.prog X.w) X.A (eval iter X.env) (fun v s1 => wpAny (model X.prog X.w) X.A (pyIter v) (PIE X pins σ tg R) X.xe s1) X.xe s
theorem piW {X : Cx} {tg iter : Expr} : PI X tg iter (wI X tg iter) := ⟨fun pins s σ H R I h => h pins s I⟩
structure Ei (X : Cx) (W : WX) (tg iter : Expr) (f : EM Sq) : Prop where
  run : ∀ (m : List Addr) (τ : Sl) (st : Store) (σ : L2.St) (H : Hp) (R : It → Hp → Prop), SL X.K m H τ σ → SS X.K m st H → Pe X.K (fun c d H' => W c d σ H') (JOk X.K) m H (f τ st) R → wI X tg iter σ H R
theorem j_list {K : PySem.W.Frag} {m0 : List Addr} {H0 : Hp} {a : Addr} {q : Sq} (h : ∀ (m : List Addr) (H : Hp) (st : Store), Ext K m0 H0 m H → SS K m st H → q.chk st = true → ∃ vs, SqL K H a vs ∧ RDs K m H q.items vs) : JOk K m0 H0 q (Itl K a) := fun m H st e s hc => by
  obtain ⟨vs, hq, rs⟩ := h m H st e s hc
  refine ⟨fun i d hd => ?_, ⟨vs, hq, by rw [rs.len]; exact Nat.le_refl _⟩⟩
  obtain ⟨v, hv, r⟩ := rs.get hd
  refine ⟨⟨vs, v, hq, hv⟩, fun x H' hy => ?_⟩
  obtain ⟨rfl, y⟩ := hy
  have z := y vs hq
  rw [hv] at z
  cases z
  exact ⟨.refl, s, r⟩
theorem j_tup {K : PySem.W.Frag} {m0 : List Addr} {H0 : Hp} {a : Addr} {vs : List V} {xs : List D} (hq : SqT K H0 a vs) (rs : RDs K m0 H0 xs vs) : JOk K m0 H0 (.fix xs) (Itt K a) := fun m H st e s _ => by
  have hq' := e.tup a vs hq
  have rs' := rs.mono e
  refine ⟨fun i d hd => ?_, ⟨vs, hq', by show vs.length ≤ xs.length; rw [← rs.len]; exact Nat.le_refl _⟩⟩
  obtain ⟨v, hv, r⟩ := rs'.get (show xs[i]? = some d from hd)
  refine ⟨⟨vs, v, hq', hv⟩, fun x H' hy => ?_⟩
  obtain ⟨rfl, y⟩ := hy
  have z := y vs hq'
  rw [hv] at z
  cases z
  exact ⟨.refl, s, r⟩
def dSq (st : Store) : D → Option Sq
  | .tup xs => some (.fix xs)
  | .rol xs => some (.fix xs)
  | .ref n => (lstAt st n).map (.cell n)
  | .str x => some (.fix (x.map fun c => .str [c]))
  | _ => none
def iEx (f : EM D) : EM Sq := fun τ st => (f τ st).bind fun d s1 => match dSq s1 d with
  | some q => .ok q s1
  | none => .bad
theorem j_str {K : PySem.W.Frag} {m0 : List Addr} {H0 : Hp} (x : List Nat) : JOk K m0 H0 (.fix (x.map fun c => .str [c])) (Its ⟨x.toArray⟩) := fun m H st e s _ => by
  refine ⟨fun i d hd => ?_, ?_⟩
  · have hd : (x.map fun c => D.str [c])[i]? = some d := hd
    rw [List.getElem?_map] at hd
    cases hx : x[i]? with
    | none =>
      rw [hx] at hd
      cases hd
    | some c =>
      rw [hx] at hd
      cases hd
      refine ⟨(List.getElem?_eq_some_iff.mp hx).1, fun y H' hy => ?_⟩
      obtain ⟨e, c', h1, h2⟩ := hy
      subst e
      have h3 : x[i]? = some c' := by simpa using h1
      rw [hx] at h3
      cases h3
      subst h2
      exact ⟨.refl, s, .str [c]⟩
  · show (⟨x.toArray⟩ : PySem.Str).cps.size ≤ (x.map fun c => D.str [c]).length
    simp
theorem ei_ex {tg : Expr} (h : Ex X W e f) : Ei X W tg e (iEx f) := by
  refine ⟨fun m τ st σ H R hL hS hP pins s I => ?_⟩
  unfold iEx at hP
  have hrun := h.run m τ st σ H
  cases hq : f τ st with
  | bad =>
    rw [hq] at hP
    exact hP.elim
  | exc x s1 =>
    rw [hq] at hP
    refine (pi_list (tg := tg) peW).run pins s σ H R I (hrun _ hL hS ?_)
    rw [hq]
    exact hP
  | ok d s1 =>
    rw [hq] at hP
    have hP : Pe X.K (fun c d H' => W c d σ H') (JOk X.K) m H (match dSq s1 d with
      | some q => .ok q s1
      | none => .bad) R := hP
    cases hd : dSq s1 d with
    | none =>
      rw [hd] at hP
      exact hP.elim
    | some q =>
      rw [hd] at hP
      cases d with
      | tup xs =>
        cases hd
        refine (pi_tup (tg := tg) peW).run pins s σ H R I (hrun _ hL hS ?_)
        rw [hq]
        intro m1 H1 v e1 hS1 r1
        cases r1 with
        | tup sq rs => exact ⟨_, rfl, ⟨_, sq⟩, hP m1 H1 _ e1 hS1 (j_tup sq rs)⟩
      | rol xs =>
        cases hd
        refine (pi_list (tg := tg) peW).run pins s σ H R I (hrun _ hL hS ?_)
        rw [hq]
        intro m1 H1 v e1 hS1 r1
        cases r1 with
        | rol sq rs => exact ⟨_, rfl, ⟨_, sq.sq⟩, hP m1 H1 _ e1 hS1 (j_list fun m H st e s _ => ⟨_, (e.fzl _ _ sq).sq, rs.mono e⟩)⟩
      | ref n =>
        have hd : (lstAt s1 n).map (Sq.cell n) = some q := hd
        simp only [Option.map_eq_some_iff] at hd
        obtain ⟨xs, hx, rfl⟩ := hd
        refine (pi_list (tg := tg) peW).run pins s σ H R I (hrun _ hL hS ?_)
        rw [hq]
        intro m1 H1 v e1 hS1 r1
        cases r1 with
        | ref z =>
          obtain ⟨vs, h1, h2⟩ := hS1.list hx z
          refine ⟨_, rfl, ⟨vs, SqL.of h1⟩, hP m1 H1 _ e1 hS1 (j_list fun m H st e s hc => ?_)⟩
          obtain ⟨us, h3, h4⟩ := s.list (of_decide_eq_true hc) (e.pre _ _ z)
          exact ⟨us, SqL.of h3, h4⟩
      | str x =>
        cases hd
        refine (pi_str (tg := tg) peW).run pins s σ H R I (hrun _ hL hS ?_)
        rw [hq]
        intro m1 H1 v e1 hS1 r1
        cases r1
        exact ⟨_, rfl, hP m1 H1 _ e1 hS1 (j_str x)⟩
      | _ => cases hd
def iEl (f : EM (List D)) : EM Sq := fun τ st => (f τ st).bind fun xs s1 => .ok (.fix xs) s1
theorem ei_el {tg : Expr} {fl : EM (List D)} (h : El X W e fl) : Ei X W tg e (iEl fl) := by
  refine ⟨fun m τ st σ H R hL hS hP pins s I => (pi_list (tg := tg) peW).run pins s σ H R I (h.run m τ st σ H _ hL hS ?_)⟩
  unfold iEl at hP
  cases hq : fl τ st with
  | ok ds s1 =>
    rw [hq] at hP
    intro m1 H1 v e1 hS1 ⟨a, vs, e, ha, na, hn, rs⟩
    exact ⟨a, e, ⟨vs, SqL.of ha⟩, hP m1 H1 _ e1 hS1 (j_list fun m H st e s _ => ⟨vs, SqL.of (e.frm _ _ na ha), rs.mono e⟩)⟩
  | exc x st' =>
    rw [hq] at hP
    exact hP
  | bad =>
    rw [hq] at hP
    exact hP.elim
/-- lo, lo + 1, .. below hi -/
def rng (lo hi : Int) : List D := (List.range (hi - lo).toNat).map fun k => D.int (lo + (k : Nat))
theorem j_rng {K : PySem.W.Frag} {m0 : List Addr} {H0 : Hp} (lo hi : Int) : JOk K m0 H0 (.fix (rng lo hi)) (Itr lo (hi - lo).toNat) := fun m H st e s _ => by
  refine ⟨fun i d hd => ?_, ?_⟩
  · have hd : (rng lo hi)[i]? = some d := hd
    unfold rng at hd
    rw [List.getElem?_map] at hd
    cases hx : (List.range (hi - lo).toNat)[i]? with
    | none =>
      rw [hx] at hd
      cases hd
    | some k =>
      rw [hx] at hd
      cases hd
      obtain ⟨h1, h2⟩ := List.getElem?_eq_some_iff.mp hx
      rw [List.length_range] at h1
      rw [List.getElem_range] at h2
      subst h2
      refine ⟨h1, fun y H' hy => ?_⟩
      obtain ⟨rfl, rfl⟩ := hy
      exact ⟨.refl, s, .int _⟩
  · show (hi - lo).toNat ≤ (rng lo hi).length
    simp [rng]
def okRng (j : Int) : Bool := decide (j.natAbs < 4611686018427387904)
theorem okRng_ok {j : Int} (h : okRng j = true) : -(2 ^ 62) ≤ j ∧ j < 2 ^ 62 := by
  have q : j.natAbs < 4611686018427387904 := of_decide_eq_true h
  have q' : -4611686018427387904 ≤ j ∧ j < 4611686018427387904 := by omega
  exact q'
def iRg1 (f : EM D) : EM Sq := fun τ st => (f τ st).bind fun d s1 => match d with
  | .int j => if okRng j then .ok (.fix (rng 0 j)) s1 else .bad
  | _ => .bad
def iRg2 (fa fb : EM D) : EM Sq := fun τ st => (fa τ st).bind fun d s1 => (fb τ s1).bind fun e s2 => match d, e with
  | .int i, .int j => if okRng i && okRng j then .ok (.fix (rng i j)) s2 else .bad
  | _, _ => .bad
theorem ei_range1 {tg : Expr} (hg : Gl X "range") (hm : X.mg "range" = none) (ha : Ex X W a fa) (hs : starEach [a] X.env = [(false, eval a X.env)] := by rfl) : Ei X W tg (.Call (.Name "range" p) [a] [] pos) (iRg1 fa) := by
  refine ⟨fun m τ st σ H R hL hS hP pins s I => (pi_range1 (tg := tg) hg hm (pa_cons peW pa_nil (by rw [hs]; rfl)) hs).run pins s σ H R I (ha.run m τ st σ H _ hL hS (hP.bind fun d s1 m1 H1 v e1 hS1 r1 hP1 => ?_))⟩
  split at hP1
  · split at hP1
    · rename_i j hj
      cases r1
      obtain ⟨q1, q2⟩ := okRng_ok hj
      refine ⟨j, rfl, q1, q2, hP1.now hS1 ?_⟩
      have z := j_rng (K := X.K) (m0 := m1) (H0 := H1) 0 j
      rw [Int.sub_zero] at z
      exact z
    · exact hP1.elim
  · exact hP1.elim
theorem ei_range2 {tg : Expr} (hg : Gl X "range") (hm : X.mg "range" = none) (ha : Ex X W a fa) (hb : Ex X W b fb) (hs : starEach [a, b] X.env = [(false, eval a X.env), (false, eval b X.env)] := by rfl) (hs2 : starEach [b] X.env = [(false, eval b X.env)] := by rfl) :
    Ei X W tg (.Call (.Name "range" p) [a, b] [] pos) (iRg2 fa fb) := by
  refine ⟨fun m τ st σ H R hL hS hP pins s I => (pi_range2 (tg := tg) hg hm (pa_cons peW (pa_cons peW pa_nil (by rw [hs2]; rfl)) (by rw [hs, hs2])) hs hs2).run pins s σ H R I ?_⟩
  refine two ha hb hL hS hP fun m2 st2 H2 dx dy x y e2 hS2 r1 r2 hP2 => ?_
  split at hP2
  · split at hP2
    · rename_i i j hij
      cases r1
      cases r2
      rw [Bool.and_eq_true] at hij
      obtain ⟨q1, q2⟩ := okRng_ok hij.1
      obtain ⟨q3, q4⟩ := okRng_ok hij.2
      exact ⟨i, j, rfl, ⟨q1, q2, q3, q4⟩, hP2.now hS2 (j_rng i j)⟩
    · exact hP2.elim
  · exact hP2.elim

/-! ### comprehensions -/
def wipeD (τ : Sl) : List Nat → Sl
  | [] => τ
  | v :: vs => (wipeD τ vs).set v none
theorem wipeD_some {τ : Sl} {i : Nat} {d : D} : ∀ {vs : List Nat}, (wipeD τ vs)[i]? = some (some d) → τ[i]? = some (some d) ∧ i ∉ vs
  | [], h => ⟨h, by simp⟩
  | v :: vs, h => by
    unfold wipeD at h
    by_cases hi : v = i
    · subst hi
      by_cases hv : v < (wipeD τ vs).length
      · rw [List.getElem?_set_self hv] at h
        cases h
      · rw [List.getElem?_eq_none (by simpa using hv)] at h
        cases h
    · rw [List.getElem?_set_ne hi] at h
      obtain ⟨h1, h2⟩ := wipeD_some h
      exact ⟨h1, by simp only [List.mem_cons, not_or]; exact ⟨fun e => hi e.symm, h2⟩⟩
theorem wipeD_len (τ : Sl) : ∀ vs : List Nat, (wipeD τ vs).length = τ.length
  | [] => rfl
  | v :: vs => by unfold wipeD; rw [List.length_set, wipeD_len τ vs]
theorem SL.wipe {K : PySem.W.Frag} {m : List Addr} {H : Hp} {τ : Sl} {σ : L2.St} (s : SL K m H τ σ) (vs : List Nat) : SL K m H (wipeD τ vs) (L2.wipe σ vs) :=
  ⟨by rw [wipeD_len, wipe_length, s.len], fun i d h => by
    obtain ⟨h1, h2⟩ := wipeD_some h
    obtain ⟨v, h3, h4⟩ := s.get i d h1
    exact ⟨v, by rw [wipe_out h2]; exact h3, h4⟩⟩
theorem wipe_same {σ σ' : L2.St} {vs : List Nat} (hl : σ'.length = σ.length) (h : ∀ j, j ∉ vs → σ'[j]? = σ[j]?) : L2.wipe σ' vs = L2.wipe σ vs := by
  apply List.ext_getElem?
  intro i
  by_cases hi : i ∈ vs
  · have z : ∀ (τ : L2.St) (us : List Nat), i ∈ us → (L2.wipe τ us)[i]? = if i < τ.length then some none else none := by
      intro τ us
      induction us with
      | nil => intro q; cases q
      | cons u us ih =>
        intro q
        unfold L2.wipe
        by_cases hu : u = i
        · subst hu
          split
          · rename_i hlt
            rw [List.getElem?_set_self (by rw [wipe_length]; exact hlt)]
          · rename_i hlt
            exact List.getElem?_eq_none (by rw [List.length_set, wipe_length]; omega)
        · rw [List.getElem?_set_ne hu]
          exact ih ((List.mem_cons.mp q).resolve_left fun e => hu e.symm)
    rw [z σ' vs hi, z σ vs hi, hl]
  · rw [wipe_out hi, wipe_out hi, h i hi]
/-- no exception leaves here -/
def _root_.HM.ER.bindN {α β : Type} (r : ER α) (k : α → Store → ER β) : ER β := match r with
  | .ok a st => k a st
  | _ => .bad
@[simp] theorem _root_.HM.ER.bindN_ok {α β : Type} (a : α) (st : Store) (k : α → Store → ER β) : (ER.ok a st).bindN k = k a st := rfl
theorem Pe.bindN {α β γ δ : Type} {K : PySem.W.Frag} {E E' : XK} {R : List Addr → Hp → α → β → Prop} {S : List Addr → Hp → γ → δ → Prop} {m : List Addr} {H : Hp} {r : ER α} {Q : β → Hp → Prop} {k : α → Store → ER γ} {Q' : δ → Hp → Prop} (h : Pe K E S m H (r.bindN k) Q')
    (hk : ∀ a st m' H' b, Ext K m H m' H' → SS K m' st H' → R m' H' a b → Pe K E S m' H' (k a st) Q' → Q b H') : Pe K E' R m H r Q := by
  cases r with
  | ok a st => exact fun m' H' b e s q => hk a st m' H' b e s q (Pe.up h e)
  | exc x st => exact h.elim
  | bad => exact h
/-- .. read from an earlier heap -/
theorem Pe.from {α β γ δ : Type} {K : PySem.W.Frag} {E E' : XK} {R : List Addr → Hp → α → β → Prop} {S : List Addr → Hp → γ → δ → Prop} {m m1 : List Addr} {H H1 : Hp} {r : ER α} {Q : β → Hp → Prop} {k : α → Store → ER γ} {Q' : δ → Hp → Prop} (h : Pe K E S m1 H1 (r.bindN k) Q')
    (hk : ∀ a st m' H' b, Ext K m H m' H' → SS K m' st H' → R m' H' a b → Pe K E S m1 H1 (k a st) Q' → Q b H') : Pe K E' R m H r Q := by
  cases r with
  | ok a st => exact fun m' H' b e s q => hk a st m' H' b e s q h
  | exc x st => exact h.elim
  | bad => exact h
/-- the turns of a comprehension -/
def compL (q : Sq) (set : D → Sl → Option Sl) (ft : EM Bool) (fe : EM D) (τ : Sl) : List D → List D → Store → ER (List D)
  | [], acc => fun st => if q.chk st then .ok acc st else .bad
  | d :: ds, acc => fun st => if q.chk st then match set d τ with
    | some τ1 => (ft τ1 st).bindN fun b s1 => if b then (fe τ1 s1).bindN fun x s2 => compL q set ft fe τ ds (acc ++ [x]) s2 else compL q set ft fe τ ds acc s1
    | none => .bad
  else .bad
def lComp (own : List Nat) (fi : EM Sq) (set : D → Sl → Option Sl) (ft : EM Bool) (fe : EM D) : EM (List D) := fun τ st => (fi τ st).bind fun q s1 =>
  if q.items.length ≤ 16777216 then compL q set ft fe (wipeD τ own) q.items [] s1 else .bad
/-- tests of a comprehension -/
def wTs (X : Cx) (ifs : List Expr) : TT := fun σ H Q => ∀ (pins : List (Addr × Obj)) (s : Shared), Inv X pins σ H s → wpAny (model X.prog X.w) X.A (forIn ifs true fun c r => if r = true then do let ok ← isTrue c X.env (eval c X.env); pure (ForInStep.yield ok) else pure (ForInStep.yield r)) (TP X pins σ Q) X.xe s
theorem ptsW {X : Cx} {ifs : List Expr} : PTs X ifs (wTs X ifs) := ⟨fun pins s σ H Q I h => h pins s I⟩
structure Ets (X : Cx) (W : WX) (ifs : List Expr) (f : EM Bool) : Prop where
  run : ∀ (m : List Addr) (τ : Sl) (st : Store) (σ : L2.St) (H : Hp) (Q : Bool → Hp → Prop), SL X.K m H τ σ → SS X.K m st H → Pe X.K (fun c d H' => W c d σ H') RB m H (f τ st) Q → wTs X ifs σ H Q
def tYes : EM Bool := fun _ st => .ok true st
theorem ets_nil : Ets X W [] tYes := ⟨fun m τ st σ H Q hL hS hP pins s I => pts_nil.run pins s σ H Q I (hP.now hS rfl)⟩
theorem ets_one (h : Et X W e g) : Ets X W [e] g := ⟨fun m τ st σ H Q hL hS hP pins s I => (pts_one ptW).run pins s σ H Q I (h.run m τ st σ H Q hL hS hP)⟩
abbrev W0 : WX := fun _ _ _ _ => False
/-- the context of a block, whatever it starts at -/
abbrev Blk (X : Cx) (scope : Scope) (P : Cx → Prop) : Prop := ∀ (s : Shared) (H : Hp) (C : Addr) (cl : List (Str × Addr)) (fp : List Addr), P (X.blk s H scope (compEnvC scope cl C X.env) fp)
abbrev BEx (X : Cx) (scope : Scope) (elt : Expr) (fe : EM D) : Prop := ∀ (s : Shared) (H : Hp) (C : Addr) (cl : List (Str × Addr)) (fp : List Addr), Ex (X.blk s H scope (compEnvC scope cl C X.env) fp) W0 elt fe
abbrev BEt (X : Cx) (scope : Scope) (ifs : List Expr) (ft : EM Bool) : Prop := ∀ (s : Shared) (H : Hp) (C : Addr) (cl : List (Str × Addr)) (fp : List Addr), Ets (X.blk s H scope (compEnvC scope cl C X.env) fp) W0 ifs ft
abbrev BEg (X : Cx) (scope : Scope) (tg : Expr) (ix : List Nat) (set : D → Sl → Option Sl) : Prop := ∀ (s : Shared) (H : Hp) (C : Addr) (cl : List (Str × Addr)) (fp : List Addr), Eg (X.blk s H scope (compEnvC scope cl C X.env) fp) tg ix set
def gAll (X : Cx) (scope : Scope) (tg : Expr) : TG := fun v σ H Q => Blk X scope fun Y => wG Y tg v σ H Q
def tAll (X : Cx) (scope : Scope) (ifs : List Expr) : TT := fun σ H Q => Blk X scope fun Y => wTs Y ifs σ H Q
def eAll (X : Cx) (scope : Scope) (e : Expr) : TE := fun σ H Q => Blk X scope fun Y => wE Y e σ H Q
/-- one turn after another -/
theorem comp_read {tg elt : Expr} {ifs : List Expr} {scope : Scope} {ix own : List Nat} {set : D → Sl → Option Sl} {ft : EM Bool} {fe : EM D} (hown : ∀ i ∈ ix, i ∈ own) (hg : BEg X scope tg ix set) (ht : BEt X scope ifs ft) (he : BEx X scope elt fe)
    {m0 : List Addr} {τ : Sl} {σ : L2.St} {H0 H1 : Hp} {st0 : Store} {m1 : List Addr} {q : Sq} {J : It} {Q : VK} {E : XK} (e1 : Ext X.K m0 H0 m1 H1) (hL : SL X.K m1 H1 τ σ) (hS : SS X.K m1 st0 H1) (hJ : JOk X.K m1 H1 q J) (hz : q.items.length ≤ 16777216)
    (hP : Pe X.K E (fun m' H' ds v => ∃ a vs, v = .ref a ∧ H' a = some (.lst vs) ∧ a ∉ m' ∧ H0 a = none ∧ RDs X.K m' H' ds vs) m1 H1 (compL q set ft fe (wipeD τ own) q.items [] st0) Q) (D' : Addr) (hD : H1 D' = none) :
    ∃ W : Nat → Nat → Hp → Prop, (∃ m, W 0 m (upd H1 D' (.lst []))) ∧ ∀ i m H, W i m H →
      (J.stop i H ∧ Q (.ref D') H) ∨ (J.go i H ∧ ∃ Nx : Hp → Prop, (∀ H', Nx H' → ∃ m', m' < m ∧ W (i + 1) m' H') ∧ ∀ x H', J.yld i H x H' → gAll X scope tg x (L2.wipe σ own) H' fun σ2 H2 => L2.wipe σ2 own = L2.wipe σ own ∧ tAll X scope ifs σ2 H2 fun b H3 =>
        if b = true then eAll X scope elt σ2 H3 fun y H4 => ∃ acc, H4 D' = some (.lst acc) ∧ acc.length < sizeLine ∧ Nx (upd H4 D' (.lst (acc ++ [y]))) else Nx H3) := by
  have hD0 : H0 D' = none := e1.back hS hD
  have hn : D' ∉ m1 := hS.notin hD
  obtain ⟨Z, hZ⟩ : ∃ Z : Nat → Hp → Prop, Z = fun i H => i ≤ q.items.length ∧ ∃ (m : List Addr) (st : Store) (acc : List D) (vs : List V), Ext X.K m1 H1 m H ∧ D' ∉ m ∧ SS X.K m st H ∧ H D' = some (.lst vs) ∧ RDs X.K m H acc vs ∧ acc.length ≤ i ∧
    Pe X.K E (fun m' H' ds v => ∃ a vs, v = .ref a ∧ H' a = some (.lst vs) ∧ a ∉ m' ∧ H0 a = none ∧ RDs X.K m' H' ds vs) m1 H1 (compL q set ft fe (wipeD τ own) (q.items.drop i) acc st) Q := ⟨_, rfl⟩
  refine ⟨fun i k H => k = q.items.length - i ∧ Z i H, ⟨_, rfl, ?_⟩, ?_⟩
  · rw [hZ]
    refine ⟨Nat.zero_le _, m1, st0, [], [], Ext.fresh hD, hn, hS.fresh hD, upd_same, .nil, Nat.le_refl _, ?_⟩
    rw [List.drop_zero]
    exact hP
  · rintro i k H ⟨rfl, hZi⟩
    rw [hZ] at hZi
    obtain ⟨hi, m, st, acc, vs, e, hm, s, hd, rs, hacc, hP⟩ := hZi
    by_cases hlt : i < q.items.length
    · rw [List.drop_eq_getElem_cons hlt] at hP
      unfold compL at hP
      split at hP
      · rename_i hc
        obtain ⟨hgo, _⟩ := hJ m H st e s hc
        obtain ⟨go, yl⟩ := hgo i q.items[i] (by simp [hlt])
        split at hP
        · rename_i τ1 hset
          refine .inr ⟨go, Z (i + 1), fun H' h => ⟨q.items.length - (i + 1), by omega, rfl, h⟩, fun x H' hy s0 H0' C cl fp => ?_⟩
          obtain ⟨e2, s2, r2⟩ := yl x H' hy
          refine (hg s0 H0' C cl fp).run m _ τ1 st _ H' _ x _ ((hL.mono (e.trans e2)).wipe own) s2 r2 hset fun σ2 l1 l2 hL2 => ?_
          have l3 : σ2.length = σ.length := by rw [l1, wipe_length]
          have l4 : ∀ j, j ∉ own → σ2[j]? = σ[j]? := fun j hj => by rw [l2 j fun z => hj (hown j z), wipe_out hj]
          refine ⟨wipe_same l3 l4, fun s0 H0' C cl fp => ?_⟩
          have keep : ∀ {m' : List Addr} {H' : Hp}, Ext X.K m H m' H' → H' D' = some (.lst vs) ∧ D' ∉ m' := fun {m' H'} e => by
            refine ⟨e.frm D' _ hm hd, fun z => ?_⟩
            have q := e.new D' z hm
            rw [hd] at q
            cases q
          refine (ht s0 H0' C cl fp).run m τ1 st σ2 H' _ hL2 s2 (Pe.from (m := m) (H := H') hP fun b s3 m3 H3 b' e3 hS3 r3 hP3 => ?_)
          subst r3
          cases b with
          | false =>
            refine iteF ?_
            rw [hZ]
            obtain ⟨k1, k2⟩ := keep (e2.trans e3)
            exact ⟨by omega, m3, s3, acc, vs, e.trans (e2.trans e3), k2, hS3, k1, rs.mono (e2.trans e3), by omega, hP3⟩
          | true =>
            refine iteT fun s0 H0' C cl fp => (he s0 H0' C cl fp).run m3 τ1 s3 σ2 H3 _ (hL2.mono e3) hS3 (Pe.from (m := m3) (H := H3) (k := fun x s2 => compL q set ft fe (wipeD τ own) (List.drop (i + 1) q.items) (acc ++ [x]) s2) hP3 fun y s4 m4 H4 y' e4 hS4 r4 hP4 => ?_)
            obtain ⟨k1, k2⟩ := keep ((e2.trans e3).trans e4)
            have rs4 := rs.mono ((e2.trans e3).trans e4)
            have hz' : vs.length < sizeLine := by
              rw [← rs.len, PySem.sizeLine_eq]
              omega
            have e5 : Ext X.K m1 H1 m4 H4 := e.trans ((e2.trans e3).trans e4)
            have e6 : Ext X.K m1 H1 m4 (upd H4 D' (.lst (vs ++ [y']))) := {
              pre := e5.pre
              tup := fun a us h => (Kp.write (K := X.K) (m := m4) k1).tup a us (e5.tup a us h)
              fzl := fun a us h => (Kp.write (K := X.K) (m := m4) k1).fzl a us (e5.fzl a us h)
              frm := fun a o q h => by
                rw [upd_ne (ne_of_none h hD)]
                exact e5.frm a o q h
              new := e5.new }
            refine ⟨vs, k1, hz', ?_⟩
            rw [hZ]
            refine ⟨by omega, m4, s4, acc ++ [y], vs ++ [y'], e6, k2, hS4.other k1 k2, upd_same, (rs4.append (.cons r4 .nil)).kp (Kp.write k1), by rw [List.length_append, List.length_singleton]; omega, ?_⟩
            exact hP4
        · exact hP.elim
      · exact hP.elim
    · have e0 : i = q.items.length := by omega
      subst e0
      rw [List.drop_length] at hP
      unfold compL at hP
      split at hP
      · rename_i hc
        obtain ⟨_, stop⟩ := hJ m H st e s hc
        exact .inl ⟨stop, hP m H (.ref D') e s ⟨D', vs, rfl, hd, hm, hD0, rs⟩⟩
      · exact hP.elim
end
end HM

/-! HM, part 6: list comprehensions, statements. -/
namespace HM
open PySem PySem.Spec PyProof.Rows L2
section
variable {X : Cx} {W : WX} {e a b c : Expr} {es rest : List Expr} {pos p : Pos} {f fa fb fc : EM D} {fs : EM (List D)} {g ga gb : EM Bool}
theorem comp_post {tg elt iter : Expr} {ifs : List Expr} {scope : Scope} {own : List (Str × Nat)} {ix : List Nat} {set : D → Sl → Option Sl} {ft : EM Bool} {fe : EM D} {fi : EM Sq} (hi : Ei X W tg iter fi) (hown : ∀ i ∈ ix, i ∈ own.map (·.2))
    (hg : BEg X scope tg ix set) (ht : BEt X scope ifs ft) (he : BEx X scope elt fe) {m : List Addr} {τ : Sl} {st : Store} {σ : L2.St} {H : Hp} {Q : VK} (hL : SL X.K m H τ σ) (hS : SS X.K m st H)
    (hP : Pe X.K (fun c d H' => W c d σ H') (fun m' H' ds v => ∃ a vs, v = .ref a ∧ H' a = some (.lst vs) ∧ a ∉ m' ∧ H a = none ∧ RDs X.K m' H' ds vs) m H (lComp (own.map (·.2)) fi set ft fe τ st) Q) :
    tLc (wI X tg iter) (gAll X scope tg) (tAll X scope ifs) (eAll X scope elt) (own.map (·.2)) σ H Q := by
  unfold lComp at hP
  refine hi.run m τ st σ H _ hL hS ?_
  cases hq : fi τ st with
  | bad =>
    rw [hq] at hP
    exact hP.elim
  | exc x s1 =>
    rw [hq] at hP
    exact hP
  | ok q s1 =>
    rw [hq] at hP
    intro m1 H1 J e1 hS1 hJ D' hD
    have hP : Pe X.K (fun c d H' => W c d σ H') (fun m' H' ds v => ∃ a vs, v = .ref a ∧ H' a = some (.lst vs) ∧ a ∉ m' ∧ H a = none ∧ RDs X.K m' H' ds vs) m H (if q.items.length ≤ 16777216 then compL q set ft fe (wipeD τ (own.map (·.2))) q.items [] s1 else .bad) Q := hP
    split at hP
    · rename_i hz
      exact comp_read (E := fun c d H' => W c d σ H') hown hg ht he e1 (hL.mono e1) hS1 hJ hz (hP.up e1) D' hD
    · exact hP.elim
theorem el_comp {tg elt iter : Expr} {ifs : List Expr} {scope : Scope} {own : List (Str × Nat)} {ix : List Nat} {set : D → Sl → Option Sl} {ft : EM Bool} {fe : EM D} {fi : EM Sq} (hc : X.calm = true) (hN : X.N.Nodup) (hi : Ei X W tg iter fi) (ok : BlkOk X.N X.env.scope scope own)
    (hg : BEg X scope tg ix set) (ht : BEt X scope ifs ft) (he : BEx X scope elt fe) (hown : ∀ i ∈ ix, i ∈ own.map (·.2) := by decide) (hs : ∀ x, foldedSetIterable iter X.env x = pure x := by intro _; rfl) :
    El X W (.ListComp elt [⟨tg, iter, ifs, 0⟩] scope pos) (lComp (own.map (·.2)) fi set ft fe) := by
  refine ⟨fun m τ st σ H Q hL hS hP pins s I => ?_⟩
  refine (pe_lc (g := gAll X scope tg) (tt := tAll X scope ifs) (te := eAll X scope elt) hc hN piW ok ?_ ?_ ?_ hs).run pins s σ H Q I (comp_post hi hown hg ht he hL hS hP)
  · exact fun s H C cl fp => ⟨fun pins s' σ H' v u Q I r h => h s H C cl fp pins s' u I r⟩
  · exact fun s H C cl fp => ⟨fun pins s' σ H' Q I h => h s H C cl fp pins s' I⟩
  · exact fun s H C cl fp => ⟨fun pins s' σ H' Q I h => h s H C cl fp pins s' I⟩
end

/-! ### statements -/
/-- behind a statement -/
def Ps (K : PySem.W.Frag) (W : WX) (m : List Addr) (H : Hp) (r : SR) (D : Ends) : Prop := match r with
  | .nx τ st => ∀ m' H' σ, Ext K m H m' H' → SS K m' st H' → SL K m' H' τ σ → D.nx σ H'
  | .bk τ st => ∀ m' H' σ, Ext K m H m' H' → SS K m' st H' → SL K m' H' τ σ → D.bk σ H'
  | .ct τ st => ∀ m' H' σ, Ext K m H m' H' → SS K m' st H' → SL K m' H' τ σ → D.ct σ H'
  | .rt d st => ∀ m' H' v, Ext K m H m' H' → SS K m' st H' → RD K m' H' d v → D.rt v H'
  | .exc x τ st => ∀ m' H' σ c d, Ext K m H m' H' → SS K m' st H' → SL K m' H' τ σ → XR K m' H' x c d → W c d σ H'
  | .bad => False
theorem Ps.up {K : PySem.W.Frag} {W : WX} {m m1 : List Addr} {H H1 : Hp} {r : SR} {D : Ends} (h : Ps K W m H r D) (e : Ext K m H m1 H1) : Ps K W m1 H1 r D := by
  cases r with
  | nx τ st => exact fun m' H' σ e' => h m' H' σ (e.trans e')
  | bk τ st => exact fun m' H' σ e' => h m' H' σ (e.trans e')
  | ct τ st => exact fun m' H' σ e' => h m' H' σ (e.trans e')
  | rt d st => exact fun m' H' σ e' => h m' H' σ (e.trans e')
  | exc x τ st => exact fun m' H' σ c d e' => h m' H' σ c d (e.trans e')
  | bad => exact h
def wS (X : Cx) (st : Stmt) : TS := fun D σ H => ∀ (pins : List (Addr × Obj)) (s : Shared), Inv X pins σ H s → wpAny (model X.prog X.w) X.A (exec st X.env) (SP X pins D) X.xe s
def wSs (X : Cx) (st : List Stmt) : TS := fun D σ H => ∀ (pins : List (Addr × Obj)) (s : Shared), Inv X pins σ H s → wpAny (model X.prog X.w) X.A (execs st X.env) (SP X pins D) X.xe s
theorem psW {X : Cx} {st : Stmt} : PS X st (wS X st) := ⟨fun pins s σ H D I h => h pins s I⟩
theorem pssW {X : Cx} {st : List Stmt} : PSs X st (wSs X st) := ⟨fun pins s σ H D I h => h pins s I⟩
structure Sx (X : Cx) (W : WX) (st : Stmt) (f : SM) : Prop where
  run : ∀ (m : List Addr) (τ : Sl) (s : Store) (σ : L2.St) (H : Hp) (D : Ends), SL X.K m H τ σ → SS X.K m s H → Ps X.K W m H (f τ s) D → wS X st D σ H
structure Sxs (X : Cx) (W : WX) (st : List Stmt) (f : SM) : Prop where
  run : ∀ (m : List Addr) (τ : Sl) (s : Store) (σ : L2.St) (H : Hp) (D : Ends), SL X.K m H τ σ → SS X.K m s H → Ps X.K W m H (f τ s) D → wSs X st D σ H
/-- an expression, then the rest of a statement -/
def bindE {α : Type} (r : ER α) (τ : Sl) (k : α → Store → SR) : SR := match r with
  | .ok a st => k a st
  | .exc x st => .exc x τ st
  | .bad => .bad
@[simp] theorem bindE_ok {α : Type} (a : α) (st : Store) (τ : Sl) (k : α → Store → SR) : bindE (.ok a st) τ k = k a st := rfl
@[simp] theorem bindE_exc {α : Type} (x : Xc) (st : Store) (τ : Sl) (k : α → Store → SR) : bindE (.exc x st : ER α) τ k = .exc x τ st := rfl
@[simp] theorem bindE_bad {α : Type} (τ : Sl) (k : α → Store → SR) : bindE (.bad : ER α) τ k = .bad := rfl
theorem Ps.bind {α β : Type} {K : PySem.W.Frag} {W : WX} {R : List Addr → Hp → α → β → Prop} {m : List Addr} {H : Hp} {r : ER α} {τ : Sl} {σ : L2.St} {k : α → Store → SR} {D : Ends} {Q : β → Hp → Prop} (hL : SL K m H τ σ) (h : Ps K W m H (bindE r τ k) D)
    (hk : ∀ a st m' H' b, Ext K m H m' H' → SS K m' st H' → R m' H' a b → Ps K W m' H' (k a st) D → Q b H') : Pe K (fun c d H' => W c d σ H') R m H r Q := by
  cases r with
  | ok a st => exact fun m' H' b e s q => hk a st m' H' b e s q (Ps.up h e)
  | exc x st => exact fun m' H' c d e s q => h m' H' σ c d e s (hL.mono e) q
  | bad => exact h
def sSeq (f g : SM) : SM := fun τ st => match f τ st with
  | .nx τ1 s1 => g τ1 s1
  | r => r
def sNil : SM := fun τ st => .nx τ st
section
variable {X : Cx} {W : WX} {e a b c : Expr} {es rest : List Expr} {pos p : Pos} {fa fb fc fe : EM D} {fs : EM (List D)} {g ga gb : EM Bool} {s1 : Stmt} {ss body : List Stmt} {f h k : SM}
theorem sx_nil : Sxs X W [] sNil := ⟨fun m τ s σ H D hL hS hP pins sh I => pss_nil.run pins sh σ H D I (hP m H σ .refl hS hL)⟩
theorem sx_cons (h1 : Sx X W s1 f) (h2 : Sxs X W ss h) : Sxs X W (s1 :: ss) (sSeq f h) := by
  refine ⟨fun m τ s σ H D hL hS hP pins sh I => (pss_cons psW pssW).run pins sh σ H D I (h1.run m τ s σ H _ hL hS ?_)⟩
  unfold sSeq at hP
  cases hq : f τ s with
  | nx τ1 s1 =>
    rw [hq] at hP
    exact fun m1 H1 σ1 e1 hS1 hL1 => h2.run m1 τ1 s1 σ1 H1 D hL1 hS1 (hP.up e1)
  | bk τ1 s1 =>
    rw [hq] at hP
    exact hP
  | ct τ1 s1 =>
    rw [hq] at hP
    exact hP
  | rt d s1 =>
    rw [hq] at hP
    exact hP
  | exc x τ1 s1 =>
    rw [hq] at hP
    exact hP
  | bad =>
    rw [hq] at hP
    exact hP
theorem sx_one (h1 : Sx X W s1 f) : Sxs X W [s1] f := by
  refine ⟨fun m τ s σ H D hL hS hP pins sh I => (pss_one psW).run pins sh σ H D I (h1.run m τ s σ H _ hL hS hP)⟩
theorem sx_pass : Sx X W (.Pass pos) sNil := ⟨fun m τ s σ H D hL hS hP pins sh I => ps_pass.run pins sh σ H D I (hP m H σ .refl hS hL)⟩
def sBrk : SM := fun τ st => .bk τ st
def sCnt : SM := fun τ st => .ct τ st
theorem sx_break : Sx X W (.Break pos) sBrk := ⟨fun m τ s σ H D hL hS hP pins sh I => ps_break.run pins sh σ H D I (hP m H σ .refl hS hL)⟩
theorem sx_continue : Sx X W (.Continue pos) sCnt := ⟨fun m τ s σ H D hL hS hP pins sh I => ps_continue.run pins sh σ H D I (hP m H σ .refl hS hL)⟩
def sRet (fe : EM D) : SM := fun τ st => bindE (fe τ st) τ fun d s1 => .rt d s1
theorem sx_ret (he : Ex X W e fe) : Sx X W (.Return (some e) pos) (sRet fe) := by
  refine ⟨fun m τ s σ H D hL hS hP pins sh I => (ps_ret peW).run pins sh σ H D I ?_⟩
  exact he.run m τ s σ H _ hL hS (hP.bind hL fun d s1 m1 H1 v e1 hS1 r1 hP1 => hP1 m1 H1 v .refl hS1 r1)
def sRetN : SM := fun _ st => .rt .non st
theorem sx_retN : Sx X W (.Return none pos) sRetN := ⟨fun m τ s σ H D hL hS hP pins sh I => ps_retN.run pins sh σ H D I (hP m H .non .refl hS .non)⟩
def sExpr (fe : EM D) : SM := fun τ st => bindE (fe τ st) τ fun _ s1 => .nx τ s1
theorem sx_expr (he : Ex X W e fe) (hs : swapsWith e none pos.line X.env = pure false := by rfl) : Sx X W (.Expr e pos) (sExpr fe) := by
  refine ⟨fun m τ s σ H D hL hS hP pins sh I => (ps_expr peW hs).run pins sh σ H D I ?_⟩
  exact he.run m τ s σ H _ hL hS (hP.bind hL fun d s1 m1 H1 v e1 hS1 r1 hP1 => hP1 m1 H1 σ .refl hS1 (hL.mono e1))
def sIf (g : EM Bool) (f h : SM) : SM := fun τ st => bindE (g τ st) τ fun b s1 => if b then f τ s1 else h τ s1
theorem sx_if {sa sb : List Stmt} (hc : Et X W c g) (ha : Sxs X W sa f) (hb : Sxs X W sb h) : Sx X W (.If c sa sb pos) (sIf g f h) := by
  refine ⟨fun m τ s σ H D hL hS hP pins sh I => (ps_if ptW pssW pssW).run pins sh σ H D I ?_⟩
  refine hc.run m τ s σ H _ hL hS (hP.bind hL fun d s1 m1 H1 v e1 hS1 r1 hP1 => ?_)
  subst r1
  cases d with
  | true => exact iteT (ha.run m1 τ s1 σ H1 D (hL.mono e1) hS1 hP1)
  | false => exact iteF (hb.run m1 τ s1 σ H1 D (hL.mono e1) hS1 hP1)
/-- name = e -/
def sSet (i : Nat) (fe : EM D) : SM := fun τ st => bindE (fe τ st) τ fun d s1 => .nx (τ.set i (some d)) s1
theorem sx_set {i : Nat} {x : Str} {pos' : Pos} (hN : X.N.Nodup) (he : Ex X W e fe) (hi : X.N[i]? = some x := by rfl) (hx : Loc X.env.scope x := by first | exact Or.inl rfl | exact Or.inr rfl) (hs : swapsWith e (some (.Name x pos')) pos.line X.env = pure false := by rfl)
    (hf : X.fn x = true ∨ X.env.scope.names.lookup x = some .local := by first | exact .inl rfl | exact .inr rfl) : Sx X W (.Assign [.Name x pos'] e pos) (sSet i fe) := by
  refine ⟨fun m τ s σ H D hL hS hP pins sh I => (ps_set hN hi hx peW hs hf).run pins sh σ H D I ?_⟩
  exact he.run m τ s σ H _ hL hS (hP.bind hL fun d s1 m1 H1 v e1 hS1 r1 hP1 => hP1 m1 H1 _ .refl hS1 ((hL.mono e1).set i r1))
/-- target = e -/
def sAsg (set : D → Sl → Option Sl) (fe : EM D) : SM := fun τ st => bindE (fe τ st) τ fun d s1 => match set d τ with
  | some τ1 => .nx τ1 s1
  | none => .bad
theorem sx_asg {tg : Expr} {ix : List Nat} {set : D → Sl → Option Sl} (he : Ex X W e fe) (hg : Eg X tg ix set) (hs : swapsWithSole [tg] e pos.line X.env = pure false := by rfl) (hw : swappedStores [tg] e X.env = pure none := by rfl) (h1 : (assignEach [tg] X.env).map (·.2) = [assign tg X.env] := by rfl) : Sx X W (.Assign [tg] e pos) (sAsg set fe) := by
  refine ⟨fun m τ s σ H D hL hS hP pins sh I => (ps_asg peW pgW hs hw h1).run pins sh σ H D I ?_⟩
  refine he.run m τ s σ H _ hL hS (hP.bind hL fun d s1 m1 H1 v e1 hS1 r1 hP1 => ?_)
  split at hP1
  · rename_i τ1 hset
    exact hg.run m1 τ τ1 s1 σ H1 d v _ (hL.mono e1) hS1 r1 hset fun σ2 _ _ hL2 => hP1 m1 H1 σ2 .refl hS1 hL2
  · exact hP1.elim
/-- name op= e -/
def sAug (i : Nat) (o : O2) (fe : EM D) : SM := fun τ st => match τ[i]? with
  | some (some x) => bindE (fe τ st) τ fun y s1 => bindE (o x y s1) τ fun z s2 => .nx (τ.set i (some z)) s2
  | _ => .bad
theorem sx_aug {i : Nat} {x : Str} {pos' : Pos} {op : Operator} {o : O2} (hN : X.N.Nodup) (he : Ex X W e fe) (ho : OpM X W (inplaceOp op) o) (hi : X.N[i]? = some x := by rfl) (hx : Loc X.env.scope x := by first | exact Or.inl rfl | exact Or.inr rfl)
    (hf : X.fn x = true ∨ X.env.scope.names.lookup x = some .local := by first | exact .inl rfl | exact .inr rfl) : Sx X W (.AugAssign (.Name x pos') op e pos) (sAug i o fe) := by
  refine ⟨fun m τ s σ H D hL hS hP pins sh I => ?_⟩
  unfold sAug at hP
  split at hP
  · rename_i d0 hd0
    obtain ⟨v0, h1, h2⟩ := hL.get i d0 hd0
    obtain ⟨mm, hn, hl⟩ := I.loc
    have vis : Vis X.env.scope x := by
      rcases hx with k | k
      · exact .inl k
      · exact .inr (.inl k)
    obtain ⟨u0, r0, l⟩ := hl i x v0 hi h1 vis
    refine wpAny_AugAssign_Name ?_
    have go : wpAny (model X.prog X.w) X.A (eval e X.env) (fun w s₂ => wpAny (model X.prog X.w) X.A (inplaceOp op u0 w) (fun r s₃ => wpAny (model X.prog X.w) X.A (storeName X.env x r) (fun _ => SP X pins D .next) X.xe s₃) X.xe s₂) X.xe sh := by
      refine thn (he.run m τ s σ H (fun y H1 => wR2 X (inplaceOp op) σ v0 y H1 fun z H2 => D.nx (σ.set i (some z)) H2) hL hS (hP.bind hL fun dy s1 m1 H1 y e1 hS1 r1 hP1 pins s v u I rx ry => ?_) pins sh I) fun w s1 ⟨y, H1, I1, r1, q1⟩ => ?_
      · exact ho m1 s1 σ H1 d0 dy v0 y _ hS1 (h2.mono e1) r1 (hP1.bind (hL.mono e1) fun dz s2 m2 H2 z e2 hS2 r2 hP2 => hP2 m2 H2 _ .refl hS2 (((hL.mono e1).mono e2).set i r2)) pins s v u I rx ry
      · refine thn (q1 pins s1 u0 w I1 r0 r1) fun z s2 ⟨zv, H2, I2, r2, q2⟩ => ?_
        exact store_ok I2 hN hi hx r2 (fun s3 I3 => ⟨_, H2, I3, q2⟩) hf
    rcases l with ⟨hk, hm⟩ | ⟨hk, c, hc, hcell⟩
    · exact wpAny_loadName_local I.ok.kind hk hn hm go
    · rcases hk with hk | hk
      · exact wpAny_loadName_cell I.ok.kind hk hc hcell go
      · rcases hx with k | k
        · have : X.env.scope.names.lookup x = some .free := hk
          rw [k] at this
          cases this
        · have : X.env.scope.names.lookup x = some .free := hk
          rw [k] at this
          cases this
  · exact hP.elim
/-- o[i] = e (a list) -/
def oSet : D → D → D → Store → Option Store := fun o i v st => match o, i with
  | .ref n, .int k => match lstAt st n with
    | some xs => match ixN xs.length k with
      | some j => some (st.set n (.lst (xs.set j v)))
      | none => none
    | none => none
  | _, _ => none
/-- the order: the value, then the object, then the index -/
def sSub (fo fi fe : EM D) : SM := fun τ st => bindE (fe τ st) τ fun v s1 => bindE (fo τ s1) τ fun o s2 => bindE (fi τ s2) τ fun i s3 => match oSet o i v s3 with
  | some s4 => .nx τ s4
  | none => .bad
theorem set_read {K : PySem.W.Frag} {m : List Addr} {st st' : Store} {H : Hp} {o i v : D} {vo vi vv : V} (hS : SS K m st H) (ro : RD K m H o vo) (ri : RD K m H i vi) (rv : RD K m H v vv) (h : oSet o i v st = some st') :
    ∃ p xs k j, vo = .ref p ∧ vi = .int k ∧ H p = some (.lst xs) ∧ ixN xs.length k = some j ∧ Ext K m H m (upd H p (.lst (xs.set j vv))) ∧ SS K m st' (upd H p (.lst (xs.set j vv))) := by
  unfold oSet at h
  split at h
  · split at h
    · rename_i xs hx
      split at h
      · rename_i j hj
        cases h
        cases ro with
        | ref q =>
          cases ri
          obtain ⟨vs, h1, h2⟩ := hS.list hx q
          exact ⟨_, vs, _, j, rfl, rfl, h1, by rw [← h2.len]; exact hj, Ext.write h1 q, hS.write h1 q (h2.set rv j)⟩
      · cases h
    · cases h
  · cases h
theorem sx_sub {o i : Expr} {p' : Pos} {fo fi : EM D} (he : Ex X W e fe) (ho : Ex X W o fo) (hi : Ex X W i fi)
    (ha : ∀ v, assign (.Subscript o i p') X.env v = (do
      let ov ← holding [v] (eval o X.env)
      let iv ← holding [v, ov] (eval i X.env)
      standAt p'
      holding [v, ov, iv] (setItem ov iv v)
      release [v, ov, iv] []) := by intro _; rfl)
    (hs : swapsWithSole [.Subscript o i p'] e pos.line X.env = pure false := by rfl) (hw : swappedStores [.Subscript o i p'] e X.env = pure none := by rfl) (h1 : (assignEach [.Subscript o i p'] X.env).map (·.2) = [assign (.Subscript o i p') X.env] := by rfl) : Sx X W (.Assign [.Subscript o i p'] e pos) (sSub fo fi fe) := by
  refine ⟨fun m τ s σ H D hL hS hP pins sh I => (ps_asg peW (pg_sub peW peW set_list ha) hs hw h1).run pins sh σ H D I ?_⟩
  refine he.run m τ s σ H _ hL hS (hP.bind hL fun v s1 m1 H1 vv e1 hS1 r1 hP1 => ?_)
  refine ho.run m1 τ s1 σ H1 _ (hL.mono e1) hS1 (hP1.bind (hL.mono e1) fun o s2 m2 H2 vo e2 hS2 r2 hP2 => ?_)
  refine hi.run m2 τ s2 σ H2 _ ((hL.mono e1).mono e2) hS2 (hP2.bind ((hL.mono e1).mono e2) fun i s3 m3 H3 vi e3 hS3 r3 hP3 => ?_)
  split at hP3
  · rename_i s4 h4
    obtain ⟨p, xs, k, j, q1, q2, q3, q4, q5, q6⟩ := set_read hS3 (r2.mono e3) r3 ((r1.mono e2).mono e3) h4
    exact ⟨p, xs, k, j, q1, q2, q3, q4, hP3 m3 _ σ q5 q6 ((((hL.mono e1).mono e2).mono e3).mono q5)⟩
  · exact hP3.elim
/-- o[i] op= e -/
def oGetL : O2 := fun x i st => match x, i with
  | .ref n, .int k => match lstAt st n with
    | some xs => match atI xs k with
      | some d => .ok d st
      | none => .bad
    | none => .bad
  | _, _ => .bad
def sAugS (o : O2) (fo fi fe : EM D) : SM := fun τ st => bindE (fo τ st) τ fun x s1 => bindE (fi τ s1) τ fun i s2 => bindE (oGetL x i s2) τ fun y s3 => bindE (fe τ s3) τ fun z s4 => bindE (o y z s4) τ fun v s5 => match oSet x i v s5 with
  | some s6 => .nx τ s6
  | none => .bad
theorem get_list : PGet X (rIxL X.K) := by
  intro pins s σ H x y v u Q I rx ry h
  obtain ⟨p, xs, i, z, rfl, rfl, hq, he, q⟩ := h
  cases rx
  obtain ⟨t, rfl⟩ := ry
  obtain ⟨its, r, pl, hz⟩ := I.list hq
  obtain ⟨j, h1, h2, h3, h4, h5⟩ := atI_get he
  obtain ⟨w, ew, rw'⟩ := r.get h2
  have hl := r.length
  have hn := line63
  have fin : EP X pins σ Q w s := ⟨z, H, I, rw', q⟩
  by_cases h0 : 0 ≤ i
  · have hj : i.toNat = j := by
      rw [seqIndex_of h0 h5] at h1
      exact Option.some.inj h1
    exact wpAny_getItem_list pl.isList h0 (by omega) (by rw [hj]; simpa using ew) fin
  · have hj : (i + (its.toArray.size : Int)).toNat = j := by
      rw [seqIndex_neg (by omega) h4] at h1
      rw [List.size_toArray, ← hl]
      exact Option.some.inj h1
    exact wpAny_getItem_list_neg pl.isList (by omega) (by rw [List.size_toArray] <;> omega) (by omega) (by rw [hj]; simpa using ew) fin
theorem getL_read {K : PySem.W.Frag} {E : XK} {m : List Addr} {st : Store} {H : Hp} {x i : D} {vx vi : V} {Q : VK} (hS : SS K m st H) (rx : RD K m H x vx) (ri : RD K m H i vi) (h : Pe K E (RD K) m H (oGetL x i st) Q) : rIxL K vx vi H Q := by
  unfold oGetL at h
  split at h
  · split at h
    · split at h
      · rename_i xs hx _ d hd
        cases rx with
        | ref q =>
          cases ri
          obtain ⟨vs, h1, h2⟩ := hS.list hx q
          obtain ⟨v, h3, h4⟩ := atI_rds h2 hd
          exact ⟨_, vs, _, v, rfl, rfl, SqL.of h1, h3, h.now hS h4⟩
      · exact h.elim
    · exact h.elim
  · exact h.elim
theorem sx_augS {o i : Expr} {p' : Pos} {fo fi : EM D} {op : Operator} {op2 : O2} (ho : Ex X W o fo) (hi : Ex X W i fi) (he : Ex X W e fe) (hop : OpM X W (inplaceOp op) op2)
    (ha : ∀ ov iv new, augStore i ov iv new = (do holding [new, ov, iv] (setItem ov iv new); release [new, ov, iv] []; pure .next) := by intros; rfl) : Sx X W (.AugAssign (.Subscript o i p') op e pos) (sAugS op2 fo fi fe) := by
  refine ⟨fun m τ s σ H D hL hS hP pins sh I => ?_⟩
  have read : wE X o σ H fun vo H1 => wE X i σ H1 fun vi H2 => rIxL X.K vo vi H2 fun vy H3 => wE X e σ H3 fun vz H4 => wR2 X (inplaceOp op) σ vy vz H4 fun vv H5 => rSetL vo vi vv H5 fun H6 => D.nx σ H6 := by
    refine ho.run m τ s σ H _ hL hS (hP.bind hL fun dx s1 m1 H1 vx e1 hS1 r1 hP1 => ?_)
    have hL1 := hL.mono e1
    refine hi.run m1 τ s1 σ H1 _ hL1 hS1 (hP1.bind hL1 fun di s2 m2 H2 vi e2 hS2 r2 hP2 => ?_)
    have hL2 := hL1.mono e2
    refine getL_read hS2 (r1.mono e2) r2 (hP2.bind hL2 fun dy s3 m3 H3 vy e3 hS3 r3 hP3 => ?_)
    have hL3 := hL2.mono e3
    refine he.run m3 τ s3 σ H3 _ hL3 hS3 (hP3.bind hL3 fun dz s4 m4 H4 vz e4 hS4 r4 hP4 => ?_)
    have hL4 := hL3.mono e4
    intro pins s v u I rv ru
    refine hop m4 s4 σ H4 dy dz vy vz _ hS4 (r3.mono e4) r4 (hP4.bind hL4 fun dv s5 m5 H5 vv e5 hS5 r5 hP5 => ?_) pins s v u I rv ru
    have hL5 := hL4.mono e5
    split at hP5
    · rename_i s6 h6
      have e25 := ((e3.trans e4).trans e5)
      obtain ⟨p, xs, k, j, q1, q2, q3, q4, q5, q6⟩ := set_read hS5 ((r1.mono e2).mono e25) (r2.mono e25) r5 h6
      exact ⟨p, xs, k, j, q1, q2, q3, q4, hP5 m5 _ σ q5 q6 (hL5.mono q5)⟩
    · exact hP5.elim
  refine wpAny_AugAssign_SubscriptAny (thn (read pins sh I) fun ov s1 ⟨x1, H1, I1, r1, q1⟩ => ?_) ha
  refine thn (q1 pins s1 I1) fun iv s2 ⟨x2, H2, I2, r2, q2⟩ => ?_
  refine thn (get_list pins s2 σ H2 x1 x2 ov iv _ I2 r1 r2 q2) fun old s3 ⟨x3, H3, I3, r3, q3⟩ => ?_
  refine thn (q3 pins s3 I3) fun v s4 ⟨x4, H4, I4, r4, q4⟩ => ?_
  refine thn (q4 pins s4 old v I4 r3 r4) fun new s5 ⟨x5, H5, I5, r5, q5⟩ => ?_
  exact thn (set_list pins s5 σ H5 x1 x2 x5 ov iv new _ I5 r1 r2 r5 q5) fun _ s6 ⟨H6, I6, q6⟩ => ⟨σ, H6, I6, q6⟩
/-! ### loops -/
def forL (q : Sq) (set : D → Sl → Option Sl) (body : SM) : List D → SM
  | [], τ, st => if q.chk st then .nx τ st else .bad
  | d :: ds, τ, st => if q.chk st then match set d τ with
    | some τ1 => match body τ1 st with
      | .nx τ2 s2 => forL q set body ds τ2 s2
      | .ct τ2 s2 => forL q set body ds τ2 s2
      | .bk τ2 s2 => .nx τ2 s2
      | r => r
    | none => .bad
  else .bad
def sFor (fi : EM Sq) (set : D → Sl → Option Sl) (body : SM) : SM := fun τ st => bindE (fi τ st) τ fun q s1 => forL q set body q.items τ s1
theorem sx_for {tg iter : Expr} {ix : List Nat} {set : D → Sl → Option Sl} {fi : EM Sq} (hp : PassesOwn (model X.prog X.w) X.A X.env X.xe) (hc : X.calm = true) (hi : Ei X W tg iter fi) (hg : Eg X tg ix set) (hb : Sxs X W body f) (hs : ∀ x, foldedSetIterable iter X.env x = pure x := by intro _; rfl) : Sx X W (.For tg iter body [] pos) (sFor fi set f) := by
  refine ⟨fun m τ s σ H D hL hS hP pins sh I => (ps_for hp hc piW pgW pssW hs).run pins sh σ H D I ?_⟩
  refine hi.run m τ s σ H _ hL hS (hP.bind hL fun q s1 m1 H1 J e1 hS1 hJ hP1 => ?_)
  refine ⟨fun i k σ H => k = q.items.length - i ∧ i ≤ q.items.length ∧ ∃ (m : List Addr) (τ : Sl) (st : Store), Ext X.K m1 H1 m H ∧ SS X.K m st H ∧ SL X.K m H τ σ ∧ Ps X.K W m H (forL q set f (q.items.drop i) τ st) D, ⟨_, rfl, Nat.zero_le _, m1, τ, s1, .refl, hS1, hL.mono e1, by rw [List.drop_zero]; exact hP1⟩, ?_⟩
  rintro i k σ H ⟨rfl, hi, m, τ, st, e, hS, hL, hP⟩
  by_cases hlt : i < q.items.length
  · rw [List.drop_eq_getElem_cons hlt] at hP
    unfold forL at hP
    split at hP
    · rename_i hc
      obtain ⟨hgo, _⟩ := hJ m H st e hS hc
      obtain ⟨go, yl⟩ := hgo i q.items[i] (by simp [hlt])
      split at hP
      · rename_i τ1 hset
        refine .inr ⟨go, fun σ' H' => i + 1 ≤ q.items.length ∧ ∃ (m : List Addr) (τ : Sl) (st : Store), Ext X.K m1 H1 m H' ∧ SS X.K m st H' ∧ SL X.K m H' τ σ' ∧ Ps X.K W m H' (forL q set f (q.items.drop (i + 1)) τ st) D, fun σ' H' h => ⟨q.items.length - (i + 1), by omega, rfl, h⟩, fun x H' hy => ?_⟩
        obtain ⟨e2, s2, r2⟩ := yl x H' hy
        refine hg.run m τ τ1 st σ H' _ x _ (hL.mono e2) s2 r2 hset fun σ2 _ _ hL2 => ?_
        refine hb.run m τ1 st σ2 H' _ hL2 s2 ?_
        have hP := hP.up e2
        cases hq : f τ1 st with
        | nx τ2 s3 =>
          rw [hq] at hP
          exact fun m3 H3 σ3 e3 hS3 hL3 => ⟨by omega, m3, τ2, s3, e.trans (e2.trans e3), hS3, hL3, hP.up e3⟩
        | ct τ2 s3 =>
          rw [hq] at hP
          exact fun m3 H3 σ3 e3 hS3 hL3 => ⟨by omega, m3, τ2, s3, e.trans (e2.trans e3), hS3, hL3, hP.up e3⟩
        | bk τ2 s3 =>
          rw [hq] at hP
          exact hP
        | rt d s3 =>
          rw [hq] at hP
          exact hP
        | exc x τ2 s3 =>
          rw [hq] at hP
          exact hP
        | bad =>
          rw [hq] at hP
          exact hP
      · exact hP.elim
    · exact hP.elim
  · have e0 : i = q.items.length := by omega
    subst e0
    rw [List.drop_length] at hP
    unfold forL at hP
    split at hP
    · rename_i hc
      obtain ⟨_, stop⟩ := hJ m H st e hS hc
      exact .inl ⟨stop, hP m H σ .refl hS hL⟩
    · exact hP.elim
/-- more turns than any loop here takes -/
@[irreducible] def big : Nat := 2 ^ 20000
theorem le_big {k n : Nat} (hk : k ≤ 20000) (h : n ≤ 2 ^ k) : n ≤ big := by
  unfold big
  exact Nat.le_trans h (Nat.pow_le_pow_right (by decide) hk)
/-- while, at most n turns -/
def whileN (g : EM Bool) (body : SM) : Nat → SM
  | 0, _, _ => .bad
  | n + 1, τ, st => bindE (g τ st) τ fun b s1 => if b then match body τ s1 with
      | .nx τ2 s2 => whileN g body n τ2 s2
      | .ct τ2 s2 => whileN g body n τ2 s2
      | .bk τ2 s2 => .nx τ2 s2
      | r => r
    else .nx τ s1
theorem sx_while {c : Expr} (n : Nat) (hp : PassesOwn (model X.prog X.w) X.A X.env X.xe) (hc : Et X W c g) (hb : Sxs X W body f) : Sx X W (.While c body [] pos) (whileN g f n) := by
  refine ⟨fun m τ s σ H D hL hS hP pins sh I => (ps_while hp ptW pssW).run pins sh σ H D I ?_⟩
  refine ⟨fun k σ H => ∃ (m : List Addr) (τ : Sl) (st : Store), SS X.K m st H ∧ SL X.K m H τ σ ∧ Ps X.K W m H (whileN g f k τ st) D, ⟨n, m, τ, s, hS, hL, hP⟩, ?_⟩
  rintro k σ H ⟨m, τ, st, hS, hL, hP⟩
  cases k with
  | zero => exact hP.elim
  | succ k =>
    refine hc.run m τ st σ H _ hL hS (hP.bind hL fun b s1 m1 H1 b' e1 hS1 r1 hP1 => ?_)
    subst r1
    cases b with
    | false => exact iteF (hP1 m1 H1 σ .refl hS1 (hL.mono e1))
    | true =>
      refine iteT ⟨fun σ' H' => ∃ (m : List Addr) (τ : Sl) (st : Store), SS X.K m st H' ∧ SL X.K m H' τ σ' ∧ Ps X.K W m H' (whileN g f k τ st) D, fun σ' H' h => ⟨k, Nat.lt_succ_self k, h⟩, ?_⟩
      refine hb.run m1 τ s1 σ H1 _ (hL.mono e1) hS1 ?_
      have hP1 : Ps X.K W m1 H1 (match f τ s1 with
        | .nx τ2 s2 => whileN g f k τ2 s2
        | .ct τ2 s2 => whileN g f k τ2 s2
        | .bk τ2 s2 => .nx τ2 s2
        | r => r) D := hP1
      cases hq : f τ s1 with
      | nx τ2 s3 =>
        rw [hq] at hP1
        exact fun m3 H3 σ3 e3 hS3 hL3 => ⟨m3, τ2, s3, hS3, hL3, hP1.up e3⟩
      | ct τ2 s3 =>
        rw [hq] at hP1
        exact fun m3 H3 σ3 e3 hS3 hL3 => ⟨m3, τ2, s3, hS3, hL3, hP1.up e3⟩
      | bk τ2 s3 =>
        rw [hq] at hP1
        exact hP1
      | rt d s3 =>
        rw [hq] at hP1
        exact hP1
      | exc x τ2 s3 =>
        rw [hq] at hP1
        exact hP1
      | bad =>
        rw [hq] at hP1
        exact hP1
end
end HM

/-! HM, part 7: raise, try; defs; the law's end. -/
namespace HM
open PySem PySem.Spec PyProof.Rows L2
section
variable {X : Cx} {W : WX} {e a b c : Expr} {es rest : List Expr} {pos p : Pos} {fa fb fc fe : EM D} {fs : EM (List D)} {g ga gb : EM Bool} {s1 : Stmt} {ss body suite : List Stmt} {f h k : SM}
def sRaise (x : Xc) : SM := fun τ st => .exc x τ st
theorem sx_raiseB {T N I : String} {x : Str} {m : Str} {j : Nat} {p2 pos' : Pos} (hc : X.calm = true) (tk : Takes X W) (F : ExcB T N I) (hg : Gl X x) (hm : X.mg x = none) (hv : bootBuiltins x = some (.type T)) (hn : x ≠ "__name__" := by decide) (hdb : (x == ("__debug__" : Str)) = false := by decide) :
    Sx X W (.Raise (some (.Call (.Name x p) [.Constant (.str m) j p2] [] pos)) none pos') (sRaise ⟨.ty T, []⟩) :=
  ⟨fun m τ s σ H D hL hS hP pins sh I => (ps_raiseB hc tk F hg hm hv hn hdb).run pins sh σ H D I (hP m H σ _ _ .refl hS hL ⟨rfl, rfl⟩)⟩
def sTry (f : SM) (mt : D → Option Bool) (h : SM) : SM := fun τ st => match f τ st with
  | .exc x τ1 s1 => match mt x.cls with
    | some true => h τ1 s1
    | some false => .exc x τ1 s1
    | none => .bad
  | r => r
theorem sx_try {x : Str} {c : Value} {b₀ : Stmt} {np pos' : Pos} {mt : D → Option Bool} (hs : X.stack = X.env :: X.outer) (hf : X.env.frame = some X.env.locals) (hc : Names X x c) (tk : Takes X W) (hmt : ∀ (m : List Addr) (H : Hp) (y : Xc) (cls : Value) (d : Option Addr) (b : Bool), XR X.K m H y cls d → mt y.cls = some b → PySem.W.exmOne X.K cls c = some b)
    (hb : ∀ (W : WX) (pn : List (Addr × Obj)) (xe : Value → Shared → Prop), Takes (X.tr pn xe) W → PassesOwn (model X.prog X.w) X.A X.env xe → Sxs (X.tr pn xe) W body f)
    (hsu : ∀ (a : Addr) (oe : Obj) (pn : List (Addr × Obj)), Sxs (X.suite a ((a, oe) :: pn)) (fun _ _ _ _ => False) (b₀ :: suite) h)
    (hno : ∀ τ st x τ1 s1, h τ st ≠ .exc x τ1 s1) : Sx X W (.Try body [.ExceptHandler (some (.Name x np)) none (b₀ :: suite) pos'] [] [] pos) (sTry f mt h) := by
  refine ⟨fun m τ s σ H D hL hS hP pins sh I => ?_⟩
  refine (ps_try_only (tb := fun W => fun D σ H => ∀ (pn : List (Addr × Obj)) (xe : Value → Shared → Prop), Takes (X.tr pn xe) W → PassesOwn (model X.prog X.w) X.A X.env xe → wSs (X.tr pn xe) body D σ H)
    (ts := fun a cls d => fun D σ H => ∀ (oe : Obj) (pn : List (Addr × Obj)), wSs (X.suite a ((a, oe) :: pn)) (b₀ :: suite) D σ H) hs hf hc tk (fun W pn xe t1 t2 => ⟨fun pins s σ H D I h => h pn xe t1 t2 pins s I⟩) (fun a oe cls d pn _ _ => ⟨fun pins s σ H D I h => h oe pn pins s I⟩)).run pins sh σ H D I ?_
  intro pn xe t1 t2
  refine (hb _ pn xe t1 t2).run m τ s σ H D hL hS ?_
  unfold sTry at hP
  cases hq : f τ s with
  | exc y τ1 s1 =>
    rw [hq] at hP
    intro m1 H1 σ1 cls d e1 hS1 hL1 hX
    have hP : Ps X.K W m H (match mt y.cls with
      | some true => h τ1 s1
      | some false => .exc y τ1 s1
      | none => .bad) D := hP
    cases hm : mt y.cls with
    | none =>
      rw [hm] at hP
      exact hP.elim
    | some b =>
      rw [hm] at hP
      refine ⟨b, hmt m1 H1 y cls d b hX hm, fun hb' a na oe pn => ?_, fun hb' => ?_⟩
      · subst hb'
        refine (hsu a oe pn).run m1 τ1 s1 σ1 H1 D hL1 hS1 ?_
        have hP := hP.up e1
        cases hh : h τ1 s1 with
        | exc x τ2 s2 => exact absurd hh (hno _ _ _ _ _)
        | nx _ _ =>
          have hP : Ps X.K W m1 H1 (h τ1 s1) D := hP
          rw [hh] at hP
          exact hP
        | bk _ _ =>
          have hP : Ps X.K W m1 H1 (h τ1 s1) D := hP
          rw [hh] at hP
          exact hP
        | ct _ _ =>
          have hP : Ps X.K W m1 H1 (h τ1 s1) D := hP
          rw [hh] at hP
          exact hP
        | rt _ _ =>
          have hP : Ps X.K W m1 H1 (h τ1 s1) D := hP
          rw [hh] at hP
          exact hP
        | bad =>
          have hP : Ps X.K W m1 H1 (h τ1 s1) D := hP
          rw [hh] at hP
          exact hP
      · subst hb'
        exact hP m1 H1 σ1 cls d e1 hS1 hL1 hX
  | nx _ _ =>
    rw [hq] at hP
    exact hP
  | bk _ _ =>
    rw [hq] at hP
    exact hP
  | ct _ _ =>
    rw [hq] at hP
    exact hP
  | rt _ _ =>
    rw [hq] at hP
    exact hP
  | bad =>
    rw [hq] at hP
    exact hP
end

/-- does a built-in class catch -/
def mtB (T : String) : D → Option Bool
  | .ty n => if n = T then some true else none
  | _ => none
theorem mtB_of {K : PySem.W.Frag} {T : String} (h : PySem.W.exmOne K (.type T) (.type T) = some true) (m : List Addr) (H : Hp) (y : Xc) (cls : Value) (d : Option Addr) (b : Bool) (hx : XR K m H y cls d) (hm : mtB T y.cls = some b) : PySem.W.exmOne K cls (.type T) = some b := by
  unfold mtB at hm
  split at hm
  · rename_i n e
    split at hm
    · rename_i hn
      subst hn
      cases hm
      unfold XR at hx
      rw [e] at hx
      obtain ⟨rfl, _⟩ := hx
      exact h
    · cases hm
  · cases hm
theorem mtB_ZeroDivisionError {K : PySem.W.Frag} : ∀ (m : List Addr) (H : Hp) (y : Xc) (cls : Value) (d : Option Addr) (b : Bool), XR K m H y cls d → mtB "ZeroDivisionError" y.cls = some b → PySem.W.exmOne K cls (.type "ZeroDivisionError") = some b := mtB_of (by kernel_rfl)
/-! ### defs -/
/-- the slots at a def's entry -/
def ent (n : Nat) (ds : List D) : Sl := ds.map some ++ List.replicate (n - ds.length) none
def runB (n : Nat) (fb : SM) : FM := fun ds st => match fb (ent n ds) st with
  | .nx _ s => .ok .non s
  | .rt d s => .ok d s
  | .exc x _ s => .exc x s
  | _ => .bad
theorem SL.start {K : PySem.W.Frag} {m : List Addr} {H : Hp} {N : List Str} {ds : List D} {vs : List V} (r : RDs K m H ds vs) : SL K m H (ent N.length ds) (L2.start N vs) where
  len := by simp [ent, L2.start, r.len]
  get := fun i d h => by
    unfold ent at h
    by_cases hi : i < ds.length
    · rw [List.getElem?_append_left (by simpa using hi), List.getElem?_map] at h
      cases hd : ds[i]? with
      | none =>
        rw [hd] at h
        cases h
      | some d' =>
        rw [hd] at h
        simp only [Option.map_some, Option.some.injEq] at h
        subst h
        obtain ⟨v, h1, h2⟩ := r.get hd
        refine ⟨v, ?_, h2⟩
        unfold L2.start
        rw [List.getElem?_append_left (by simpa [← r.len] using hi), List.getElem?_map, h1]
        rfl
    · rw [List.getElem?_append_right (by simpa using hi)] at h
      have z := List.mem_of_getElem? h
      have z2 := List.eq_of_mem_replicate z
      cases z2
section
variable {P : Program} {w : World} {K : PySem.W.Frag} {mg : Str → Option Value} {base : Heap} {x qual : Str} {params : Arguments} {body : List Stmt} {scope : Scope} {dvs : List V} {kws : List (Str × V)} {f : Addr} {fd : FuncData} {N ps : List Str} {k : Nat} {fb : SM}
/-- the context of a def's body -/
abbrev Cd (P : Program) (w : World) (K : PySem.W.Frag) (mg : Str → Option Value) (base : Heap) (N : List Str) (qual : Str) (scope : Scope) (f : Addr) (k : Nat) (B : Cx → WX → Prop) : Prop :=
  ∀ (cdv : Value) (A : Around) (outer : List Env) (s : Shared) (H : Hp) (E : XK), Room k (A.deeper (envOfC qual scope s.heap.objs.size f cdv)) → B (cxOf (L2.CX P w) P w K mg base N qual scope f cdv A outer s H E) (fun c d _ H => E c d H)
theorem fn_def (F : FunD K x qual params body scope dvs kws f fd) (S : FnScope N ps scope)
    (hb : ∀ (cdv : Value) (A : Around) (outer : List Env) (s : Shared) (H : Hp) (E : XK), Room k (A.deeper (envOfC qual scope s.heap.objs.size f cdv)) → Takes (cxOf (L2.CX P w) P w K mg base N qual scope f cdv A outer s H E) (fun c d _ H => E c d H) →
      PassesOwn (model P w) (A.deeper (envOfC qual scope s.heap.objs.size f cdv)) (envOfC qual scope s.heap.objs.size f cdv) (cxOf (L2.CX P w) P w K mg base N qual scope f cdv A outer s H E).xe →
      Sxs (cxOf (L2.CX P w) P w K mg base N qual scope f cdv A outer s H E) (fun c d _ H => E c d H) body fb) : FnM P w K mg base (k + 1) f fd ps (runB N.length fb) := by
  refine F.ok S (fun vs H Q E ⟨m, st, ds, hl, hS, r, _⟩ => by rw [← r.len, hl]) (fun cdv A outer s H vs Q E hr ⟨m, st, ds, hl, hS, r, hP⟩ => ?_)
  refine ⟨_, pssW, (hb cdv A outer s H E hr (takes_of rfl rfl rfl rfl) (passes_of rfl)).run m (ent N.length ds) st (L2.start N vs) H _ (SL.start r) hS ?_⟩
  unfold runB at hP
  cases hq : fb (ent N.length ds) st with
  | nx τ s1 =>
    rw [hq] at hP
    exact fun m1 H1 σ e1 hS1 hL1 => hP m1 H1 .non e1 hS1 .non
  | rt d s1 =>
    rw [hq] at hP
    exact hP
  | exc x τ s1 =>
    rw [hq] at hP
    exact fun m1 H1 σ c d e1 hS1 hL1 hX => hP m1 H1 c d e1 hS1 hX
  | bk τ s1 =>
    rw [hq] at hP
    exact hP.elim
  | ct τ s1 =>
    rw [hq] at hP
    exact hP.elim
  | bad =>
    rw [hq] at hP
    exact hP.elim
end

/-! ### what a def leaves behind may be forgotten -/
mutual
def D.lo (k : Nat) : D → Bool
  | .ref n => decide (n < k)
  | .tup xs => D.loAll k xs
  | .rol xs => D.loAll k xs
  | _ => true
def D.loAll (k : Nat) : List D → Bool
  | [] => true
  | d :: ds => D.lo k d && D.loAll k ds
end
def Cell.lo (k : Nat) : Cell → Bool
  | .lst xs => D.loAll k xs
section
variable {K : PySem.W.Frag} {m : List Addr} {H : Hp}
mutual
theorem RD.take {k : Nat} : ∀ {d : D} {v : V}, RD K m H d v → d.lo k = true → RD K (m.take k) H d v
  | _, _, .non, _ => .non
  | _, _, .bl b, _ => .bl b
  | _, _, .int i, _ => .int i
  | _, _, .str x, _ => .str x
  | _, _, .ty n, _ => .ty n
  | _, _, .adr a, _ => .adr a
  | _, _, .tup h r, q => .tup h (RDs.takeA r (by simpa only [D.lo] using q))
  | _, _, .rol h r, q => .rol h (RDs.takeA r (by simpa only [D.lo] using q))
  | _, _, .ref (n := n) h, q => .ref (by
    have z : n < k := of_decide_eq_true (by simpa only [D.lo] using q)
    rw [List.getElem?_take_of_lt z]
    exact h)
theorem RDs.takeA {k : Nat} : ∀ {ds : List D} {vs : List V}, RDs K m H ds vs → D.loAll k ds = true → RDs K (m.take k) H ds vs
  | _, _, .nil, _ => .nil
  | _, _, .cons h r, q => by
    simp only [D.loAll, Bool.and_eq_true] at q
    exact .cons (RD.take h q.1) (RDs.takeA r q.2)
end
mutual
theorem RD.is_lo {k : Nat} (hk : m.length ≤ k) : ∀ {d : D} {v : V}, RD K m H d v → d.lo k = true
  | _, _, .non => rfl
  | _, _, .bl b => rfl
  | _, _, .int i => rfl
  | _, _, .str x => rfl
  | _, _, .ty n => rfl
  | _, _, .adr a => rfl
  | _, _, .tup h r => by simpa only [D.lo] using RDs.is_lo hk r
  | _, _, .rol h r => by simpa only [D.lo] using RDs.is_lo hk r
  | _, _, .ref h => by
    simp only [D.lo, decide_eq_true_eq]
    exact Nat.lt_of_lt_of_le (List.getElem?_eq_some_iff.mp h).1 hk
theorem RDs.is_lo {k : Nat} (hk : m.length ≤ k) : ∀ {ds : List D} {vs : List V}, RDs K m H ds vs → D.loAll k ds = true
  | _, _, .nil => rfl
  | _, _, .cons h r => by simp only [D.loAll, RD.is_lo hk h, RDs.is_lo hk r, Bool.and_self]
end
theorem RC.is_lo {k : Nat} {a : Addr} {c : Cell} (hk : m.length ≤ k) (r : RC K m H a c) : c.lo k = true := by
  cases c with
  | lst ds =>
    obtain ⟨vs, _, r⟩ := r
    exact r.is_lo hk
theorem RC.take {k : Nat} {a : Addr} {c : Cell} (r : RC K m H a c) (h : c.lo k = true) : RC K (m.take k) H a c := by
  cases c with
  | lst ds =>
    obtain ⟨vs, q, r⟩ := r
    exact ⟨vs, q, r.takeA h⟩
/-- r' says no more than r, or the same with a shorter store -/
inductive Le (st : Store) : ER D → ER D → Prop
  | bad (r : ER D) : Le st r .bad
  | refl (r : ER D) : Le st r r
  | gc {v : D} {s1 : Store} (k : Nat) (hk : st.length ≤ k) (hv : v.lo k = true) (hc : ∀ (i : Nat) (c : Cell), i < k → s1[i]? = some c → st[i]? = some c ∨ c.lo k = true) : Le st (.ok v s1) (.ok v (s1.take k))
theorem Le.pe {E : XK} {st : Store} {r r' : ER D} {Q : VK} (l : Le st r r') (s : SS K m st H) (h : Pe K E (RD K) m H r' Q) : Pe K E (RD K) m H r Q := by
  cases l with
  | bad r => exact h.elim
  | refl r => exact h
  | @gc v s1 k hk hv hc =>
    intro m1 H1 b e1 hS1 r1
    refine h (m1.take k) H1 b ⟨⟨fun n a q => ?_, e1.tup, e1.fzl⟩, e1.frm, fun a q n => e1.new a (List.mem_of_mem_take q) n⟩ ⟨?_, ?_, fun n c a q1 q2 => ?_⟩ (r1.take hv)
    · have hl : n < m.length := (List.getElem?_eq_some_iff.mp q).1
      rw [s.len] at hl
      rw [List.getElem?_take_of_lt (Nat.lt_of_lt_of_le hl hk)]
      exact e1.pre n a q
    · rw [List.length_take, List.length_take, hS1.len]
    · exact hS1.nd.sublist (List.take_sublist _ _)
    · have hn : n < k := by
        have z := (List.getElem?_eq_some_iff.mp q1).1
        rw [List.length_take] at z
        omega
      rw [List.getElem?_take_of_lt hn] at q1 q2
      refine (hS1.cel n c a q1 q2).take ?_
      rcases hc n c hn q1 with z | z
      · obtain ⟨a0, _, r0⟩ := s.at z
        exact r0.is_lo (by rw [s.len]; exact hk)
      · exact z
theorem FnM.le {P : Program} {w : World} {mg : Str → Option Value} {base : Heap} {k : Nat} {f : Addr} {fd : FuncData} {ps : List Str} {mf sf : FM} (F : FnM P w K mg base k f fd ps mf) (h : ∀ ds st, Le st (mf ds st) (sf ds st)) : FnM P w K mg base k f fd ps sf :=
  FnOk.imp F fun vs H Q E ⟨m, st, ds, hl, hS, r, hP⟩ => ⟨m, st, ds, hl, hS, r, (h ds st).pe hS hP⟩
/-- a value without the store, the store but for what was laid on it -/
theorem Le.app {st more : Store} {v : D} (hv : v.lo st.length = true) : Le st (.ok v (st ++ more)) (.ok v st) := by
  have z := Le.gc (st := st) (v := v) (s1 := st ++ more) st.length (Nat.le_refl _) hv fun i c hi h => by
    rw [List.getElem?_append_left hi] at h
    exact .inl h
  rw [List.take_left] at z
  exact z
end

/-! ### the law -/
theorem law_sp {K : PySem.W.Frag} {mf : FM} {n : Nat} (h : ∀ ns : List Int, ns.length ≤ n → ∃ st, mf [.rol (ns.map D.int)] [] = .ok (.bl true) st) (H : Hp) (a : Addr) (ns : List Int) (hl : ns.length ≤ n) (ho : Only H) (hS : SqL K H a (ns.map V.int)) :
    spM K 1 mf [V.ref a] H (fun v _ => v = .bl true) (fun _ _ _ => False) := by
  obtain ⟨st, e⟩ := h ns hl
  refine ⟨[], [], [.rol (ns.map D.int)], rfl, ⟨rfl, .nil, fun n c a q => by simp at q⟩, .cons (.rol (FzL.of hS fun ys z => ?_) (RDs.ints ns)) .nil, ?_⟩
  · rcases ho a with q | ⟨o, xs, q⟩
    · rw [q] at z
      cases z
    · rw [q] at z
      cases z
  · rw [e]
    intro m' H' b _ _ r
    cases r
    rfl
end HM

/-! HM, part 8: defs as they are called; what a text is put together of. -/
namespace HM
open PySem PySem.Spec PyProof.Rows L2
section
variable {X : Cx} {W : WX} {e a b c : Expr} {es rest : List Expr} {pos p : Pos} {fa fb fc fe : EM D} {fs : EM (List D)} {g ga gb : EM Bool} {s1 : Stmt} {ss body suite : List Stmt} {f h k : SM}
/-- a name = [..] on one line -/
theorem sx_setLc {i : Nat} {y : Str} {py spos : Pos} {tg elt iter : Expr} {ifs : List Expr} {scope : Scope} {own : List (Str × Nat)} {ix : List Nat} {set : D → Sl → Option Sl} {ft : EM Bool} {fe : EM D} {fi : EM Sq} (hc : X.calm = true) (hN : X.N.Nodup) (hi : Ei X W tg iter fi) (ok : BlkOk X.N X.env.scope scope own)
    (hg : BEg X scope tg ix set) (ht : BEt X scope ifs ft) (he : BEx X scope elt fe) (hy : X.N[i]? = some y := by rfl) (hyl : X.env.scope.names.lookup y = some .local := by rfl)
    (hsw : swapsWith (.ListComp elt [⟨tg, iter, ifs, 0⟩] scope pos) (some (.Name y py)) spos.line X.env = pure true := by exact sw_true rfl rfl rfl (by decide +kernel)) (hown : ∀ i ∈ ix, i ∈ own.map (·.2) := by decide) (hs : ∀ x, foldedSetIterable iter X.env x = pure x := by intro _; rfl) :
    Sx X W (.Assign [.Name y py] (.ListComp elt [⟨tg, iter, ifs, 0⟩] scope pos) spos) (sSet i (eEl (lComp (own.map (·.2)) fi set ft fe))) := by
  refine ⟨fun m τ st σ H D hL hS hP pins s I => ?_⟩
  refine (ps_setLc (g := gAll X scope tg) (tt := tAll X scope ifs) (te := eAll X scope elt) hc hN hy hyl hsw piW ok ?_ ?_ ?_ hs).run pins s σ H D I (comp_post hi hown hg ht he hL hS ?_)
  · exact fun s H C cl fp => ⟨fun pins s' σ H' v u Q I r h => h s H C cl fp pins s' u I r⟩
  · exact fun s H C cl fp => ⟨fun pins s' σ H' Q I h => h s H C cl fp pins s' I⟩
  · exact fun s H C cl fp => ⟨fun pins s' σ H' Q I h => h s H C cl fp pins s' I⟩
  · unfold sSet eEl at hP
    cases hq : lComp (own.map (·.2)) fi set ft fe τ st with
    | ok ds s1 =>
      rw [hq] at hP
      intro m1 H1 v e1 hS1 ⟨a, vs, e, ha, na, hn, rs⟩
      subst e
      have e2 := e1.own hn
      have r2 : RD X.K (m1 ++ [a]) H1 (.ref s1.length) (.ref a) := .ref (by
        rw [← hS1.len]
        simp)
      exact hP (m1 ++ [a]) H1 _ e2 (hS1.grow na ⟨vs, ha, rs.kp Kp.grow⟩) ((hL.mono e2).set i r2)
    | exc x st' =>
      rw [hq] at hP
      exact fun m' H' c d e s q => hP m' H' σ c d e s (hL.mono e) q
    | bad =>
      rw [hq] at hP
      exact hP.elim

/-! ### defs by name -/
structure Cal (P : Program) (w : World) (K : PySem.W.Frag) (mg : Str → Option Value) (base : Heap) (x : Str) (k : Nat) (ps : List Str) (mf : FM) : Prop where
  ex : ∃ (f : Addr) (fd : FuncData), FnM P w K mg base k f fd ps mf ∧ mg x = some (.ref f) ∧ PySem.W.keepIn K (.ref f) = true ∧ Binds K fd ps [] ∧ ∃ oc od osl, K.lookup f = some ⟨oc, od, .func fd, osl⟩
theorem Cal.le {P : Program} {w : World} {K : PySem.W.Frag} {mg : Str → Option Value} {base : Heap} {x : Str} {k : Nat} {ps : List Str} {mf sf : FM} (c : Cal P w K mg base x k ps mf) (h : ∀ ds st, Le st (mf ds st) (sf ds st)) : Cal P w K mg base x k ps sf := by
  obtain ⟨f, fd, F, r⟩ := c.ex
  exact ⟨f, fd, F.le h, r⟩
theorem Cal.mono {P : Program} {w : World} {K : PySem.W.Frag} {mg : Str → Option Value} {base : Heap} {x : Str} {j k : Nat} {ps : List Str} {mf : FM} (c : Cal P w K mg base x j ps mf) (h : j ≤ k) : Cal P w K mg base x k ps mf := by
  obtain ⟨f, fd, F, r⟩ := c.ex
  exact ⟨f, fd, FnOk.mono F h, r⟩
theorem ex_c1 {P : Program} {w : World} {K : PySem.W.Frag} {mg : Str → Option Value} {base : Heap} {A : Around} {j k : Nat} {ps : List Str} {mf : FM} {x : Str} (c : Cal P w K mg base x j ps mf) (tk : Takes X W) (hr : Room k A) (hj : j ≤ k) (ha : Ea X W (e :: es) fs)
    (h1 : X.prog = P := by rfl) (h2 : X.w = w := by rfl) (h3 : X.K = K := by rfl) (h4 : X.mg = mg := by rfl) (h5 : X.base = base := by rfl) (h6 : X.A = A := by rfl) (hg : Gl X x := by rfl) (hdb : (x == ("__debug__" : Str)) = false := by decide) (he : starEach (e :: es) X.env = (false, eval e X.env) :: starEach es X.env := by rfl)
    (hpl : (backTo pos (starEach es X.env)).any (·.1) = false := by rfl) : Ex X W (.Call (.Name x p) (e :: es) [] pos) (eCall ps.length mf fs) := by
  subst h1 h2 h3 h4 h5 h6
  obtain ⟨f, fd, F, hm, hk, hb, _⟩ := c.ex
  exact ex_call tk F (hr.mono hj) hg hm hk hb ha hdb he hpl
theorem ex_c0 {P : Program} {w : World} {K : PySem.W.Frag} {mg : Str → Option Value} {base : Heap} {A : Around} {j k : Nat} {ps : List Str} {mf : FM} {x : Str} (c : Cal P w K mg base x j ps mf) (tk : Takes X W) (hr : Room k A) (hj : j ≤ k)
    (h1 : X.prog = P := by rfl) (h2 : X.w = w := by rfl) (h3 : X.K = K := by rfl) (h4 : X.mg = mg := by rfl) (h5 : X.base = base := by rfl) (h6 : X.A = A := by rfl) (hg : Gl X x := by rfl) (hdb : (x == ("__debug__" : Str)) = false := by decide) : Ex X W (.Call (.Name x p) [] [] pos) (eCall ps.length mf aNil) := by
  subst h1 h2 h3 h4 h5 h6
  obtain ⟨f, fd, F, hm, hk, hb, _⟩ := c.ex
  exact ex_call0 tk F (hr.mono hj) hg hm hk hb hdb
/-- in a comprehension nothing is let out -/
theorem tk0 : Takes X (fun _ _ _ _ => False) := takes0
end
/-- a def of the text -/
abbrev FnP (K : PySem.W.Frag) (x : Str) (st : Stmt) (f : Addr) (fd : FuncData) : Prop := FunD K x x (defArgs st) (defBody st) (defScope st) [] [] f fd
section
variable {P : Program} {w : World} {K : PySem.W.Frag} {mg : Str → Option Value} {base : Heap}
theorem cal_mk {x : Str} {st : Stmt} {f : Addr} {fd : FuncData} {N ps : List Str} {k : Nat} {fb : SM} (F : FnP K x st f fd) (S : FnScope N ps (defScope st)) (gx : mg x = some (.ref f))
    (bn : ∀ (kV doc pm : Value) (an : Option Addr) (cdv ct : Value) (us : List Value), us.length = ps.length → bindArgs (PySem.W.fnOf x x (defArgs st) (defBody st) (defScope st) .none kV doc pm an cdv ct) ⟨us, []⟩ = pure (ps.zip us))
    (hb : ∀ (cdv : Value) (A : Around) (outer : List Env) (s : Shared) (H : Hp) (E : XK), Room k (A.deeper (envOfC x (defScope st) s.heap.objs.size f cdv)) → Takes (cxOf (L2.CX P w) P w K mg base N x (defScope st) f cdv A outer s H E) (fun c d _ H => E c d H) →
      PassesOwn (model P w) (A.deeper (envOfC x (defScope st) s.heap.objs.size f cdv)) (envOfC x (defScope st) s.heap.objs.size f cdv) (cxOf (L2.CX P w) P w K mg base N x (defScope st) f cdv A outer s H E).xe →
      Sxs (cxOf (L2.CX P w) P w K mg base N x (defScope st) f cdv A outer s H E) (fun c d _ H => E c d H) (defBody st) fb) : Cal P w K mg base x (k + 1) ps (runB N.length fb) :=
  ⟨f, fd, fn_def F S hb, gx, F.kp, F.bindsN bn, let ⟨oc, od, _, _, _, _, _, _, _, osl, e, lk, _⟩ := F.ex; ⟨oc, od, osl, e ▸ lk⟩⟩
end
/-! ### what the built-in names hold -/
theorem bt_len : bootBuiltins "len" = some (.builtin "len") := by decide +kernel
theorem bt_abs : bootBuiltins "abs" = some (.builtin "abs") := by decide +kernel
theorem bt_isinstance : bootBuiltins "isinstance" = some (.builtin "isinstance") := by decide +kernel
theorem bt_min : bootBuiltins "min" = some (.builtin "min") := by decide +kernel
theorem bt_max : bootBuiltins "max" = some (.builtin "max") := by decide +kernel
theorem bt_sum : bootBuiltins "sum" = some (.builtin "sum") := by decide +kernel
theorem bt_all : bootBuiltins "all" = some (.builtin "all") := by decide +kernel
theorem bt_any : bootBuiltins "any" = some (.builtin "any") := by decide +kernel
theorem bt_sorted : bootBuiltins "sorted" = some (.builtin "sorted") := by decide +kernel
theorem bt_int : bootBuiltins "int" = some (.type "int") := by decide +kernel
theorem bt_bool : bootBuiltins "bool" = some (.type "bool") := by decide +kernel
theorem bt_str : bootBuiltins "str" = some (.type "str") := by decide +kernel
theorem bt_tuple : bootBuiltins "tuple" = some (.type "tuple") := by decide +kernel
theorem bt_list : bootBuiltins "list" = some (.type "list") := by decide +kernel
end HM

/-! HM, part 9: what the top leaves. -/
namespace HM
open PySem PySem.Spec PyProof.Rows L2
mutual
def conB (K : PySem.W.Frag) : D → Value → Bool
  | .non, .none => true
  | .bl a, .bool b => a == b
  | .int i, .int j _ => decide (i = j)
  | .str x, .str y _ => decide (y.cps.toList = x)
  | .tup ds, .ref a => match K.lookup a with
    | some ⟨.type c, _, .seq its _, _⟩ => decide (c = "tuple") && (decide (its.size ≤ sizeLine) && conAll K ds its.toList)
    | _ => false
  | _, _ => false
def conAll (K : PySem.W.Frag) : List D → List Value → Bool
  | [], [] => true
  | d :: ds, u :: us => conB K d u && conAll K ds us
  | _, _ => false
end
mutual
theorem conB_ok {K : PySem.W.Frag} : ∀ (d : D) (u : Value), conB K d u = true → ∃ v, RelV v u ∧ ∀ m H, RD K m H d v
  | .non, u, h => by
    cases u <;> simp [conB] at h
    exact ⟨.non, rfl, fun _ _ => .non⟩
  | .bl a, u, h => by
    cases u <;> simp [conB] at h
    subst h
    exact ⟨.bl _, rfl, fun _ _ => .bl _⟩
  | .int i, u, h => by
    cases u <;> simp [conB] at h
    subst h
    exact ⟨.int _, ⟨_, rfl⟩, fun _ _ => .int _⟩
  | .str x, u, h => by
    cases u <;> simp [conB] at h
    rename_i y t
    subst h
    refine ⟨.str y, ⟨_, rfl⟩, fun _ _ => ?_⟩
    have e : (⟨y.cps.toList.toArray⟩ : PySem.Str) = y := by simp
    have z := RD.str (K := K) (m := ‹_›) (H := ‹_›) y.cps.toList
    rw [e] at z
    exact z
  | .tup ds, u, h => by
    cases u with
    | ref a =>
      have h1 : (match K.lookup a with
        | some ⟨.type c, _, .seq its _, _⟩ => decide (c = "tuple") && (decide (its.size ≤ sizeLine) && conAll K ds its.toList)
        | _ => false) = true := by
        simpa only [conB] using h
      split at h1
      · rename_i c od its n osl e
        simp only [Bool.and_eq_true, decide_eq_true_eq] at h1
        obtain ⟨h2, h3, h4⟩ := h1
        subst h2
        obtain ⟨vs, r, q⟩ := conAll_ok ds its.toList h4
        exact ⟨.ref a, rfl, fun m H => .tup (.inr ⟨_, its, n, e, rfl, rfl, h3, r⟩) (q m H)⟩
      · cases h1
    | _ => simp [conB] at h
  | .ref _, u, h => by simp [conB] at h
  | .ty _, u, h => by simp [conB] at h
  | .adr _, u, h => by simp [conB] at h
  | .rol _, u, h => by simp [conB] at h
theorem conAll_ok {K : PySem.W.Frag} : ∀ (ds : List D) (us : List Value), conAll K ds us = true → ∃ vs, Vals vs us ∧ ∀ m H, RDs K m H ds vs
  | [], [], _ => ⟨[], .nil, fun _ _ => .nil⟩
  | [], _ :: _, h => by simp [conAll] at h
  | _ :: _, [], h => by simp [conAll] at h
  | d :: ds, u :: us, h => by
    simp only [conAll, Bool.and_eq_true] at h
    obtain ⟨v, r1, q1⟩ := conB_ok d u h.1
    obtain ⟨vs, r2, q2⟩ := conAll_ok ds us h.2
    exact ⟨v :: vs, .cons r1 r2, fun m H => .cons (q1 m H) (q2 m H)⟩
end
/-- a module's name holds a constant -/
structure Con (K : PySem.W.Frag) (mg : Str → Option Value) (x : Str) (d : D) : Prop where
  ex : ∃ u v, mg x = some u ∧ RelV v u ∧ ∀ m H, RD K m H d v
theorem ex_con {X : Cx} {W : WX} {x : Str} {d : D} {pos : Pos} (c : Con X.K X.mg x d) (hg : Gl X x := by rfl) (hd : (x == ("__debug__" : Str)) = false := by decide) : Ex X W (.Name x pos) (eC d) := by
  obtain ⟨u, v, hm, r, rd⟩ := c.ex
  exact ex_glob hg hm r rd hd
/-- further facts of the top -/
inductive Fx where
  /-- a built-in function by a name of the module's -/
  | blt (x : Str) (id : String)
  /-- a constant -/
  | con (x : Str) (d : D)
def Fx.ok (K : PySem.W.Frag) : Fx → Bool
  | .blt x id => (match PySem.W.nsIn K mainGlobals x with
    | some (some (.builtin j)) => decide (j = id)
    | _ => false)
  | .con x d => (match PySem.W.nsIn K mainGlobals x with
    | some (some u) => conB K d u
    | _ => false)
section
variable {K : PySem.W.Frag} {h : Heap} {mg : Str → Option Value}
theorem blt_ok (X : K.In h) (G : h.Ns mainGlobals mg) {x : Str} {id : String} (c : (Fx.blt x id).ok K = true) : mg x = some (.builtin id) := by
  have c : (match PySem.W.nsIn K mainGlobals x with
    | some (some (.builtin j)) => decide (j = id)
    | _ => false) = true := c
  split at c
  · rename_i j e
    rw [PySem.W.mg_of X G e, of_decide_eq_true c]
  · cases c
theorem con_ok (X : K.In h) (G : h.Ns mainGlobals mg) {x : Str} {d : D} (c : (Fx.con x d).ok K = true) : Con K mg x d := by
  have c : (match PySem.W.nsIn K mainGlobals x with
    | some (some u) => conB K d u
    | _ => false) = true := c
  split at c
  · rename_i u e
    obtain ⟨v, r, q⟩ := conB_ok d u c
    exact ⟨u, v, PySem.W.mg_of X G e, r, q⟩
  · cases c
end
/-! ### the Hook -/
def obsM (fa : List He.Fa) (fx : List Fx) (fn : List He.DefD) (K : PySem.W.Frag) : He.AlD := (((fa.all fun f => f.ok K) && fx.all fun f => f.ok K) && fn.all fun d => d.ok K, fn.map fun d => He.fnW K d.at_)
def SaysM (fa : List He.Fa) (fx : List Fx) (fn : List He.DefD) (K : PySem.W.Frag) : Prop := obsM fa fx fn K = He.valD fn
def obsMG (n : Nat) (fa : List He.Fa) (fx : List Fx) (fn : List He.DefD) (g : Addr → Option Obj) : He.AlD := obsM fa fx fn (He.frG g (He.asD g n))
def hookM (n : Nat) (fa : List He.Fa) (fx : List Fx) (fn : List He.DefD) : PySem.W.Hook where
  α := He.AlD
  obs := fun s => obsMG n fa fx fn s.heap.get?
  val := fun _ => He.valD fn
  says := fun _ h => ∃ K : PySem.W.Frag, K.In h ∧ SaysM fa fx fn K
  of := fun _ _ e => ⟨_, He.frG_in, e⟩
  keeps := fun _ _ _ ⟨K, hK, c⟩ k => ⟨K, PySem.W.Frag.In.keeps hK k, c⟩
theorem obsMG_eq {n : Nat} {fa : List He.Fa} {fx : List Fx} {fn : List He.DefD} {g : Addr → Option Obj} {s : Shared} (h : ∀ a, g a = s.heap.get? a) : obsMG n fa fx fn g = (hookM n fa fx fn).obs s := by
  have e : g = s.heap.get? := funext h
  rw [e] <;> rfl
section
variable {fa : List He.Fa} {fx : List Fx} {fn : List He.DefD} {K : PySem.W.Frag}
theorem SaysM.fact (c : SaysM fa fx fn K) (i : Nat) {f : He.Fa} (h : fa[i]? = some f := by rfl) : f.ok K = true := by
  have c1 := (He.ba (He.ba (show (((fa.all fun f => f.ok K) && fx.all fun f => f.ok K) && fn.all fun d => d.ok K) = true from congrArg (fun z : He.AlD => z.1) c)).1).1
  exact List.all_eq_true.mp c1 f (List.mem_of_getElem? h)
theorem SaysM.more (c : SaysM fa fx fn K) (i : Nat) {f : Fx} (h : fx[i]? = some f := by rfl) : f.ok K = true := by
  have c1 := (He.ba (He.ba (show (((fa.all fun f => f.ok K) && fx.all fun f => f.ok K) && fn.all fun d => d.ok K) = true from congrArg (fun z : He.AlD => z.1) c)).1).2
  exact List.all_eq_true.mp c1 f (List.mem_of_getElem? h)
theorem SaysM.def_ (c : SaysM fa fx fn K) (i : Nat) {d : He.DefD} (h : fn[i]? = some d := by rfl) : ∃ fd, FunD K d.name d.qual d.params d.body d.scope (d.dvs K) (d.kws K) (He.fAd K d.at_) fd := by
  have c2 := (He.ba (show (((fa.all fun f => f.ok K) && fx.all fun f => f.ok K) && fn.all fun d => d.ok K) = true from congrArg (fun z : He.AlD => z.1) c)).2
  have e : fn.map (fun d => He.fnW K d.at_) = fn.map He.DefD.val := congrArg (fun z : He.AlD => z.2) c
  have e2 : (fn.map fun d => He.fnW K d.at_)[i]? = (fn.map He.DefD.val)[i]? := by rw [e]
  rw [List.getElem?_map, List.getElem?_map, h] at e2
  exact He.DefD.funD (Option.some.inj e2) (List.all_eq_true.mp c2 d (List.mem_of_getElem? h))
end
/-! ### the law's end -/
/-- where nothing may be let out -/
theorem FnM.shut {P : Program} {w : World} {K : PySem.W.Frag} {mg : Str → Option Value} {base : Heap} {k : Nat} {f : Addr} {fd : FuncData} {ps : List Str} {mf : FM} (F : FnM P w K mg base k f fd ps mf) :
    FnOk P w K mg base CX0 k f fd ps (fun vs H Q _ => spM K ps.length mf vs H Q fun _ _ _ => False) where
  len := fun vs H Q E h => F.len vs H Q _ h
  run := fun A outer s H args us vs Q E hr e0 hb hv h => by
    refine codeAny_mono (F.run A outer s H args us vs Q _ hr e0 hb hv h) fun r s' hq => ?_
    cases r with
    | error e =>
      obtain ⟨_, _, _, _, _, _, _, _, _, _, _, _, z⟩ := (hq : L2.CX P w outer H s (fun _ _ _ => False) e s')
      exact z.elim
    | ok fl => cases fl <;> exact hq
end HM

/-! HM, part 10: methods of lists and texts, in, slices, sums. -/
namespace HM
open PySem PySem.Spec PyProof.Rows L2
section
variable {X : Cx} {W : WX} {e o a b c : Expr} {es : List Expr} {pos p : Pos} {f fo fa fb : EM D} {fs : EM (List D)}
theorem _root_.L2.Room.units65 {k : Nat} {A : Around} (r : Room k A) : A.units + 65 < cLine := by have := r.un; omega
theorem below_line {n : Nat} (h : n < 16777216) : n < sizeLine := by
  rw [PySem.sizeLine_eq]
  exact h
/-! ### methods -/
abbrev MM := D → FM
def MethM (X : Cx) (id : String) (g : MM) : Prop :=
  ∃ r, MtR X id r ∧ ∀ (m : List Addr) (st : Store) (H : Hp) (d : D) (v : V) (ds : List D) (vs : List V) (E : XK) (Q : VK), SS X.K m st H → RD X.K m H d v → RDs X.K m H ds vs → Pe X.K E (RD X.K) m H (g d ds st) Q → r v vs H Q
def okT (T : String) (st : Store) (d : D) : Bool := match d with
  | .str _ => decide (T = "str")
  | .rol _ => decide (T = "list")
  | .ref n => decide (T = "list") && (lstAt st n).isSome
  | _ => false
theorem okT_ty {K : PySem.W.Frag} {m : List Addr} {st : Store} {H : Hp} {d : D} {v : V} {T : String} (s : SS K m st H) (h : okT T st d = true) (r : RD K m H d v) : tyV K T v H := by
  cases r with
  | str x =>
    have q : T = "str" := of_decide_eq_true h
    exact q
  | rol q rs => exact .inl ⟨of_decide_eq_true h, _, q.sq⟩
  | ref q =>
    have h : (decide (T = "list") && (lstAt st _).isSome) = true := h
    rw [Bool.and_eq_true] at h
    obtain ⟨xs, e⟩ := Option.isSome_iff_exists.mp h.2
    obtain ⟨vs, h1, h2⟩ := s.list e q
    exact .inl ⟨of_decide_eq_true h.1, _, SqL.of h1⟩
  | _ => cases h
def eM (T : String) (g : MM) (fo : EM D) (fs : EM (List D)) : EM D := fun τ st => (fo τ st).bind fun d s1 => if okT T s1 d then (fs τ s1).bind fun ds s2 => g d ds s2 else .bad
theorem ex_m {name : Str} {apos cpos : Pos} {T id : String} {g : MM} (pa : PlainAttrs T) (slot : Slot T name id) (hty : typeOf (.builtin id) = pure (.type "method_descriptor")) (hm : MethM X id g) (ho : Ex X W o fo) (ha : Ea X W (e :: es) fs)
    (hbase : attributeBase o name X.env (eval o X.env) = eval o X.env := by rfl)
    (hfew : ((backTo cpos (starEach (e :: es) X.env)).all (fun x => !x.1) && (backToKw cpos (keywordEach [] X.env)).all (fun x => x.1.isSome)
      && decide ((e :: es).length + ([] : List Keyword).length + (if ([] : List Keyword).isEmpty then 0 else 1) < 30)) = true := by rfl)
    (hline : (apos.endLine == cpos.line) = true := by rfl) (hs : starEach (e :: es) X.env = (false, eval e X.env) :: starEach es X.env := by rfl) (hplain : (backTo cpos (starEach es X.env)).any (·.1) = false := by rfl) :
    Ex X W (.Call (.Attribute o name apos) (e :: es) [] cpos) (eM T g fo fs) := by
  obtain ⟨r, hr, h⟩ := hm
  refine ⟨fun m τ st σ H Q hL hS hP pins s I => (pe_bm pa slot hty hr peW paW hbase hfew hline hs hplain).run pins s σ H Q I ?_⟩
  refine ho.run m τ st σ H _ hL hS (hP.bind fun d s1 m1 H1 v e1 hS1 r1 hP1 => ?_)
  split at hP1
  · rename_i hk
    exact ⟨okT_ty hS1 hk r1, ha.run m1 τ s1 σ H1 _ (hL.mono e1) hS1 (hP1.bind fun ds s2 m2 H2 vs e2 hS2 r2 hP2 => h m2 s2 H2 d v ds vs _ Q hS2 (r1.mono e2) r2 hP2)⟩
  · exact hP1.elim
theorem ex_m0 {name : Str} {apos cpos : Pos} {T id : String} {g : MM} (pa : PlainAttrs T) (slot : Slot T name id) (hty : typeOf (.builtin id) = pure (.type "method_descriptor")) (hm : MethM X id g) (ho : Ex X W o fo)
    (hbase : attributeBase o name X.env (eval o X.env) = eval o X.env := by rfl) (hline : (apos.endLine == cpos.line) = true := by rfl) :
    Ex X W (.Call (.Attribute o name apos) [] [] cpos) (eM T g fo aNil) := by
  obtain ⟨r, hr, h⟩ := hm
  refine ⟨fun m τ st σ H Q hL hS hP pins s I => (pe_bm0 pa slot hty hr peW hbase hline).run pins s σ H Q I ?_⟩
  refine ho.run m τ st σ H _ hL hS (hP.bind fun d s1 m1 H1 v e1 hS1 r1 hP1 => ?_)
  split at hP1
  · rename_i hk
    exact ⟨okT_ty hS1 hk r1, h m1 s1 H1 d v [] [] _ Q hS1 r1 .nil hP1⟩
  · exact hP1.elim
def mAppend : MM := fun d ds st => match d, ds with
  | .ref n, [x] => match lstAt st n with
    | some xs => if xs.length < 16777216 then .ok .non (st.set n (.lst (xs ++ [x]))) else .bad
    | none => .bad
  | _, _ => .bad
theorem me_append : MethM X "list.append" mAppend := ⟨_, mt_append, fun m st H d v ds vs E Q hS r rs hP => by
  unfold mAppend at hP
  split at hP
  · split at hP
    · rename_i xs hx
      split at hP
      · rename_i hl
        cases r with
        | ref q =>
          obtain ⟨us, h1, h2⟩ := hS.list hx q
          obtain ⟨u, rfl, ru⟩ := rs.one
          exact ⟨_, us, u, rfl, rfl, h1, below_line (by rw [← h2.len]; exact hl), hP m _ _ (Ext.write h1 q) (hS.write h1 q (h2.append (.cons ru .nil))) .non⟩
      · exact hP.elim
    · exact hP.elim
  · exact hP.elim⟩
def mExtend : MM := fun d ds st => match d, ds with
  | .ref n, [.ref k] => match lstAt st n, lstAt st k with
    | some xs, some ys => if xs.length + ys.length ≤ 16777216 then .ok .non (st.set n (.lst (xs ++ ys))) else .bad
    | _, _ => .bad
  | _, _ => .bad
theorem me_extend : MethM X "list.extend" mExtend := ⟨_, mt_extend, fun m st H d v ds vs E Q hS r rs hP => by
  unfold mExtend at hP
  split at hP
  · split at hP
    · rename_i xs ys hx hy
      split at hP
      · rename_i hl
        obtain ⟨u, rfl, ru⟩ := rs.one
        cases r with
        | ref q =>
          cases ru with
          | ref q' =>
            obtain ⟨us, h1, h2⟩ := hS.list hx q
            obtain ⟨ws, h3, h4⟩ := hS.list hy q'
            exact ⟨_, _, us, ws, rfl, rfl, h1, h3, line_of (by rw [← h2.len, ← h4.len]; exact hl), hP m _ _ (Ext.write h1 q) (hS.write h1 q (h2.append h4)) .non⟩
      · exact hP.elim
    · exact hP.elim
  · exact hP.elim⟩
def mPop : MM := fun d ds st => match d, ds with
  | .ref n, [] => match lstAt st n with
    | some xs => match xs[xs.length - 1]? with
      | some y => .ok y (st.set n (.lst xs.dropLast))
      | none => .bad
    | none => .bad
  | _, _ => .bad
theorem me_pop : MethM X "list.pop" mPop := ⟨_, mt_pop, fun m st H d v ds vs E Q hS r rs hP => by
  unfold mPop at hP
  split at hP
  · split at hP
    · rename_i xs hx
      split at hP
      · rename_i y hy
        cases r with
        | ref q =>
          obtain ⟨us, h1, h2⟩ := hS.list hx q
          cases rs
          rw [h2.len] at hy
          obtain ⟨u, hu, ru⟩ := h2.get hy
          have e := Ext.write (K := X.K) (o := .lst us.dropLast) h1 q
          exact ⟨_, us, u, rfl, rfl, h1, hu, hP m _ _ e (hS.write h1 q h2.dropLast) (ru.mono e)⟩
      · exact hP.elim
    · exact hP.elim
  · exact hP.elim⟩
def okIx (i : Int) : Bool := decide (i.natAbs < 9223372036854775808)
theorem okIx_ok {i : Int} (h : okIx i = true) : -(2 ^ 63) ≤ i ∧ i < 2 ^ 63 := by
  have q : i.natAbs < 9223372036854775808 := of_decide_eq_true h
  have q' : -9223372036854775808 ≤ i ∧ i < 9223372036854775808 := by omega
  exact q'
def mPopAt : MM := fun d ds st => match d, ds with
  | .ref n, [.int i] => match lstAt st n with
    | some xs => match seqIndex? i xs.length with
      | some k => match xs[k]? with
        | some y => if okIx i then .ok y (st.set n (.lst (xs.eraseIdx k))) else .bad
        | none => .bad
      | none => .bad
    | none => .bad
  | _, _ => .bad
theorem me_popAt : MethM X "list.pop" mPopAt := ⟨_, mt_popAt, fun m st H d v ds vs E Q hS r rs hP => by
  unfold mPopAt at hP
  split at hP
  · split at hP
    · rename_i xs hx
      split at hP
      · rename_i k hk
        split at hP
        · rename_i y hy
          split at hP
          · rename_i hi
            obtain ⟨w, rfl, rw'⟩ := rs.one
            cases rw'
            cases r with
            | ref q =>
              obtain ⟨us, h1, h2⟩ := hS.list hx q
              obtain ⟨u, hu, ru⟩ := h2.get hy
              have e := Ext.write (K := X.K) (o := .lst (us.eraseIdx k)) h1 q
              exact ⟨_, us, _, k, u, rfl, rfl, h1, (okIx_ok hi).1, (okIx_ok hi).2, by rw [← h2.len]; exact hk, hu, hP m _ _ e (hS.write h1 q (h2.erase k)) (ru.mono e)⟩
          · exact hP.elim
        · exact hP.elim
      · exact hP.elim
    · exact hP.elim
  · exact hP.elim⟩
def mInsert : MM := fun d ds st => match d, ds with
  | .ref n, [.int i, y] => match lstAt st n with
    | some xs => if decide (0 ≤ i) && okIx i && decide (xs.length < 16777216) then .ok .non (st.set n (.lst (xs.take i.toNat ++ [y] ++ xs.drop i.toNat))) else .bad
    | none => .bad
  | _, _ => .bad
theorem me_insert : MethM X "list.insert" mInsert := ⟨_, mt_insert, fun m st H d v ds vs E Q hS r rs hP => by
  unfold mInsert at hP
  split at hP
  · split at hP
    · rename_i xs hx
      split at hP
      · rename_i hc
        simp only [Bool.and_eq_true, decide_eq_true_eq] at hc
        obtain ⟨w, u, rfl, rw', ru⟩ := rs.two
        cases rw'
        cases r with
        | ref q =>
          obtain ⟨us, h1, h2⟩ := hS.list hx q
          exact ⟨_, us, _, u, rfl, rfl, h1, below_line (by rw [← h2.len]; exact hc.2), hc.1.1, (okIx_ok hc.1.2).2, hP m _ _ (Ext.write h1 q) (hS.write h1 q (((h2.take _).append (.cons ru .nil)).append (h2.drop _))) .non⟩
      · exact hP.elim
    · exact hP.elim
  · exact hP.elim⟩
/-! ### in -/
def D.flat : D → Bool
  | .non => true
  | .bl _ => true
  | .int _ => true
  | .str _ => true
  | _ => false
def eqF : D → D → Bool
  | .non, .non => true
  | .bl a, .bl b => a == b
  | .bl a, .int b => (if a then 1 else 0) == b
  | .int a, .bl b => a == (if b then 1 else 0)
  | .int a, .int b => decide (a = b)
  | .str a, .str b => decide (a = b)
  | _, _ => false
theorem flat_V {K : PySem.W.Frag} {m : List Addr} {H : Hp} {d : D} {v : V} (r : RD K m H d v) (h : d.flat = true) : flatV v = true := by
  cases r <;> first | rfl | cases h
theorem flats_V {K : PySem.W.Frag} {m : List Addr} {H : Hp} : ∀ {ds : List D} {vs : List V}, RDs K m H ds vs → ds.all D.flat = true → vs.all flatV = true
  | [], _, .nil, _ => rfl
  | d :: ds, _, .cons r rs, h => by
    rw [List.all_cons, Bool.and_eq_true] at h ⊢
    exact ⟨flat_V r h.1, flats_V rs h.2⟩
theorem eqF_V {K : PySem.W.Frag} {m : List Addr} {H : Hp} {d e : D} {v u : V} (r : RD K m H d v) (r' : RD K m H e u) (h : d.flat = true) (h' : e.flat = true) : eqV v u = eqF d e := by
  cases r with
  | non => cases r' <;> first | rfl | cases h'
  | bl b => cases r' <;> first | rfl | cases h'
  | int i =>
    cases r' with
    | int j =>
      show (i == j) = decide (i = j)
      rw [Bool.eq_iff_iff]
      simp
    | _ => first | rfl | cases h'
  | str x =>
    cases r' with
    | str y =>
      show ((⟨x.toArray⟩ : Str) == (⟨y.toArray⟩ : Str)) = decide (x = y)
      rw [Bool.eq_iff_iff]
      simp
    | _ => first | rfl | cases h'
  | _ => cases h
theorem inV_D {K : PySem.W.Frag} {m : List Addr} {H : Hp} {d : D} {v : V} (r : RD K m H d v) (h : d.flat = true) : ∀ {ds : List D} {vs : List V}, RDs K m H ds vs → ds.all D.flat = true → inV v vs = ds.any fun y => eqF y d
  | [], _, .nil, _ => rfl
  | e :: ds, _, .cons r' rs, h' => by
    rw [List.all_cons, Bool.and_eq_true] at h'
    have := inV_D r h rs h'.2
    unfold inV at this ⊢
    rw [List.any_cons, List.any_cons, this, eqF_V r' r h'.1 h]
def rInT (K : PySem.W.Frag) (neg : Bool) : R2 := fun x y H Q => ∃ d ds, Dp K H x d ∧ Dp K H y (.tuple ds) ∧ SeqAt.shaped d = true ∧ SeqAt.shaped (.tuple ds) = true ∧ Q (.bl (if neg then !(ds.any fun z => PyData.eqv z d) else ds.any fun z => PyData.eqv z d)) H
theorem op_inT (hu : X.A.units + 65 < cLine) : OpR X (compareOp .In) (rInT X.K false) := by
  intro pins s σ H x y v u Q I rx ry h
  obtain ⟨d, ds, hd, he, sd, se, q⟩ := h
  obtain ⟨as, r1⟩ := Dp.reads I d x v hd rx
  obtain ⟨bs, r2⟩ := Dp.reads I (.tuple ds) y u he ry
  exact SeqAt.in_tuple_reads r2 r1 (SeqAt.canLay_of_shaped se) (SeqAt.canLay_of_shaped sd) (room_in_shaped sd hu) ⟨.bl _, H, I, rfl, q⟩
theorem op_notInT (hu : X.A.units + 65 < cLine) : OpR X (compareOp .NotIn) (rInT X.K true) := by
  intro pins s σ H x y v u Q I rx ry h
  obtain ⟨d, ds, hd, he, sd, se, q⟩ := h
  obtain ⟨as, r1⟩ := Dp.reads I d x v hd rx
  obtain ⟨bs, r2⟩ := Dp.reads I (.tuple ds) y u he ry
  exact SeqAt.notIn_tuple_reads r2 r1 (SeqAt.canLay_of_shaped se) (SeqAt.canLay_of_shaped sd) (room_in_shaped sd hu) ⟨.bl _, H, I, rfl, q⟩
/-- is it among flat ones, one sign in a text, among data of any depth -/
def dIn (x y : D) (st : Store) : Option Bool := match x, y with
  | .str [c], .str z => some (decide (c ∈ z))
  | x, y => match dSeq st y with
    | some ys => if x.flat && ys.all D.flat then some (ys.any fun y => eqF y x) else if x.plain 59 && ys.all (D.plain 59) then some (decide (x ∈ ys)) else none
    | none => none
def oIn : O2 := fun x y st => match dIn x y st with
  | some b => .ok (.bl b) st
  | none => .bad
def oNotIn : O2 := fun x y st => match dIn x y st with
  | some b => .ok (.bl !b) st
  | none => .bad
theorem any_plain {n : Nat} {x : D} (hx : x.plain n = true) : ∀ {ys : List D}, ys.all (D.plain n) = true → ((ys.map (D.toP n)).any fun z => PyData.eqv z (x.toP n)) = decide (x ∈ ys)
  | [], _ => by simp
  | y :: ys, h => by
    rw [List.all_cons, Bool.and_eq_true] at h
    rw [List.map_cons, List.any_cons, any_plain hx h.2, eqv_plain n y x h.1 hx]
    simp [List.mem_cons, eq_comm]
theorem m_inB {op : CmpOp} {neg : Bool} {r1 r2 r3 r4 : R2} (h1 : OpR X (compareOp op) r1) (h2 : OpR X (compareOp op) r2) (h3 : OpR X (compareOp op) r3) (h4 : OpR X (compareOp op) r4)
    (s1 : ∀ (c : Nat) (z : Str) H Q, Q (.bl (if neg then !decide (c ∈ z.cps.toList) else decide (c ∈ z.cps.toList))) H → r1 (.str ⟨#[c]⟩) (.str z) H Q)
    (s2 : ∀ x y H Q, rIn X.K neg x y H Q → r2 x y H Q)
    (s3 : ∀ x y H Q d ds, Dp X.K H x d → Dp X.K H y (.list ds) → SeqAt.shaped d = true → SeqAt.shaped (.list ds) = true → Q (.bl (if neg then !(ds.any fun z => PyData.eqv z d) else ds.any fun z => PyData.eqv z d)) H → r3 x y H Q)
    (s4 : ∀ x y H Q d ds, Dp X.K H x d → Dp X.K H y (.tuple ds) → SeqAt.shaped d = true → SeqAt.shaped (.tuple ds) = true → Q (.bl (if neg then !(ds.any fun z => PyData.eqv z d) else ds.any fun z => PyData.eqv z d)) H → r4 x y H Q) :
    OpM X W (compareOp op) (fun x y st => match dIn x y st with
    | some b => .ok (.bl (if neg then !b else b)) st
    | none => .bad) := opm_of ((h1.or h2).or (h3.or h4)) fun m st H dx dy x y E Q hS ra rb hP => by
  have fin : ∀ {q : PyData}, q.canLay0 = true → q.depth ≤ 60 → SeqAt.shaped q = true := fun {q} h1 h2 => by
    unfold SeqAt.shaped
    rw [h1, Bool.true_and, decide_eq_true_eq]
    omega
  split at hP
  · rename_i b hb
    unfold dIn at hb
    split at hb
    · cases hb
      cases ra
      cases rb
      exact .inl (.inl (s1 _ _ _ _ (hP.now hS (.bl _))))
    · split at hb
      · rename_i ys hy
        split at hb
        · rename_i hf
          cases hb
          rw [Bool.and_eq_true] at hf
          obtain ⟨p, vs, rfl, q, rs⟩ := dSeq_read hS hy rb
          refine .inl (.inr (s2 _ _ _ _ ⟨p, vs, rfl, q, flat_V ra hf.1, flats_V rs hf.2, ?_⟩))
          rw [inV_D ra hf.1 rs hf.2]
          exact hP.now hS (.bl _)
        · split at hb
          · rename_i hf
            cases hb
            rw [Bool.and_eq_true] at hf
            obtain ⟨p, vs, rfl, q, rs⟩ := dSeq_read hS hy rb
            obtain ⟨a1, a2, a3⟩ := plain_dp 59 dx x hf.1 ra
            obtain ⟨b1, b2, b3⟩ := plain_all (plain_dp 59) ys vs hf.2 rs
            have e := any_plain hf.1 hf.2
            rcases q with q | q
            · refine .inr (.inl (s3 _ _ _ _ _ _ a1 (.lst q b1) (fin a2 (by omega)) (fin (by simpa only [PyData.canLay0] using b2) (by simp only [PyData.depth]; omega)) ?_))
              rw [e]
              exact hP.now hS (.bl _)
            · refine .inr (.inr (s4 _ _ _ _ _ _ a1 (.tup q b1) (fin a2 (by omega)) (fin (by simpa only [PyData.canLay0] using b2) (by simp only [PyData.depth]; omega)) ?_))
              rw [e]
              exact hP.now hS (.bl _)
          · cases hb
      · cases hb
  · exact hP.elim
theorem m_in (hu : X.A.units + 65 < cLine) : OpM X W (compareOp .In) oIn := m_inB (neg := false) op_in_sign op_in_seq (op_inD hu) (op_inT hu)
  (fun c z H Q h => ⟨c, z, rfl, rfl, h⟩) (fun x y H Q h => h) (fun x y H Q d ds h1 h2 h3 h4 q => ⟨d, ds, h1, h2, h3, h4, q⟩) (fun x y H Q d ds h1 h2 h3 h4 q => ⟨d, ds, h1, h2, h3, h4, q⟩)
theorem m_notin (hu : X.A.units + 65 < cLine) : OpM X W (compareOp .NotIn) oNotIn := m_inB (neg := true) op_notIn_sign op_notIn_seq (op_notInD hu) (op_notInT hu)
  (fun c z H Q h => ⟨c, z, rfl, rfl, h⟩) (fun x y H Q h => h) (fun x y H Q d ds h1 h2 h3 h4 q => ⟨d, ds, h1, h2, h3, h4, q⟩) (fun x y H Q d ds h1 h2 h3 h4 q => ⟨d, ds, h1, h2, h3, h4, q⟩)
end
end HM

/-! HM, part 11: slices, sums, all and any, join, texts repeated, lcm. -/
namespace HM
open PySem PySem.Spec PyProof.Rows L2
section
variable {prog : Program} {w : World} {A : Around} {E : Value → Shared → Prop} {s : Shared}
theorem get_whole {t sl : Addr} {items : Array Value} {vl vu : Value} {lo hi : Option Int} {Q : Value → Shared → Prop} (ht : IsTup s.heap t items) (hs : s.heap.IsSliceOf sl vl vu .none) (pl : IsPart vl lo) (pu : IsPart vu hi)
    (h1 : HT.sIx items.size 0 lo = 0) (h2 : HT.sIx items.size items.size hi = items.size) (q : Q (.ref t) s) : wpAny (model prog w) A (getItem (.ref t) (.ref sl)) Q E s := by
  obtain ⟨ob, o1, o2, o3⟩ := id hs
  unfold getItem
  try with_reducible refine wpAny_holding ?_
  try refine wpAny_bind (wpAny_pure ?_)
  refine wpAny_bind (wpAny_sequenceKey ht.typeIs (by decide) ?_)
  refine wpAny_bind (wpAny_callSpecial?_slot (name := Str.ofString "__getitem__") ht.typeIs PyProof.Rows.slot_tuple_getitem (wpAny_call_entry PyProof.Rows.slot_tuple_getitem ht.typeIs entry_tuple_getitem ?_ (args_tuple_getitem _ _)))
  show wpAny _ _ (Builtin.Tuple.tupleItemsOf (.ref t) >>= _) _ _ s
  refine wpAny_bind (tupleItemsOf_ ht (wpAny_bind (wpAny_typeOf (T := "slice") ⟨ob, o1, o2⟩ ?_)))
  rw [if_pos (by decide)]
  refine wpAny_bind (HT.sliceApplied_gen hs pl pu ?_)
  have yes : (((HT.sIx items.size 0 lo : Nat) : Int) == 0 && (1 : Int) == 1 && (HT.sIx items.size items.size hi - HT.sIx items.size 0 lo) == items.size) = true := by
    rw [h1, h2]
    simp
  show wpAny _ _ (if (((HT.sIx items.size 0 lo : Nat) : Int) == 0 && (1 : Int) == 1 && (HT.sIx items.size items.size hi - HT.sIx items.size 0 lo) == items.size) = true then _ else _) _ _ s
  rw [if_pos yes]
  unfold Builtin.Tuple.tupleIsExact
  refine wpAny_bind (wpAny_bind (wpAny_typeOf ht.typeIs ?_))
  refine wpAny_pure ?_
  rw [if_pos (by decide)]
  first
    | exact wpAny_pure ⟨_, rfl, wpAny_pure q⟩
    | exact wpAny_bind (wpAny_rule (wpAny_pure ⟨_, rfl, wpAny_pure q⟩))
end
section
variable {X : Cx}
/-- the whole of a tuple is the tuple -/
def rSlW (K : PySem.W.Frag) : V → Option Int → Option Int → Hp → VK → Prop := fun x lo hi H Q => ∃ a xs, x = .ref a ∧ SqT K H a xs ∧ HT.sIx xs.length 0 lo = 0 ∧ HT.sIx xs.length xs.length hi = xs.length ∧ Q (.ref a) H
theorem sl_whole : SlR X (rSlW X.K) := by
  intro pins s σ H x v vl vu lo hi sl Q I rx hs pl pu h
  obtain ⟨a, xs, rfl, hx, h1, h2, q⟩ := h
  cases rx
  obtain ⟨its, r, ht, hz⟩ := I.tuple hx
  have e : its.toArray.size = xs.length := by rw [List.size_toArray, ← r.length]
  exact ⟨"tuple", _, PyProof.Rows.slot_tuple_getitem.lookup, ht.typeIs, get_whole ht hs pl pu (by rw [e]; exact h1) (by rw [e]; exact h2) ⟨.ref a, H, I, rfl, q⟩⟩
end
section
variable {X : Cx} {W : WX} {e o a b c : Expr} {es : List Expr} {pos p p2 : Pos} {f fo fa fb : EM D} {fs : EM (List D)}
/-! ### slices -/
def cutD {α : Type} (xs : List α) (lo hi : Option Int) : List α := (xs.drop (HT.sIx xs.length 0 lo)).take (HT.sIx xs.length xs.length hi - HT.sIx xs.length 0 lo)
theorem RDs.cut {K : PySem.W.Frag} {m : List Addr} {H : Hp} {ds : List D} {vs : List V} (r : RDs K m H ds vs) (lo hi : Option Int) : RDs K m H (cutD ds lo hi) (cutV vs lo hi) := by
  unfold cutD cutV
  rw [r.len]
  exact (r.drop _).take _
/-- a part of a slice -/
structure Eo (X : Cx) (W : WX) (e : Option Expr) (f : EM (Option Int)) : Prop where
  run : ∃ t : TO, PO X e t ∧ ∀ (m : List Addr) (τ : Sl) (st : Store) (σ : L2.St) (H : Hp) (Q : Option Int → Hp → Prop), SL X.K m H τ σ → SS X.K m st H → Pe X.K (fun c d H' => W c d σ H') (fun _ _ a b => a = b) m H (f τ st) Q → t σ H Q
def oNone : EM (Option Int) := fun _ st => .ok none st
def oSome (f : EM D) : EM (Option Int) := fun τ st => (f τ st).bind fun d s1 => match d with
  | .int i => .ok (some i) s1
  | _ => .bad
theorem eo_none : Eo X W none oNone := ⟨_, po_none, fun m τ st σ H Q hL hS hP => hP.now hS rfl⟩
theorem eo_some (h : Ex X W e f) : Eo X W (some e) (oSome f) := ⟨_, po_some peW, fun m τ st σ H Q hL hS hP => h.run m τ st σ H _ hL hS (hP.bind fun d s1 m1 H1 v e1 hS1 r1 hP1 => by
  split at hP1
  · cases r1
    exact ⟨_, rfl, hP1.now hS1 rfl⟩
  · exact hP1.elim)⟩
def dCut (d : D) (lo hi : Option Int) (st : Store) : ER D := match d with
  | .str z => if z.length ≤ 16777216 then .ok (.str (cutD z lo hi)) st else .bad
  | .tup xs => .ok (.tup (cutD xs lo hi)) st
  | .rol xs => .ok (.ref st.length) (st ++ [.lst (cutD xs lo hi)])
  | .ref n => match lstAt st n with
    | some xs => .ok (.ref st.length) (st ++ [.lst (cutD xs lo hi)])
    | none => .bad
  | _ => .bad
def eSl (f : EM D) (fl fh : EM (Option Int)) : EM D := fun τ st => (f τ st).bind fun d s1 => (fl τ s1).bind fun l s2 => (fh τ s2).bind fun h s3 => dCut d l h s3
theorem sl_all : SlR X (fun x lo hi H Q => rSlL X.K x lo hi H Q ∨ (rSlT X.K x lo hi H Q ∨ rSlW X.K x lo hi H Q) ∨ rSlS x lo hi H Q) := sl_list.or ((sl_tup.or sl_whole).or sl_str)
theorem cutS_D (z : List Nat) (lo hi : Option Int) : cutS ⟨z.toArray⟩ lo hi = ⟨(cutD z lo hi).toArray⟩ := by
  unfold cutS cutD
  simp [PySem.Str.length]
theorem ex_sl {lo hi : Option Expr} {fl fh : EM (Option Int)} (he : Ex X W e f) (hl : Eo X W lo fl) (hh : Eo X W hi fh) : Ex X W (.Subscript e (.Slice lo hi none p2) pos) (eSl f fl fh) := by
  obtain ⟨tl, pl, hl⟩ := hl
  obtain ⟨th, ph, hh⟩ := hh
  refine ⟨fun m τ st σ H Q hL hS hP pins s I => (pe_slice sl_all peW pl ph).run pins s σ H Q I ?_⟩
  refine he.run m τ st σ H _ hL hS (hP.bind fun d s1 m1 H1 v e1 hS1 r1 hP1 => ?_)
  refine hl m1 τ s1 σ H1 _ (hL.mono e1) hS1 (hP1.bind fun l s2 m2 H2 l' e2 hS2 r2 hP2 => ?_)
  subst r2
  refine hh m2 τ s2 σ H2 _ ((hL.mono e1).mono e2) hS2 (hP2.bind fun h s3 m3 H3 h' e3 hS3 r3 hP3 => ?_)
  subst r3
  have r1 := (r1.mono e2).mono e3
  unfold dCut at hP3
  split at hP3
  · split at hP3
    · rename_i hz
      cases r1
      refine .inr (.inr ⟨_, rfl, line_of (by simpa [PySem.Str.length] using hz), ?_⟩)
      rw [cutS_D]
      exact hP3.now hS3 (.str _)
    · exact hP3.elim
  · rename_i ds _
    cases r1 with
    | @tup a vs _ q rs =>
      by_cases hw : HT.sIx vs.length 0 l = 0 ∧ HT.sIx vs.length vs.length h = vs.length
      · refine .inr (.inl (.inr ⟨_, _, rfl, q, hw.1, hw.2, hP3.now hS3 ?_⟩))
        have e : cutD ds l h = ds := by
          unfold cutD
          rw [rs.len, hw.1, hw.2, List.drop_zero, Nat.sub_zero, ← rs.len]
          exact List.take_length
        rw [e]
        exact .tup q rs
      · exact .inr (.inl (.inl ⟨_, _, rfl, q, hw, hP3.tup hS3 (rs.cut _ _)⟩))
  · cases r1 with
    | rol q rs => exact .inl ⟨_, _, rfl, q.sq, hP3.lst hS3 (rs.cut _ _)⟩
  · split at hP3
    · rename_i xs hx
      cases r1 with
      | ref q =>
        obtain ⟨vs, h1, h2⟩ := hS3.list hx q
        exact .inl ⟨_, vs, rfl, SqL.of h1, hP3.lst hS3 (h2.cut _ _)⟩
    · exact hP3.elim
  · exact hP3.elim
/-! ### sums -/
def intsD : List D → Option (List Int)
  | [] => some []
  | .int i :: ds => (intsD ds).map (i :: ·)
  | _ => none
theorem intsD_V {K : PySem.W.Frag} {m : List Addr} {H : Hp} : ∀ {ds : List D} {vs : List V} {ns : List Int}, RDs K m H ds vs → intsD ds = some ns → vs = ns.map V.int
  | [], _, _, .nil, h => by
    cases h
    rfl
  | d :: ds, _, ns, .cons r rs, h => by
    unfold intsD at h
    split at h
    · rename_i e
      cases e
    · rename_i i ds' e
      cases e
      cases r
      cases hz : intsD ds with
      | none =>
        rw [hz] at h
        cases h
      | some ks =>
        rw [hz] at h
        cases h
        rw [intsD_V rs hz]
        rfl
    · cases h
theorem intsD_map : ∀ ns : List Int, intsD (ns.map D.int) = some ns
  | [] => rfl
  | n :: ns => by
    rw [List.map_cons, intsD, intsD_map ns]
    rfl
def rSumT (K : PySem.W.Frag) : List V → Hp → VK → Prop := fun vs H Q => ∃ (a : Addr) (ns : List Int), vs = [V.ref a] ∧ SqT K H a (ns.map V.int) ∧ Q (.int ns.sum) H
theorem cr_sumT (hc : X.calm = true) : CallR X (.builtin "sum") (rSumT X.K) := by
  intro pins s σ H vs us Q I r h
  obtain ⟨a, ns, rfl, hs, q⟩ := h
  obtain ⟨its, rv, hl, _⟩ := I.tuple hs
  rw [Vals.ref1 r]
  have hi := rv.ints
  obtain ⟨xs, e⟩ := hi.allInts.items
  have hn : numsOf (intItems xs).toList = ns := by rw [← e]; exact hi.numsOf
  rw [nums_intItems] at hn
  obtain ⟨ob, ho, hcl, n, hd⟩ := hl
  have ht : s.heap.IsTuple a (intItems xs) := by
    rw [← e]
    exact ⟨ob, ho, hcl, n, hd⟩
  refine PySem.W.ktm_sumG (I.ok.hd hc) ht fun h' tk t' hk => ⟨.int _, H, I.kept hk, ⟨_, rfl⟩, ?_⟩
  rw [preSum_eq, List.take_of_length_le (by simp), hn]
  exact q
def gSum : SM1 := fun xs st => match intsD xs with
  | some ns => .ok (.int ns.sum) st
  | none => .bad
theorem s_sum (hc : X.calm = true) : CallS X (.builtin "sum") gSum := ⟨_, (cr_sum hc).or (cr_sumT hc), fun m st H ds v E Q hS r hP => by
  obtain ⟨a, vs, rfl, q, rs⟩ := r
  unfold gSum at hP
  split at hP
  · rename_i ns hn
    have e := intsD_V rs hn
    subst e
    rcases q with q | q
    · exact .inl ⟨a, ns, rfl, q, hP.now hS (.int _)⟩
    · exact .inr ⟨a, ns, rfl, q, hP.now hS (.int _)⟩
  · exact hP.elim⟩
/-! ### of lists alone -/
def SqVL (K : PySem.W.Frag) (m : List Addr) (H : Hp) (ds : List D) (v : V) : Prop := ∃ a vs, v = .ref a ∧ SqL K H a vs ∧ RDs K m H ds vs
structure Esl (X : Cx) (W : WX) (e : Expr) (f : EM (List D)) : Prop where
  run : ∀ (m : List Addr) (τ : Sl) (st : Store) (σ : L2.St) (H : Hp) (Q : VK), SL X.K m H τ σ → SS X.K m st H → Pe X.K (fun c d H' => W c d σ H') (SqVL X.K) m H (f τ st) Q → wE X e σ H Q
theorem esl_el {fl : EM (List D)} (h : El X W e fl) : Esl X W e fl := by
  refine ⟨fun m τ st σ H Q hL hS hP => h.run m τ st σ H Q hL hS ?_⟩
  cases hq : fl τ st with
  | ok ds s1 =>
    rw [hq] at hP
    intro m1 H1 v e1 hS1 ⟨a, vs, e, ha, na, hn, rs⟩
    exact hP m1 H1 v e1 hS1 ⟨a, vs, e, SqL.of ha, rs⟩
  | exc x st' =>
    rw [hq] at hP
    exact hP
  | bad =>
    rw [hq] at hP
    exact hP.elim
def dSeqL (st : Store) : D → Option (List D)
  | .rol xs => some xs
  | .ref n => lstAt st n
  | _ => none
def sExL (f : EM D) : EM (List D) := fun τ st => (f τ st).bind fun d s1 => match dSeqL s1 d with
  | some xs => .ok xs s1
  | none => .bad
theorem esl_ex (h : Ex X W e f) : Esl X W e (sExL f) := by
  refine ⟨fun m τ st σ H Q hL hS hP => h.run m τ st σ H Q hL hS (hP.bind fun d s1 m1 H1 v e1 hS1 r1 hP1 => ?_)⟩
  split at hP1
  · rename_i xs hx
    cases r1 with
    | rol q rs =>
      cases hx
      exact hP1.now hS1 ⟨_, _, rfl, q.sq, rs⟩
    | ref q =>
      obtain ⟨vs, h1, h2⟩ := hS1.list hx q
      exact hP1.now hS1 ⟨_, vs, rfl, SqL.of h1, h2⟩
    | _ => cases hx
  · exact hP1.elim
def CallL (X : Cx) (fv : Value) (g : SM1) : Prop :=
  ∃ r, CallR X fv r ∧ ∀ (m : List Addr) (st : Store) (H : Hp) (ds : List D) (v : V) (E : XK) (Q : VK), SS X.K m st H → SqVL X.K m H ds v → Pe X.K E (RD X.K) m H (g ds st) Q → r [v] H Q
theorem ex_callBl {x : Str} {id : String} {g : SM1} {fl : EM (List D)} (hc : CallL X (.builtin id) g) (hg : Gl X x) (hm : X.mg x = none) (hv : bootBuiltins x = some (.builtin id)) (ha : Esl X W e fl) (hn : x ≠ "__name__" := by decide) (hdb : (x == ("__debug__" : Str)) = false := by decide)
    (he : starEach [e] X.env = (false, eval e X.env) :: starEach [] X.env := by rfl) (hpl : (backTo pos (starEach [] X.env)).any (·.1) = false := by rfl) : Ex X W (.Call (.Name x p) [e] [] pos) (eCS g fl) := by
  obtain ⟨r, hr, h⟩ := hc
  refine ⟨fun m τ st σ H Q hL hS hP pins s I => (pe_callB hr hg hm hv (pa_cons peW pa_nil he) hn hdb he hpl).run pins s σ H Q I ?_⟩
  exact ha.run m τ st σ H _ hL hS (hP.bind fun ds s1 m1 H1 v e1 hS1 r1 hP1 => h m1 s1 H1 ds v _ Q hS1 r1 hP1)
def blsD : List D → Option (List Bool)
  | [] => some []
  | .bl i :: ds => (blsD ds).map (i :: ·)
  | _ => none
theorem blsD_V {K : PySem.W.Frag} {m : List Addr} {H : Hp} : ∀ {ds : List D} {vs : List V} {ns : List Bool}, RDs K m H ds vs → blsD ds = some ns → vs = ns.map V.bl
  | [], _, _, .nil, h => by
    cases h
    rfl
  | d :: ds, _, ns, .cons r rs, h => by
    unfold blsD at h
    split at h
    · rename_i e
      cases e
    · rename_i i ds' e
      cases e
      cases r
      cases hz : blsD ds with
      | none =>
        rw [hz] at h
        cases h
      | some ks =>
        rw [hz] at h
        cases h
        rw [blsD_V rs hz]
        rfl
    · cases h
theorem blsD_map : ∀ ns : List Bool, blsD (ns.map D.bl) = some ns
  | [] => rfl
  | n :: ns => by
    rw [List.map_cons, blsD, blsD_map ns]
    rfl
def gAllB : SM1 := fun xs st => match blsD xs with
  | some bs => .ok (.bl (bs.all id)) st
  | none => .bad
def gAnyB : SM1 := fun xs st => match blsD xs with
  | some bs => .ok (.bl (bs.any id)) st
  | none => .bad
theorem s_all (hc : X.calm = true) : CallL X (.builtin "all") gAllB := ⟨_, cr_all hc, fun m st H ds v E Q hS r hP => by
  obtain ⟨a, vs, rfl, q, rs⟩ := r
  unfold gAllB at hP
  split at hP
  · rename_i ns hn
    have e := blsD_V rs hn
    subst e
    exact ⟨a, ns, rfl, q, hP.now hS (.bl _)⟩
  · exact hP.elim⟩
theorem s_any (hc : X.calm = true) : CallL X (.builtin "any") gAnyB := ⟨_, cr_any hc, fun m st H ds v E Q hS r hP => by
  obtain ⟨a, vs, rfl, q, rs⟩ := r
  unfold gAnyB at hP
  split at hP
  · rename_i ns hn
    have e := blsD_V rs hn
    subst e
    exact ⟨a, ns, rfl, q, hP.now hS (.bl _)⟩
  · exact hP.elim⟩
def maxI : List Int → Option Int
  | [] => none
  | n :: ns => some (ns.foldl max n)
def minI : List Int → Option Int
  | [] => none
  | n :: ns => some (ns.foldl min n)
theorem foldl_max_ge : ∀ (ns : List Int) (n : Int), n ≤ ns.foldl max n ∧ (∀ y ∈ ns, y ≤ ns.foldl max n) ∧ (ns.foldl max n = n ∨ ns.foldl max n ∈ ns)
  | [], n => ⟨Int.le_refl _, by simp, .inl rfl⟩
  | k :: ns, n => by
    obtain ⟨h1, h2, h3⟩ := foldl_max_ge ns (max n k)
    rw [List.foldl_cons]
    refine ⟨Int.le_trans (Int.le_max_left n k) h1, fun y hy => ?_, ?_⟩
    · rcases List.mem_cons.mp hy with rfl | hy
      · exact Int.le_trans (Int.le_max_right n y) h1
      · exact h2 y hy
    · rcases h3 with h3 | h3
      · rw [h3]
        rcases Int.le_total n k with h | h
        · rw [Int.max_eq_right h]
          exact .inr (List.mem_cons_self ..)
        · rw [Int.max_eq_left h]
          exact .inl rfl
      · exact .inr (List.mem_cons_of_mem _ h3)
theorem foldl_min_le : ∀ (ns : List Int) (n : Int), ns.foldl min n ≤ n ∧ (∀ y ∈ ns, ns.foldl min n ≤ y) ∧ (ns.foldl min n = n ∨ ns.foldl min n ∈ ns)
  | [], n => ⟨Int.le_refl _, by simp, .inl rfl⟩
  | k :: ns, n => by
    obtain ⟨h1, h2, h3⟩ := foldl_min_le ns (min n k)
    rw [List.foldl_cons]
    refine ⟨Int.le_trans h1 (Int.min_le_left n k), fun y hy => ?_, ?_⟩
    · rcases List.mem_cons.mp hy with rfl | hy
      · exact Int.le_trans h1 (Int.min_le_right n y)
      · exact h2 y hy
    · rcases h3 with h3 | h3
      · rw [h3]
        rcases Int.le_total n k with h | h
        · rw [Int.min_eq_left h]
          exact .inl rfl
        · rw [Int.min_eq_right h]
          exact .inr (List.mem_cons_self ..)
      · exact .inr (List.mem_cons_of_mem _ h3)
def gMax : SM1 := fun xs st => match (intsD xs).bind maxI with
  | some n => .ok (.int n) st
  | none => .bad
def gMin : SM1 := fun xs st => match (intsD xs).bind minI with
  | some n => .ok (.int n) st
  | none => .bad
theorem s_max (hc : X.calm = true) : CallL X (.builtin "max") gMax := ⟨_, cr_max hc, fun m st H ds v E Q hS r hP => by
  obtain ⟨a, vs, rfl, q, rs⟩ := r
  unfold gMax at hP
  split at hP
  · rename_i k hk
    cases hn : intsD ds with
    | none =>
      rw [hn] at hk
      cases hk
    | some ns =>
      rw [hn] at hk
      have e := intsD_V rs hn
      subst e
      cases ns with
      | nil => cases hk
      | cons n ns =>
        have hk : some (ns.foldl max n) = some k := hk
        cases hk
        obtain ⟨h1, h2, h3⟩ := foldl_max_ge ns n
        refine ⟨a, n :: ns, rfl, q, by simp, fun mm hm hy => ?_⟩
        have e : mm = ns.foldl max n := by
          refine Int.le_antisymm ?_ ?_
          · rcases List.mem_cons.mp hm with rfl | hm
            · exact h1
            · exact h2 mm hm
          · rcases h3 with h3 | h3
            · rw [h3]
              exact hy n (List.mem_cons_self ..)
            · exact hy _ (List.mem_cons_of_mem _ h3)
        subst e
        exact hP.now hS (.int _)
  · exact hP.elim⟩
theorem s_min (hc : X.calm = true) : CallL X (.builtin "min") gMin := ⟨_, cr_min hc, fun m st H ds v E Q hS r hP => by
  obtain ⟨a, vs, rfl, q, rs⟩ := r
  unfold gMin at hP
  split at hP
  · rename_i k hk
    cases hn : intsD ds with
    | none =>
      rw [hn] at hk
      cases hk
    | some ns =>
      rw [hn] at hk
      have e := intsD_V rs hn
      subst e
      cases ns with
      | nil => cases hk
      | cons n ns =>
        have hk : some (ns.foldl min n) = some k := hk
        cases hk
        obtain ⟨h1, h2, h3⟩ := foldl_min_le ns n
        refine ⟨a, n :: ns, rfl, q, by simp, fun mm hm hy => ?_⟩
        have e : mm = ns.foldl min n := by
          refine Int.le_antisymm ?_ ?_
          · rcases h3 with h3 | h3
            · rw [h3]
              exact hy n (List.mem_cons_self ..)
            · exact hy _ (List.mem_cons_of_mem _ h3)
          · rcases List.mem_cons.mp hm with rfl | hm
            · exact h1
            · exact h2 mm hm
        subst e
        exact hP.now hS (.int _)
  · exact hP.elim⟩
/-! ### lcm -/
def rLcm : List V → Hp → VK → Prop := fun vs H Q => ∃ a b : Int, vs = [.int a, .int b] ∧ a.natAbs < 2 ^ 9000 ∧ b.natAbs < 2 ^ 9000 ∧ Q (.int ((Nat.lcm a.natAbs b.natAbs : Nat) : Int)) H
theorem log_of {n k : Nat} (h : n < 2 ^ k) (hk : 0 < k) : n.log2 < k := by
  by_cases z : n = 0
  · subst z
    rw [Nat.log2_zero]
    exact hk
  · exact (Nat.log2_lt z).mpr h
theorem cr_lcm : CallR X (.builtin "math.lcm") rLcm := by
  intro pins s σ H vs us Q I r h
  obtain ⟨a, b, rfl, h1, h2, q⟩ := h
  obtain ⟨t, u, rfl⟩ := Vals.int2 r
  have h0 : (1 : Nat) < 2 ^ 9000 := Nat.one_lt_two_pow (by decide)
  have l1 : (max 1 a.natAbs).log2 < 9000 := log_of (Nat.max_lt.mpr ⟨h0, h1⟩) (by decide)
  have l2 : (max a.natAbs b.natAbs).log2 < 9000 := log_of (Nat.max_lt.mpr ⟨h1, h2⟩) (by decide)
  have l3 : ((((Nat.lcm 1 a.natAbs).lcm b.natAbs : Nat) : Int)).natAbs.log2 < bitsLine := by
    rw [Int.natAbs_natCast, PySem.W.mc_lcm_one]
    have := PySem.W.mc_lcm_le a.natAbs b.natAbs
    have h3 : a.natAbs * b.natAbs < 2 ^ 18000 := by
      rw [show (18000 : Nat) = 9000 + 9000 from rfl, Nat.pow_add]
      exact Nat.mul_lt_mul'' h1 h2
    exact Nat.lt_trans (log_of (Nat.lt_of_le_of_lt this h3) (by decide)) (by decide)
  have g := (PySem.W.mg_run_lcm a t b u (by omega) (by omega) l3).meets
  refine PySem.call_function_meets PySem.W.MGF.kind_lcm PySem.W.MGF.plain_lcm PySem.W.MGF.entry_lcm (PySem.W.MGF.args_lcm _ _) g ?_
  rw [PySem.W.mc_lcm_one]
  exact ⟨.int _, H, I.tok _, ⟨_, rfl⟩, q⟩
def fLcm : FM := fun ds st => match ds with
  | [.int i, .int j] => if decide (i.natAbs < 2 ^ 9000) && decide (j.natAbs < 2 ^ 9000) then .ok (.int (Nat.lcm i.natAbs j.natAbs : Nat)) st else .bad
  | _ => .bad
theorem c_lcm : CallM X (.builtin "math.lcm") fLcm := ⟨_, cr_lcm, fun m st H ds vs E Q hS r hP => by
  unfold fLcm at hP
  split at hP
  · split at hP
    · rename_i hc
      rw [Bool.and_eq_true, decide_eq_true_eq, decide_eq_true_eq] at hc
      obtain ⟨v, u, rfl, r1, r2⟩ := r.two
      cases r1
      cases r2
      exact ⟨_, _, rfl, hc.1, hc.2, hP.now hS (.int _)⟩
    · exact hP.elim
  · exact hP.elim⟩
/-! ### texts: join, repeated -/
def strsD : List D → Option (List (List Nat))
  | [] => some []
  | .str x :: ds => (strsD ds).map (x :: ·)
  | _ => none
theorem strsD_V {K : PySem.W.Frag} {m : List Addr} {H : Hp} : ∀ {ds : List D} {vs : List V} {ns : List (List Nat)}, RDs K m H ds vs → strsD ds = some ns → vs = (ns.map fun x => (⟨x.toArray⟩ : Str)).map V.str
  | [], _, _, .nil, h => by
    cases h
    rfl
  | d :: ds, _, ns, .cons r rs, h => by
    unfold strsD at h
    split at h
    · rename_i e
      cases e
    · rename_i i ds' e
      cases e
      cases r
      cases hz : strsD ds with
      | none =>
        rw [hz] at h
        cases h
      | some ks =>
        rw [hz] at h
        cases h
        rw [strsD_V rs hz]
        rfl
    · cases h
theorem strsD_map : ∀ ns : List (List Nat), strsD (ns.map D.str) = some ns
  | [] => rfl
  | n :: ns => by
    rw [List.map_cons, strsD, strsD_map ns]
    rfl
end
end HM

/-! HM, part 12: texts joined, things repeated. -/
namespace HM
open PySem PySem.Spec PyProof.Rows L2 SX
section
variable {X : Cx} {W : WX} {e o a b c : Expr} {es : List Expr} {pos p p2 : Pos} {f fo fa fb : EM D} {fs : EM (List D)}
def joinD (a : List Nat) : List (List Nat) → List Nat
  | [] => []
  | [p] => p
  | p :: q :: r => p ++ (a ++ joinD a (q :: r))
theorem joinD_eq (a : List Nat) : ∀ ys : List (List Nat), TL.joinL a ys = joinD a ys
  | [] => rfl
  | [_] => rfl
  | p :: q :: r => by
    show p ++ (a ++ TL.joinL a (q :: r)) = p ++ (a ++ joinD a (q :: r))
    rw [joinD_eq a (q :: r)]
def mJoin : MM := fun d ds st => match d, ds with
  | .str a, [y] => match (dSeq st y).bind strsD with
    | some ys => if (ys.map List.length).sum + ys.length * a.length ≤ 16777216 then .ok (.str (joinD a ys)) st else .bad
    | none => .bad
  | _, _ => .bad
theorem me_join : MethM X "str.join" mJoin := ⟨_, mt_join, fun m st H d v ds vs E Q hS r rs hP => by
  unfold mJoin at hP
  split at hP
  · rename_i a y
    split at hP
    · rename_i ys hy
      split at hP
      · rename_i hl
        cases hq : dSeq st y with
        | none =>
          rw [hq] at hy
          cases hy
        | some zs =>
          rw [hq] at hy
          obtain ⟨u, rfl, ru⟩ := rs.one
          cases r
          obtain ⟨p, us, rfl, q, rs'⟩ := dSeq_read hS hq ru
          have e := strsD_V rs' hy
          subst e
          refine ⟨⟨a.toArray⟩, p, ys.map S, rfl, rfl, q, ?_, ?_⟩
          · rw [List.map_map, List.length_map]
            have e : (ys.map ((fun x : Str => x.length) ∘ S)) = ys.map List.length := List.map_congr_left fun x _ => S_len x
            rw [e]
            have e2 : (⟨a.toArray⟩ : Str).length = a.length := S_len a
            rw [e2]
            exact hl
          · have e := join_S a ys
            rw [joinD_eq] at e
            rw [e]
            exact hP.now hS (.str _)
      · exact hP.elim
    · exact hP.elim
  · exact hP.elim⟩
/-! ### * -/
def repD {α : Type} (k : Nat) (xs : List α) : List α := (List.replicate k xs).flatten
theorem foldl_app (x : Array Nat) : ∀ (k : Nat) (acc : Array Nat), (List.replicate k x).foldl (· ++ ·) acc = acc ++ ((List.replicate k x.toList).flatten).toArray
  | 0, acc => by simp
  | k + 1, acc => by
    rw [List.replicate_succ, List.foldl_cons, foldl_app x k, List.replicate_succ, List.flatten_cons]
    apply Array.ext'
    simp
theorem repD_len {α : Type} (k : Nat) (xs : List α) : (repD k xs).length = xs.length * k := by
  unfold repD
  induction k with
  | zero => simp
  | succ k ih =>
    rw [List.replicate_succ, List.flatten_cons, List.length_append, ih, Nat.mul_succ, Nat.add_comm]
theorem op_repS : OpR X (binaryOp .Mult) (fun x y H Q => ∃ (z : List Nat) (k : Int), x = .str (S z) ∧ y = .int k ∧ 2 ≤ k ∧ k ≤ 16777216 ∧ z.length * k.toNat ≤ 16777216 ∧ Q (.str (S (repD k.toNat z))) H) := by
  intro pins s σ H x y v u Q I rx ry h
  obtain ⟨z, k, rfl, rfl, h2, hz, hl, q⟩ := h
  obtain ⟨t, rfl⟩ := rx
  obtain ⟨t', rfl⟩ := ry
  have e1 : (S z).length = z.length := S_len z
  refine PySem.P.mul_str ?_ (fun _ h0 => ?_) (fun _ _ => ?_) ?_
  · have a1 : ¬ k < -(2 ^ 63 : Int) := by omega
    have a2 : ¬ k ≥ 2 ^ 63 := by
      have : (16777216 : Int) < 2 ^ 63 := by decide
      omega
    rw [decide_eq_false a1, decide_eq_false a2]
    rfl
  · rw [e1]
    have h3 : z.length ≤ 16777216 := by
      have : z.length * 1 ≤ z.length * k.toNat := Nat.mul_le_mul_left _ (by omega)
      omega
    have h4 : (16777216 : Int) ≤ (2 ^ 63 - 1) / k := by
      refine (Int.le_ediv_iff_mul_le (by omega)).mpr ?_
      have : (16777216 : Int) * k ≤ 16777216 * 16777216 := Int.mul_le_mul_of_nonneg_left (by omega) (by decide)
      have : (16777216 : Int) * 16777216 ≤ 2 ^ 63 - 1 := by decide
      omega
    omega
  · rw [e1]
    show decide (z.length * k.toNat > 2 ^ 24) = false
    exact decide_eq_false (by
      have : (2 : Nat) ^ 24 = 16777216 := rfl
      omega)
  · have n1 : ¬ k < 1 := by omega
    rw [if_neg n1]
    have a1 : (k == 1) = false := beq_false_of_ne (by omega)
    rw [a1, e1, Bool.false_or]
    by_cases h0 : z = []
    · subst h0
      have e : (S (repD k.toNat ([] : List Nat))) = S [] := by
        have := repD_len k.toNat ([] : List Nat)
        rw [List.length_nil, Nat.zero_mul] at this
        rw [List.length_eq_zero_iff.mp this]
      rw [e] at q
      rw [if_pos (show (([] : List Nat).length == 0) = true from rfl)]
      exact ⟨.str _, H, I, ⟨_, rfl⟩, q⟩
    · have zl : 0 < z.length := List.length_pos_iff.mpr h0
      have a2 : (z.length == 0) = false := beq_false_of_ne (by omega)
      rw [a2, if_neg Bool.false_ne_true]
      have e : (⟨(List.replicate k.toNat (S z).cps).foldl (· ++ ·) #[]⟩ : Str) = S (repD k.toNat z) := by
        rw [foldl_app]
        simp [repD]
      rw [e]
      refine ⟨?_, .str _, H, I.tok _, ⟨_, rfl⟩, q⟩
      rw [S_len, repD_len, PySem.sizeLine_eq]
      exact hl
def oMul : O2 := fun x y st => match x, y with
  | .int i, .int j => if okMul i j then .ok (.int (i * j)) st else .bad
  | .str z, .int k => if decide (2 ≤ k) && decide (k ≤ 16777216) && decide (z.length * k.toNat ≤ 16777216) then .ok (.str (repD k.toNat z)) st else .bad
  | .ref n, .int k => match lstAt st n with
    | some xs => if okIx k && decide (xs.length * k.toNat ≤ 16777216) then .ok (.ref st.length) (st ++ [.lst (repD k.toNat xs)]) else .bad
    | none => .bad
  | .tup xs, .int k => if decide (2 ≤ k) && decide (k ≤ 1000) && !xs.isEmpty && decide (xs.length ≤ 1000) then .ok (.tup (repD k.toNat xs)) st else .bad
  | _, _ => .bad
theorem RDs.rep {K : PySem.W.Frag} {m : List Addr} {H : Hp} {ds : List D} {vs : List V} (r : RDs K m H ds vs) : ∀ k : Nat, RDs K m H (repD k ds) (repD k vs)
  | 0 => .nil
  | k + 1 => by
    have := RDs.rep r k
    unfold repD at this ⊢
    rw [List.replicate_succ, List.replicate_succ, List.flatten_cons, List.flatten_cons]
    exact r.append this
theorem op_mulAll : OpR X (binaryOp .Mult) (fun x y H Q => ((rI IntMulOk fun i j => .int (i * j)) x y H Q ∨ (∃ (z : List Nat) (k : Int), x = .str (S z) ∧ y = .int k ∧ 2 ≤ k ∧ k ≤ 16777216 ∧ z.length * k.toNat ≤ 16777216 ∧ Q (.str (S (repD k.toNat z))) H)) ∨ (rRep x y H Q ∨ rRepT X.K x y H Q)) :=
  (op_mulAny.or op_repS).or (op_rep.or op_repT)
theorem m_mul : OpM X W (binaryOp .Mult) oMul := opm_of op_mulAll fun m st H dx dy x y E Q hS r1 r2 hP => by
  unfold oMul at hP
  split at hP
  · rename_i i j
    split at hP
    · rename_i hc
      cases r1
      cases r2
      have q : (i.natAbs < 18446744073709551616 ∨ j.natAbs < 18446744073709551616) ∨ i.natAbs.log2 + j.natAbs.log2 < 1000000 := of_decide_eq_true hc
      refine .inl (.inl ⟨_, _, rfl, rfl, ?_, hP.now hS (.int _)⟩)
      rcases q with (q | q) | q
      · exact CMul.ok (.inl (by omega))
      · exact CMul.ok (.inr (by omega))
      · exact CMulW.ok q
    · exact hP.elim
  · split at hP
    · rename_i hc
      simp only [Bool.and_eq_true, decide_eq_true_eq] at hc
      cases r1
      cases r2
      exact .inl (.inr ⟨_, _, rfl, rfl, hc.1.1, hc.1.2, hc.2, hP.now hS (.str _)⟩)
    · exact hP.elim
  · split at hP
    · rename_i xs hx
      split at hP
      · rename_i hc
        rw [Bool.and_eq_true, decide_eq_true_eq] at hc
        cases r1 with
        | ref q =>
          cases r2
          obtain ⟨vs, h1, h2⟩ := hS.list hx q
          exact .inr (.inl ⟨_, _, vs, rfl, rfl, h1, (okIx_ok hc.1).1, (okIx_ok hc.1).2, line_of (by rw [← h2.len]; exact hc.2), hP.lst hS (h2.rep _)⟩)
      · exact hP.elim
    · exact hP.elim
  · split at hP
    · rename_i hc
      simp only [Bool.and_eq_true, decide_eq_true_eq, Bool.not_eq_true', List.isEmpty_eq_false_iff] at hc
      cases r1 with
      | tup q rs =>
        cases r2
        refine .inr (.inr ⟨_, _, _, rfl, rfl, q, fun e => hc.1.2 ?_, hc.1.1.1, hc.1.1.2, by rw [← rs.len]; exact hc.2, hP.tup hS (rs.rep _)⟩)
        subst e
        cases rs
        rfl
    · exact hP.elim
  · exact hP.elim
end
end HM

/-! HM: calls of defs with keywords. -/
namespace HM
open PySem PySem.Spec PyProof.Rows L2
section
variable {X : Cx} {W : WX} {e a b c : Expr} {es rest : List Expr} {pos p : Pos} {f fa fb fc : EM D} {fs fk : EM (List D)} {kws : List Keyword}
def wK (X : Cx) (kws : List Keyword) : TA := fun σ H Q => ∀ (pos : Pos) (pins : List (Addr × Obj)) (s : Shared), Inv X pins σ H s → wpAny (model X.prog X.w) X.A (evalAll ((backToKw pos (keywordEach kws X.env)).map (·.2))) (AP X pins σ Q) X.xe s
theorem pkW {X : Cx} {kws : List Keyword} : PK X kws (wK X kws) := ⟨fun pos pins s σ H Q I h => h pos pins s I⟩
/-- the values of keywords -/
structure Ek (X : Cx) (W : WX) (kws : List Keyword) (f : EM (List D)) : Prop where
  run : ∀ (m : List Addr) (τ : Sl) (st : Store) (σ : L2.St) (H : Hp) (Q : List V → Hp → Prop), SL X.K m H τ σ → SS X.K m st H → Pe X.K (fun c d H' => W c d σ H') (RDs X.K) m H (f τ st) Q → wK X kws σ H Q
theorem ek_nil : Ek X W [] aNil := ⟨fun m τ st σ H Q hL hS hP pos pins s I => pk_nil.run pos pins s σ H Q I (hP.now hS .nil)⟩
theorem ek_cons {nm : Option Str} {kpos : Pos} (ha : Ex X W e f) (hr : Ek X W kws fs) : Ek X W (⟨nm, e, kpos⟩ :: kws) (aCons f fs) := by
  refine ⟨fun m τ st σ H Q hL hS hP pos pins s I => (pk_cons peW pkW).run pos pins s σ H Q I ?_⟩
  refine ha.run m τ st σ H _ hL hS (hP.bind fun dx s1 m1 H1 x e1 hS1 r1 hP1 => ?_)
  exact hr.run m1 τ s1 σ H1 _ (hL.mono e1) hS1 (hP1.bind fun ds s2 m2 H2 xs e2 hS2 r2 hP2 => hP2.now hS2 (.cons (r1.mono e2) r2))
/-- those at the places -/
def arr {α : Type} (is : List Nat) (l : List α) : List α := is.filterMap (fun i => l[i]?)
theorem Vals.arr {xs : List V} {us : List Value} (r : Vals xs us) : ∀ is : List Nat, Vals (arr is xs) (arr is us)
  | [] => .nil
  | i :: is => by
    have ih := Vals.arr r is
    unfold HM.arr at ih ⊢
    rw [List.filterMap_cons, List.filterMap_cons]
    cases h : xs[i]? with
    | none => rw [r.none_of h]; exact ih
    | some x =>
      obtain ⟨u, h1, h2⟩ := r.get h
      rw [h1]
      exact .cons h2 ih
theorem RDs.arr {K : PySem.W.Frag} {m : List Addr} {H : Hp} {ds : List D} {vs : List V} (r : RDs K m H ds vs) : ∀ is : List Nat, RDs K m H (arr is ds) (arr is vs)
  | [] => .nil
  | i :: is => by
    have ih := RDs.arr r is
    unfold HM.arr at ih ⊢
    rw [List.filterMap_cons, List.filterMap_cons]
    cases h : ds[i]? with
    | none =>
      have : vs[i]? = none := by
        rw [List.getElem?_eq_none_iff] at h ⊢
        rw [← r.len]; exact h
      rw [this]; exact ih
    | some x =>
      obtain ⟨u, h1, h2⟩ := r.get h
      rw [h1]
      exact .cons h2 ih
def eCallK (n k np : Nat) (is : List Nat) (mf : FM) (fs fk : EM (List D)) : EM D := fun τ st => (fs τ st).bind fun ds s1 => (fk τ s1).bind fun es s2 => if ds.length = n ∧ es.length = k ∧ (arr is (ds ++ es)).length = np then mf (arr is (ds ++ es)) s2 else .bad
theorem ex_ck {P : Program} {w : World} {K : PySem.W.Frag} {mg : Str → Option Value} {base : Heap} {A : Around} {j k n : Nat} {ps ks : List Str} {is : List Nat} {mf : FM} {x : Str} {st : Stmt} {fa : Addr} {fd : FuncData} (c : Cal P w K mg base x j ps mf) (F : FnP K x st fa fd) (gx : mg x = some (.ref fa))
    (bn : ∀ (kV doc pm : Value) (an : Option Addr) (cdv ct : Value) (us ws : List Value), us.length = n → ws.length = ks.length → bindArgs (PySem.W.fnOf x x (defArgs st) (defBody st) (defScope st) .none kV doc pm an cdv ct) ⟨us, ks.zip ws⟩ = pure (ps.zip (arr is (us ++ ws))))
    (tk : Takes X W) (hr : Room k A) (hj : j ≤ k) (ha : Ea X W (e :: es) fs) (hkw : Ek X W kws fk)
    (hall : (backToKw pos (keywordEach kws X.env)).all (·.1.isSome) = true := by rfl) (hks : (backToKw pos (keywordEach kws X.env)).filterMap (·.1) = ks := by rfl)
    (hpl : ((backTo pos (starEach (e :: es) X.env)).any (·.1) || (backToKw pos (keywordEach kws X.env)).any (·.1.isNone)) = false := by rfl)
    (h1 : X.prog = P := by rfl) (h2 : X.w = w := by rfl) (h3 : X.K = K := by rfl) (h4 : X.mg = mg := by rfl) (h5 : X.base = base := by rfl) (h6 : X.A = A := by rfl) (hg : Gl X x := by rfl) (hdb : (x == ("__debug__" : Str)) = false := by decide) (he : starEach (e :: es) X.env = (false, eval e X.env) :: starEach es X.env := by rfl) :
    Ex X W (.Call (.Name x p) (e :: es) kws pos) (eCallK n ks.length ps.length is mf fs fk) := by
  subst h1 h2 h3 h4 h5 h6
  obtain ⟨f, fd', G, hm, hk, hb, oc, od, osl, lk⟩ := c.ex
  have e1 : f = fa := by
    rw [hm] at gx
    exact Value.ref.inj (Option.some.inj gx)
  subst e1
  obtain ⟨oc2, od2, dV, kV, doc, pm, an, cdv, ct, osl2, e2, lk2, hcd, hD, hK⟩ := F.ex
  rw [lk] at lk2
  have e3 : fd' = fd := by
    have := Option.some.inj lk2
    injection this with _ _ q _
    injection q
  subst e3
  have hdV : dV = .none := by
    rcases hD with ⟨_, q⟩ | ⟨q, _⟩
    · exact q
    · exact absurd rfl q
  have kb : KBn X.K fd' ps n ks (fun us ws => HM.arr is (us ++ ws)) (fun vs zs => HM.arr is (vs ++ zs)) :=
    ⟨fun s us ws _ l1 l2 => .of_eq (by rw [e2, hdV]; exact bn kV doc pm an cdv ct us ws l1 l2), fun r1 r2 => HM.Vals.arr (r1.append r2) is⟩
  refine ⟨fun m τ st σ H Q hL hS hP pins s I => ?_⟩
  refine wpAny_Call_Name_kw (ld_glob I hg hm ?_ hdb)
  have q : wA X (e :: es) σ H fun vs H1 => wK X kws σ H1 fun zs H2 => vs.length = n ∧ zs.length = ks.length ∧ spM X.K ps.length mf (HM.arr is (vs ++ zs)) H2 Q (WE W σ) :=
    ha.run m τ st σ H _ hL hS (hP.bind fun ds s1 m1 H1 vs e1 hS1 r1 hP1 => hkw.run m1 τ s1 σ H1 _ (hL.mono e1) hS1 (hP1.bind fun es s2 m2 H2 xs e2 hS2 r2 hP2 => by
      split at hP2
      · rename_i hl
        exact ⟨by rw [← r1.len]; exact hl.1, by rw [← r2.len]; exact hl.2.1, m2, s2, _, hl.2.2, hS2, RDs.arr ((r1.mono e2).append r2) is, hP2⟩
      · exact hP2.elim))
  refine PySem.W.callWith_KW (h₀ := X.base) I.ok.mod.kin hk hall (thn (q pos pins s I) fun us s1 ⟨vs, H1, I1, r, q1⟩ => ?_) hpl he
  refine thn (q1 pos pins s1 I1) fun ws s2 ⟨zs, H2, I2, rz, l1, l2, q2⟩ => ⟨I2.kIn, ?_⟩
  rw [hks]
  have r2 := kb.rel r rz
  refine wpAny_call (codeAny_mono (G.run X.A X.stack s2 H2 ⟨us, ks.zip ws⟩ _ _ Q (WE W σ) (hr.mono hj) I2.env0 (kb.to s2 us ws I2.kIn (r.length.symm.trans l1) (rz.length.symm.trans l2)) r2 q2) fun r s' hq => ?_)
  cases r with
  | error e => exact passAt tk σ pins H2 s2 e s' I2 hq
  | ok fl =>
    cases fl with
    | ret u => exact I2.after hq
    | next => exact False.elim hq
    | brk => exact False.elim hq
    | cont => exact False.elim hq
theorem ex_ck0 {P : Program} {w : World} {K : PySem.W.Frag} {mg : Str → Option Value} {base : Heap} {A : Around} {j k : Nat} {ps ks : List Str} {is : List Nat} {mf : FM} {x : Str} {st : Stmt} {fa : Addr} {fd : FuncData} (c : Cal P w K mg base x j ps mf) (F : FnP K x st fa fd) (gx : mg x = some (.ref fa))
    (bn : ∀ (kV doc pm : Value) (an : Option Addr) (cdv ct : Value) (us ws : List Value), us.length = 0 → ws.length = ks.length → bindArgs (PySem.W.fnOf x x (defArgs st) (defBody st) (defScope st) .none kV doc pm an cdv ct) ⟨us, ks.zip ws⟩ = pure (ps.zip (arr is (us ++ ws))))
    (tk : Takes X W) (hr : Room k A) (hj : j ≤ k) (hkw : Ek X W kws fk)
    (hall : (backToKw pos (keywordEach kws X.env)).all (·.1.isSome) = true := by rfl) (hks : (backToKw pos (keywordEach kws X.env)).filterMap (·.1) = ks := by rfl)
    (hpl : ((backTo pos (starEach [] X.env)).any (·.1) || (backToKw pos (keywordEach kws X.env)).any (·.1.isNone)) = false := by rfl)
    (h1 : X.prog = P := by rfl) (h2 : X.w = w := by rfl) (h3 : X.K = K := by rfl) (h4 : X.mg = mg := by rfl) (h5 : X.base = base := by rfl) (h6 : X.A = A := by rfl) (hg : Gl X x := by rfl) (hdb : (x == ("__debug__" : Str)) = false := by decide) :
    Ex X W (.Call (.Name x p) [] kws pos) (eCallK 0 ks.length ps.length is mf aNil fk) := by
  subst h1 h2 h3 h4 h5 h6
  obtain ⟨f, fd', G, hm, hk, hb, oc, od, osl, lk⟩ := c.ex
  have e1 : f = fa := by
    rw [hm] at gx
    exact Value.ref.inj (Option.some.inj gx)
  subst e1
  obtain ⟨oc2, od2, dV, kV, doc, pm, an, cdv, ct, osl2, e2, lk2, hcd, hD, hK⟩ := F.ex
  rw [lk] at lk2
  have e3 : fd' = fd := by
    have := Option.some.inj lk2
    injection this with _ _ q _
    injection q
  subst e3
  have hdV : dV = .none := by
    rcases hD with ⟨_, q⟩ | ⟨q, _⟩
    · exact q
    · exact absurd rfl q
  have kb : KBn X.K fd' ps 0 ks (fun us ws => HM.arr is (us ++ ws)) (fun vs zs => HM.arr is (vs ++ zs)) :=
    ⟨fun s us ws _ l1 l2 => .of_eq (by rw [e2, hdV]; exact bn kV doc pm an cdv ct us ws l1 l2), fun r1 r2 => HM.Vals.arr (r1.append r2) is⟩
  refine ⟨fun m τ st σ H Q hL hS hP pins s I => ?_⟩
  refine wpAny_Call_Name_kw (ld_glob I hg hm ?_ hdb)
  have q : wK X kws σ H fun zs H2 => zs.length = ks.length ∧ spM X.K ps.length mf (HM.arr is zs) H2 Q (WE W σ) := by
    have hP : Pe X.K (fun c d H' => W c d σ H') (RD X.K) m H ((fk τ st).bind fun es s2 => if ([] : List D).length = 0 ∧ es.length = ks.length ∧ (HM.arr is ([] ++ es)).length = ps.length then mf (HM.arr is ([] ++ es)) s2 else .bad) Q := hP
    exact hkw.run m τ st σ H _ hL hS (hP.bind fun es s2 m2 H2 xs e2 hS2 r2 hP2 => by
      split at hP2
      · rename_i hl
        exact ⟨by rw [← r2.len]; exact hl.2.1, m2, s2, _, hl.2.2, hS2, RDs.arr r2 is, hP2⟩
      · exact hP2.elim)
  refine PySem.W.callWith_KW0 (h₀ := X.base) I.ok.mod.kin hk hall (thn (q pos pins s I) fun ws s2 ⟨zs, H2, I2, rz, l2, q2⟩ => ⟨I2.kIn, ?_⟩) hpl
  rw [hks]
  have r2 : Vals (HM.arr is zs) (HM.arr is ([] ++ ws)) := HM.Vals.arr rz is
  refine wpAny_call (codeAny_mono (G.run X.A X.stack s2 H2 ⟨[], ks.zip ws⟩ _ _ Q (WE W σ) (hr.mono hj) I2.env0 (kb.to s2 [] ws I2.kIn rfl (rz.length.symm.trans l2)) r2 q2) fun r s' hq => ?_)
  cases r with
  | error e => exact passAt tk σ pins H2 s2 e s' I2 hq
  | ok fl =>
    cases fl with
    | ret u => exact I2.after hq
    | next => exact False.elim hq
    | brk => exact False.elim hq
    | cont => exact False.elim hq
end
end HM

/-! HM, part 13: max and min of tuples, index. -/
namespace HM
open PySem PySem.Spec PyProof.Rows L2
section
variable {prog : Program} {w : World} {A : Around} {E : Value → Shared → Prop} {s : Shared}
/-- the greatest of a tuple's ints -/
theorem tup_max {t : Addr} {xs : Array (Int × Tok)} {Q : Value → Shared → Prop} (hh : A.handled = none) (ht : s.heap.IsTuple t (intItems xs)) (hne : 0 < xs.size)
    (h : ∀ v h' tk, (intItems xs)[argBest (fun i j => decide (numAt xs i > numAt xs j)) (xs.size - 1)]? = some v → (∀ b o, s.heap.get? b = some o → h'.get? b = some o) → Q v { s with heap := h', toks := tk }) :
    wpAny (model prog w) A (call (.builtin "max") [.ref t]) Q E s := by
  obtain ⟨ob, o1, _, _, _⟩ := id ht
  have sz : (intItems xs).size = xs.size := by simp [intItems]
  refine call_max_walk (wpAny_pyIter_tuple ht ?_)
  refine ⟨_, [_, t], [_], _, _, _, _, rfl, Walks.tuple (A := A.in1) hh s.heap.objs.size t (Nat.ne_of_lt (Heap.lt_size o1)) (intItems xs), ⟨⟨_, Heap.get?_push_size _ rfl, rfl, rfl⟩, ht.push _⟩, fun b hb => ?_, by omega, CmpOf.ints_gt (numAt xs) (fun _ _ => intItems_at), fun v h' tk hP hk => ?_⟩
  · rcases List.mem_cons.mp hb with rfl | hb
    · exact Heap.lt_size (Heap.get?_push_size _ rfl)
    · rw [List.mem_singleton.mp hb]
      exact Heap.lt_size (Heap.get?_push_of_some _ o1)
  · rw [sz] at hP
    exact h v h' tk hP fun b o e => hk b o (fun hm => absurd (Heap.lt_size e) (by rw [List.mem_singleton.mp hm]; exact Nat.lt_irrefl _)) (Heap.get?_push_of_some _ e)
theorem tup_min {t : Addr} {xs : Array (Int × Tok)} {Q : Value → Shared → Prop} (hh : A.handled = none) (ht : s.heap.IsTuple t (intItems xs)) (hne : 0 < xs.size)
    (h : ∀ v h' tk, (intItems xs)[argBest (fun i j => decide (numAt xs i < numAt xs j)) (xs.size - 1)]? = some v → (∀ b o, s.heap.get? b = some o → h'.get? b = some o) → Q v { s with heap := h', toks := tk }) :
    wpAny (model prog w) A (call (.builtin "min") [.ref t]) Q E s := by
  obtain ⟨ob, o1, _, _, _⟩ := id ht
  have sz : (intItems xs).size = xs.size := by simp [intItems]
  refine call_min_walk (wpAny_pyIter_tuple ht ?_)
  refine ⟨_, [_, t], [_], _, _, _, _, rfl, Walks.tuple (A := A.in1) hh s.heap.objs.size t (Nat.ne_of_lt (Heap.lt_size o1)) (intItems xs), ⟨⟨_, Heap.get?_push_size _ rfl, rfl, rfl⟩, ht.push _⟩, fun b hb => ?_, by omega, CmpOf.ints_lt (numAt xs) (fun _ _ => intItems_at), fun v h' tk hP hk => ?_⟩
  · rcases List.mem_cons.mp hb with rfl | hb
    · exact Heap.lt_size (Heap.get?_push_size _ rfl)
    · rw [List.mem_singleton.mp hb]
      exact Heap.lt_size (Heap.get?_push_of_some _ o1)
  · rw [sz] at hP
    exact h v h' tk hP fun b o e => hk b o (fun hm => absurd (Heap.lt_size e) (by rw [List.mem_singleton.mp hm]; exact Nat.lt_irrefl _)) (Heap.get?_push_of_some _ e)
end
section
variable {X : Cx} {W : WX} {e : Expr} {pos p : Pos}
def rMaxT (K : PySem.W.Frag) : List V → Hp → VK → Prop := fun vs H Q => ∃ (a : Addr) (ns : List Int), vs = [V.ref a] ∧ SqT K H a (ns.map V.int) ∧ 0 < ns.length ∧ ∀ m, m ∈ ns → (∀ y, y ∈ ns → y ≤ m) → Q (.int m) H
def rMinT (K : PySem.W.Frag) : List V → Hp → VK → Prop := fun vs H Q => ∃ (a : Addr) (ns : List Int), vs = [V.ref a] ∧ SqT K H a (ns.map V.int) ∧ 0 < ns.length ∧ ∀ m, m ∈ ns → (∀ y, y ∈ ns → m ≤ y) → Q (.int m) H
theorem cr_maxT (hc : X.calm = true) : CallR X (.builtin "max") (rMaxT X.K) := by
  intro pins s σ H vs us Q I r h
  obtain ⟨a, ns, rfl, hs, hne, q⟩ := h
  obtain ⟨its, rv, hl, _⟩ := I.tuple hs
  rw [Vals.ref1 r]
  have hi := rv.ints
  obtain ⟨xs, e⟩ := hi.allInts.items
  have hn : numsOf (intItems xs).toList = ns := by rw [← e]; exact hi.numsOf
  rw [nums_intItems] at hn
  subst hn
  obtain ⟨ob, ho, hcl, n, hd⟩ := hl
  have ht : s.heap.IsTuple a (intItems xs) := by
    rw [← e]
    exact ⟨ob, ho, hcl, n, hd⟩
  have hsz : 0 < xs.size := by simpa using hne
  refine tup_max (I.ok.hd hc) ht hsz fun v h' tk hv hk => ?_
  obtain ⟨t, rfl⟩ := intItems_at hv
  obtain ⟨h1, h2⟩ := argBest_gt (numAt xs) (xs.size - 1)
  refine ⟨.int _, H, I.kept hk, ⟨_, rfl⟩, q _ ?_ fun y hy => ?_⟩
  · rw [numAt_eq]
    exact PySem.getD_mem (by rw [List.length_map, Array.length_toList]; omega)
  · obtain ⟨j, hj, rfl⟩ := mem_getD hy
    rw [List.length_map, Array.length_toList] at hj
    rw [← numAt_eq]
    exact h2 j (by omega)
theorem cr_minT (hc : X.calm = true) : CallR X (.builtin "min") (rMinT X.K) := by
  intro pins s σ H vs us Q I r h
  obtain ⟨a, ns, rfl, hs, hne, q⟩ := h
  obtain ⟨its, rv, hl, _⟩ := I.tuple hs
  rw [Vals.ref1 r]
  have hi := rv.ints
  obtain ⟨xs, e⟩ := hi.allInts.items
  have hn : numsOf (intItems xs).toList = ns := by rw [← e]; exact hi.numsOf
  rw [nums_intItems] at hn
  subst hn
  obtain ⟨ob, ho, hcl, n, hd⟩ := hl
  have ht : s.heap.IsTuple a (intItems xs) := by
    rw [← e]
    exact ⟨ob, ho, hcl, n, hd⟩
  have hsz : 0 < xs.size := by simpa using hne
  refine tup_min (I.ok.hd hc) ht hsz fun v h' tk hv hk => ?_
  obtain ⟨t, rfl⟩ := intItems_at hv
  obtain ⟨h1, h2⟩ := argBest_lt (numAt xs) (xs.size - 1)
  refine ⟨.int _, H, I.kept hk, ⟨_, rfl⟩, q _ ?_ fun y hy => ?_⟩
  · rw [numAt_eq]
    exact PySem.getD_mem (by rw [List.length_map, Array.length_toList]; omega)
  · obtain ⟨j, hj, rfl⟩ := mem_getD hy
    rw [List.length_map, Array.length_toList] at hj
    rw [← numAt_eq]
    exact h2 j (by omega)
theorem max_uniq {ns : List Int} {k m : Int} (hk : maxI ns = some k) (hm : m ∈ ns) (hy : ∀ y ∈ ns, y ≤ m) : m = k := by
  cases ns with
  | nil => cases hk
  | cons n ns =>
    have hk : some (ns.foldl max n) = some k := hk
    cases hk
    obtain ⟨h1, h2, h3⟩ := foldl_max_ge ns n
    refine Int.le_antisymm ?_ ?_
    · rcases List.mem_cons.mp hm with rfl | hm
      · exact h1
      · exact h2 m hm
    · rcases h3 with h3 | h3
      · rw [h3]
        exact hy n (List.mem_cons_self ..)
      · exact hy _ (List.mem_cons_of_mem _ h3)
theorem min_uniq {ns : List Int} {k m : Int} (hk : minI ns = some k) (hm : m ∈ ns) (hy : ∀ y ∈ ns, m ≤ y) : m = k := by
  cases ns with
  | nil => cases hk
  | cons n ns =>
    have hk : some (ns.foldl min n) = some k := hk
    cases hk
    obtain ⟨h1, h2, h3⟩ := foldl_min_le ns n
    refine Int.le_antisymm ?_ ?_
    · rcases h3 with h3 | h3
      · rw [h3]
        exact hy n (List.mem_cons_self ..)
      · exact hy _ (List.mem_cons_of_mem _ h3)
    · rcases List.mem_cons.mp hm with rfl | hm
      · exact h1
      · exact h2 m hm
theorem maxI_pos {ns : List Int} {k : Int} (hk : maxI ns = some k) : 0 < ns.length := by
  cases ns with
  | nil => cases hk
  | cons n ns => simp
theorem minI_pos {ns : List Int} {k : Int} (hk : minI ns = some k) : 0 < ns.length := by
  cases ns with
  | nil => cases hk
  | cons n ns => simp
theorem sv_max (hc : X.calm = true) : CallS X (.builtin "max") gMax := ⟨_, (cr_max hc).or (cr_maxT hc), fun m st H ds v E Q hS r hP => by
  obtain ⟨a, vs, rfl, q, rs⟩ := r
  unfold gMax at hP
  split at hP
  · rename_i k hk
    cases hn : intsD ds with
    | none =>
      rw [hn] at hk
      cases hk
    | some ns =>
      rw [hn] at hk
      have hk : maxI ns = some k := hk
      have e := intsD_V rs hn
      subst e
      have fin : ∀ mm, mm ∈ ns → (∀ y, y ∈ ns → y ≤ mm) → Q (.int mm) H := fun mm hm hy => by
        rw [max_uniq hk hm hy]
        exact hP.now hS (.int _)
      rcases q with q | q
      · exact .inl ⟨a, ns, rfl, q, maxI_pos hk, fin⟩
      · exact .inr ⟨a, ns, rfl, q, maxI_pos hk, fin⟩
  · exact hP.elim⟩
theorem sv_min (hc : X.calm = true) : CallS X (.builtin "min") gMin := ⟨_, (cr_min hc).or (cr_minT hc), fun m st H ds v E Q hS r hP => by
  obtain ⟨a, vs, rfl, q, rs⟩ := r
  unfold gMin at hP
  split at hP
  · rename_i k hk
    cases hn : intsD ds with
    | none =>
      rw [hn] at hk
      cases hk
    | some ns =>
      rw [hn] at hk
      have hk : minI ns = some k := hk
      have e := intsD_V rs hn
      subst e
      have fin : ∀ mm, mm ∈ ns → (∀ y, y ∈ ns → mm ≤ y) → Q (.int mm) H := fun mm hm hy => by
        rw [min_uniq hk hm hy]
        exact hP.now hS (.int _)
      rcases q with q | q
      · exact .inl ⟨a, ns, rfl, q, minI_pos hk, fin⟩
      · exact .inr ⟨a, ns, rfl, q, minI_pos hk, fin⟩
  · exact hP.elim⟩
end
/-! ### tuple(range(..)), list(range(..)) -/
section
variable {X : Cx} {W : WX} {e a b : Expr} {pos p p2 : Pos} {fa fb : EM D}
def okLen (j : Int) : Bool := decide (j.toNat ≤ 16777216) && decide (0 ≤ j)
theorem rng_rds {K : PySem.W.Frag} {m : List Addr} {H : Hp} {i j : Int} : RDs K m H (rng i j) (rgV i j) := by
  have e1 : rng i j = ((List.range (j - i).toNat).map fun k : Nat => i + (k : Int)).map D.int := by
    unfold rng
    rw [List.map_map]
    rfl
  have e2 : rgV i j = ((List.range (j - i).toNat).map fun k : Nat => i + (k : Int)).map V.int := by
    unfold rgV
    rw [List.map_map]
    rfl
  rw [e1, e2]
  exact RDs.ints _
theorem rg_ok {i j : Int} (hi : okLen i = true) (hj : okLen j = true) : RgOk i j := by
  unfold okLen at hi hj
  rw [Bool.and_eq_true, decide_eq_true_eq, decide_eq_true_eq] at hi hj
  exact RgOk.of_le hi.2 (by omega) (by omega) hj.2
def kTup (i j : Int) (st : Store) : ER D := if okLen i && okLen j then .ok (.tup (rng i j)) st else .bad
def kLst (i j : Int) (st : Store) : ER D := if okLen i && okLen j then .ok (.ref st.length) (st ++ [.lst (rng i j)]) else .bad
def eRg1 (k : Int → Int → Store → ER D) (fa : EM D) : EM D := fun τ st => (fa τ st).bind fun d s1 => match d with
  | .int j => k 0 j s1
  | _ => .bad
def eRg2 (k : Int → Int → Store → ER D) (fa fb : EM D) : EM D := fun τ st => (fa τ st).bind fun d s1 => (fb τ s1).bind fun e s2 => match d, e with
  | .int i, .int j => k i j s2
  | _, _ => .bad
theorem kTup_ok {K : PySem.W.Frag} {E : XK} {m : List Addr} {st : Store} {H : Hp} {Q : VK} {i j : Int} (hS : SS K m st H) (hP : Pe K E (RD K) m H (kTup i j st) Q) : RgOk i j ∧ ∀ q, H q = none → Q (.ref q) (upd H q (.tup (rgV i j))) := by
  unfold kTup at hP
  split at hP
  · rename_i hc
    rw [Bool.and_eq_true] at hc
    exact ⟨rg_ok hc.1 hc.2, hP.tup hS rng_rds⟩
  · exact hP.elim
theorem kLst_ok {K : PySem.W.Frag} {E : XK} {m : List Addr} {st : Store} {H : Hp} {Q : VK} {i j : Int} (hS : SS K m st H) (hP : Pe K E (RD K) m H (kLst i j st) Q) : RgOk i j ∧ ∀ q, H q = none → Q (.ref q) (upd H q (.lst (rgV i j))) := by
  unfold kLst at hP
  split at hP
  · rename_i hc
    rw [Bool.and_eq_true] at hc
    exact ⟨rg_ok hc.1 hc.2, hP.lst hS rng_rds⟩
  · exact hP.elim
theorem ex_tupRg1 (hc : X.calm = true) (hg : Gl X "tuple") (hm : X.mg "tuple" = none) (hg2 : Gl X "range") (hm2 : X.mg "range" = none) (ha : Ex X W a fa) (na : starEach [.Call (.Name "range" p2) [a] [] pos] X.env = (false, eval (.Call (.Name "range" p2) [a] [] pos) X.env) :: starEach [] X.env := by rfl) (nb : starEach [a] X.env = (false, eval a X.env) :: starEach [] X.env := by rfl) {pos2 : Pos} :
    Ex X W (.Call (.Name "tuple" p) [.Call (.Name "range" p2) [a] [] pos] [] pos2) (eRg1 kTup fa) := by
  refine ⟨fun m τ st σ H Q hL hS hP pins s I => (pe_tupRg hc hg hm (prg_1 hg2 hm2 peW nb) na).run pins s σ H Q I ?_⟩
  refine ha.run m τ st σ H _ hL hS (hP.bind fun d s1 m1 H1 v e1 hS1 r1 hP1 => ?_)
  split at hP1
  · cases r1
    exact ⟨_, rfl, kTup_ok hS1 hP1⟩
  · exact hP1.elim
theorem ex_lstRg1 (hc : X.calm = true) (hg : Gl X "list") (hm : X.mg "list" = none) (hg2 : Gl X "range") (hm2 : X.mg "range" = none) (ha : Ex X W a fa) (na : starEach [.Call (.Name "range" p2) [a] [] pos] X.env = (false, eval (.Call (.Name "range" p2) [a] [] pos) X.env) :: starEach [] X.env := by rfl) (nb : starEach [a] X.env = (false, eval a X.env) :: starEach [] X.env := by rfl) {pos2 : Pos} :
    Ex X W (.Call (.Name "list" p) [.Call (.Name "range" p2) [a] [] pos] [] pos2) (eRg1 kLst fa) := by
  refine ⟨fun m τ st σ H Q hL hS hP pins s I => (pe_listRg hc hg hm (prg_1 hg2 hm2 peW nb) na).run pins s σ H Q I ?_⟩
  refine ha.run m τ st σ H _ hL hS (hP.bind fun d s1 m1 H1 v e1 hS1 r1 hP1 => ?_)
  split at hP1
  · cases r1
    exact ⟨_, rfl, kLst_ok hS1 hP1⟩
  · exact hP1.elim
end
/-! ### zip of two -/
section
variable {X : Cx} {W : WX} {a b : Expr} {pos p tpos : Pos} {fa fb : EM D}
theorem zipD_at {xs ys : List D} {i : Nat} {d : D} (h : (zipD xs ys)[i]? = some d) : ∃ x y, xs[i]? = some x ∧ ys[i]? = some y ∧ d = .tup [x, y] := by
  unfold zipD at h
  rw [List.getElem?_map] at h
  cases hz : (List.zip xs ys)[i]? with
  | none =>
    rw [hz] at h
    cases h
  | some q =>
    rw [hz] at h
    cases h
    obtain ⟨h1, h2⟩ := List.getElem?_zip_eq_some.mp hz
    exact ⟨_, _, h1, h2, rfl⟩
theorem zipD_len (xs ys : List D) : (zipD xs ys).length = min xs.length ys.length := by
  unfold zipD
  rw [List.length_map, List.length_zip]
theorem j_zipT {K : PySem.W.Frag} {m0 : List Addr} {H0 : Hp} {a b : Addr} {vs us : List V} {xs ys : List D} (hq : SqT K H0 a vs) (rs : RDs K m0 H0 xs vs) (hq2 : SqT K H0 b us) (rs2 : RDs K m0 H0 ys us) : JOk K m0 H0 (.fix (zipD xs ys)) (RZ.ItzT K a b) := fun m H st e s _ => by
  have q1 := e.tup a vs hq
  have q2 := e.tup b us hq2
  have r1 := rs.mono e
  have r2 := rs2.mono e
  refine ⟨fun i d hd => ?_, vs, us, q1, q2, ?_⟩
  · obtain ⟨x, y, hx, hy, rfl⟩ := zipD_at (show (zipD xs ys)[i]? = some d from hd)
    obtain ⟨v, hv, rv⟩ := r1.get hx
    obtain ⟨u, hu, ru⟩ := r2.get hy
    refine ⟨⟨vs, us, v, u, q1, q2, hv, hu⟩, fun z H' hz => ?_⟩
    obtain ⟨T, v', u', rfl, hT, rfl, g1, g2⟩ := hz
    have z1 := g1 vs q1
    have z2 := g2 us q2
    rw [hv] at z1
    rw [hu] at z2
    cases z1
    cases z2
    exact ⟨Ext.fresh hT, s.fresh hT, .tup (SqT.of upd_same) (.cons (rv.mono (Ext.fresh hT)) (.cons (ru.mono (Ext.fresh hT)) .nil))⟩
  · show vs.length ≤ (zipD xs ys).length ∨ us.length ≤ (zipD xs ys).length
    rw [zipD_len, rs.len, rs2.len]
    omega
theorem j_zipL {K : PySem.W.Frag} {m0 : List Addr} {H0 : Hp} {a b : Addr} {n k : Nat} {xs ys : List D} (ha : m0[n]? = some a) (hb : m0[k]? = some b) : JOk K m0 H0 (.two n k xs ys) (Itz K a b) := fun m H st e s hc => by
  have hc : (decide (lstAt st n = some xs) && decide (lstAt st k = some ys)) = true := hc
  rw [Bool.and_eq_true, decide_eq_true_eq, decide_eq_true_eq] at hc
  obtain ⟨vs, h1, r1⟩ := s.list hc.1 (e.pre n a ha)
  obtain ⟨us, h2, r2⟩ := s.list hc.2 (e.pre k b hb)
  have q1 : SqL K H a vs := SqL.of h1
  have q2 : SqL K H b us := SqL.of h2
  refine ⟨fun i d hd => ?_, vs, us, q1, q2, ?_⟩
  · obtain ⟨x, y, hx, hy, rfl⟩ := zipD_at (show (zipD xs ys)[i]? = some d from hd)
    obtain ⟨v, hv, rv⟩ := r1.get hx
    obtain ⟨u, hu, ru⟩ := r2.get hy
    refine ⟨⟨vs, us, v, u, q1, q2, hv, hu⟩, fun z H' hz => ?_⟩
    obtain ⟨T, v', u', rfl, hT, rfl, g1, g2⟩ := hz
    have z1 := g1 vs q1
    have z2 := g2 us q2
    rw [hv] at z1
    rw [hu] at z2
    cases z1
    cases z2
    exact ⟨Ext.fresh hT, s.fresh hT, .tup (SqT.of upd_same) (.cons (rv.mono (Ext.fresh hT)) (.cons (ru.mono (Ext.fresh hT)) .nil))⟩
  · show vs.length ≤ (zipD xs ys).length ∨ us.length ≤ (zipD xs ys).length
    rw [zipD_len, r1.len, r2.len]
    omega
def zip2 (d e : D) (st : Store) : ER Sq := match d, e with
  | .tup xs, .tup ys => .ok (.fix (zipD xs ys)) st
  | .ref n, .ref k => match lstAt st n, lstAt st k with
    | some xs, some ys => .ok (.two n k xs ys) st
    | _, _ => .bad
  | _, _ => .bad
def iZip (fa fb : EM D) : EM Sq := fun τ st => (fa τ st).bind fun d s1 => (fb τ s1).bind fun e s2 => zip2 d e s2
theorem ei_zip {elts : List Expr} {kk : Nat} (hg : Gl X "zip") (hm : X.mg "zip" = none) (ha : Ex X W a fa) (hb : Ex X W b fb)
    (hs : starEach [a, b] X.env = (false, eval a X.env) :: starEach [b] X.env := by rfl) (hs2 : starEach [b] X.env = (false, eval b X.env) :: starEach [] X.env := by rfl) (hpl : (backTo pos (starEach [b] X.env)).any (·.1) = false := by rfl) :
    Ei X W (.Tuple elts kk tpos) (.Call (.Name "zip" p) [a, b] [] pos) (iZip fa fb) := by
  refine ⟨fun m τ st σ H R hL hS hP pins s I => (RZ.pi_zipA (elts := elts) (kk := kk) (tpos := tpos) hg hm (pa_cons peW (pa_cons peW pa_nil hs2) hs) hs hpl).run pins s σ H R I ?_⟩
  refine two ha hb hL hS hP fun m2 st2 H2 dx dy x y e2 hS2 r1 r2 hP2 => ?_
  unfold zip2 at hP2
  split at hP2
  · cases r1 with
    | tup q rs =>
      cases r2 with
      | tup q2 rs2 => exact ⟨_, _, _, _, rfl, .inr ⟨q, q2, hP2.now hS2 (j_zipT q rs q2 rs2)⟩⟩
  · split at hP2
    · rename_i xs ys hx hy
      cases r1 with
      | ref q =>
        cases r2 with
        | ref q2 =>
          obtain ⟨vs, h1, _⟩ := hS2.list hx q
          obtain ⟨us, h2, _⟩ := hS2.list hy q2
          exact ⟨_, _, vs, us, rfl, .inl ⟨SqL.of h1, SqL.of h2, hP2.now hS2 (j_zipL q q2)⟩⟩
    · exact hP2.elim
  · exact hP2.elim
end
end HM

/-! HM, part S: how mirrors are computed (simp). -/
namespace HM
open PySem PySem.Spec PyProof.Rows L2
section
variable {α β : Type} {τ : Sl} {st : Store} {f g h fa fb fc fe fo fi : EM D} {fs : EM (List D)} {ga gb : EM Bool} {i n : Nat} {d : D} {u v : SM}
@[simp] theorem eVar_e (hh : τ[i]? = some (some d)) : eVar i τ st = .ok d st := by unfold eVar; rw [hh]
@[simp] theorem eC_e : eC d τ st = .ok d st := rfl
@[simp] theorem eBin_e {o : O2} : eBin o fa fb τ st = (fa τ st).bind fun x s1 => (fb τ s1).bind fun y s2 => o x y s2 := rfl
@[simp] theorem eUn_e {o : O1} : eUn o fa τ st = (fa τ st).bind o := rfl
@[simp] theorem tBl_e : tBl fa τ st = (fa τ st).bind dBl := rfl
@[simp] theorem dBl_e {b : Bool} : dBl (.bl b) st = .ok b st := rfl
def oTru (d : D) (st : Store) : ER Bool := match dTru st d with
  | some b => .ok b st
  | none => .bad
@[simp] theorem tVal_e : tVal fa τ st = (fa τ st).bind oTru := rfl
@[simp] theorem oTru_bl {b : Bool} : oTru (.bl b) st = .ok b st := rfl
@[simp] theorem oTru_int {k : Int} : oTru (.int k) st = .ok (k != 0) st := rfl
@[simp] theorem oTru_non : oTru .non st = .ok false st := rfl
@[simp] theorem oTru_tup {xs : List D} : oTru (.tup xs) st = .ok (!xs.isEmpty) st := rfl
@[simp] theorem tAnd_e : HM.tAnd ga gb τ st = (ga τ st).bind fun x s1 => if x then gb τ s1 else .ok false s1 := rfl
@[simp] theorem tOr_e : HM.tOr ga gb τ st = (ga τ st).bind fun x s1 => if x then .ok true s1 else gb τ s1 := rfl
@[simp] theorem tNot_e : HM.tNot ga τ st = (ga τ st).bind fun x s1 => .ok (!x) s1 := rfl
@[simp] theorem tYes_e : HM.tYes τ st = .ok true st := rfl
def oAndV (k : Store → ER D) (d : D) (st : Store) : ER D := match dTru st d with
  | some true => k st
  | some false => .ok d st
  | none => .bad
def oOrV (k : Store → ER D) (d : D) (st : Store) : ER D := match dTru st d with
  | some true => .ok d st
  | some false => k st
  | none => .bad
def oNotV (d : D) (st : Store) : ER D := match dTru st d with
  | some b => .ok (.bl !b) st
  | none => .bad
@[simp] theorem eAnd_e : eAnd fa fb τ st = (fa τ st).bind (oAndV (fb τ)) := rfl
@[simp] theorem eOr_e : eOr fa fb τ st = (fa τ st).bind (oOrV (fb τ)) := rfl
@[simp] theorem eNot_e : eNot fa τ st = (fa τ st).bind oNotV := rfl
@[simp] theorem oAndV_bl {k : Store → ER D} {b : Bool} : oAndV k (.bl b) st = if b then k st else .ok (.bl false) st := by cases b <;> rfl
@[simp] theorem oOrV_bl {k : Store → ER D} {b : Bool} : oOrV k (.bl b) st = if b then .ok (.bl true) st else k st := by cases b <;> rfl
@[simp] theorem oNotV_bl {b : Bool} : oNotV (.bl b) st = .ok (.bl !b) st := rfl
@[simp] theorem eIf_e : eIf ga fa fb τ st = (ga τ st).bind fun x s1 => if x then fa τ s1 else fb τ s1 := rfl
@[simp] theorem aNil_e : aNil τ st = .ok [] st := rfl
@[simp] theorem aCons_e : aCons f fs τ st = (f τ st).bind fun x s1 => (fs τ s1).bind fun xs s2 => .ok (x :: xs) s2 := rfl
@[simp] theorem eTup_e : eTup fs τ st = (fs τ st).bind fun xs s1 => if xs.length ≤ 16777216 then .ok (.tup xs) s1 else .bad := rfl
@[simp] theorem eLst_e : eLst fs τ st = (fs τ st).bind fun xs s1 => if xs.length ≤ 16777216 then .ok (.ref s1.length) (s1 ++ [.lst xs]) else .bad := rfl
@[simp] theorem eCall_e {mf : FM} : eCall n mf fs τ st = (fs τ st).bind fun ds s1 => if ds.length = n then mf ds s1 else .bad := rfl
@[simp] theorem eCB_e {mf : FM} : eCB mf fs τ st = (fs τ st).bind mf := rfl
@[simp] theorem eCS_e {g : SM1} : eCS g fs τ st = (fs τ st).bind g := rfl
@[simp] theorem eEl_e : eEl fs τ st = (fs τ st).bind fun ds s1 => .ok (.ref s1.length) (s1 ++ [.lst ds]) := rfl
def oSeq (d : D) (st : Store) : ER (List D) := match dSeq st d with
  | some xs => .ok xs st
  | none => .bad
@[simp] theorem sEx_e : sEx f τ st = (f τ st).bind oSeq := rfl
@[simp] theorem oSeq_tup {xs : List D} : oSeq (.tup xs) st = .ok xs st := rfl
@[simp] theorem oSeq_rol {xs : List D} : oSeq (.rol xs) st = .ok xs st := rfl
@[simp] theorem eChain_e {o o' : O2} : eChain o o' fa fb fc τ st = (fa τ st).bind fun x s1 => (fb τ s1).bind fun y s2 => (o x y s2).bind fun z s3 => match z with
  | .bl true => (fc τ s3).bind fun w s4 => o' y w s4
  | .bl false => .ok (.bl false) s3
  | _ => .bad := rfl
/-! values -/
@[simp] theorem oAdd_int {i j : Int} : oAdd (.int i) (.int j) st = .ok (.int (i + j)) st := rfl
@[simp] theorem oIAdd_int {i j : Int} : oIAdd (.int i) (.int j) st = .ok (.int (i + j)) st := rfl
@[simp] theorem oAdd_str {a b : List Nat} : oAdd (.str a) (.str b) st = if a.length + b.length ≤ 16777216 then .ok (.str (a ++ b)) st else .bad := rfl
@[simp] theorem oAdd_tup {a b : List D} : oAdd (.tup a) (.tup b) st = if a.length + b.length ≤ 16777216 then .ok (.tup (a ++ b)) st else .bad := rfl
@[simp] theorem oInt_e {i j : Int} {k : Int → Int → Int} : oInt k (.int i) (.int j) st = .ok (.int (k i j)) st := rfl
@[simp] theorem oIntC_e {i j : Int} {C : Int → Int → Bool} {k : Int → Int → Int} (hc : C i j = true) : oIntC C k (.int i) (.int j) st = .ok (.int (k i j)) st := by
  show (if C i j = true then _ else _) = _
  rw [if_pos hc]
@[simp] theorem oCmp_e {i j : Int} {k : Int → Int → Bool} : oCmp k (.int i) (.int j) st = .ok (.bl (k i j)) st := rfl
@[simp] theorem oNeg_e {i : Int} : oNeg (.int i) st = .ok (.int (-i)) st := rfl
@[simp] theorem oEq_int {i j : Int} : oEq (.int i) (.int j) st = .ok (.bl (decide (i = j))) st := rfl
@[simp] theorem oNe_int {i j : Int} : oNe (.int i) (.int j) st = .ok (.bl !(decide (i = j))) st := rfl
@[simp] theorem oEq_str {a b : List Nat} : oEq (.str a) (.str b) st = .ok (.bl (decide (a = b))) st := rfl
@[simp] theorem oNe_str {a b : List Nat} : oNe (.str a) (.str b) st = .ok (.bl !(decide (a = b))) st := rfl
@[simp] theorem oEq_bl {a b : Bool} : oEq (.bl a) (.bl b) st = .ok (.bl (decide (a = b))) st := rfl
@[simp] theorem oNe_bl {a b : Bool} : oNe (.bl a) (.bl b) st = .ok (.bl !(decide (a = b))) st := rfl
@[simp] theorem oEq_tup {a b : List D} (ha : (D.tup a).plain 60 = true) (hb : (D.tup b).plain 60 = true) : oEq (.tup a) (.tup b) st = .ok (.bl (decide (a = b))) st := by
  simp [oEq, dEq, D.pd, ha, hb]
@[simp] theorem oNe_tup {a b : List D} (ha : (D.tup a).plain 60 = true) (hb : (D.tup b).plain 60 = true) : oNe (.tup a) (.tup b) st = .ok (.bl !(decide (a = b))) st := by
  simp [oNe, dEq, D.pd, ha, hb]
@[simp] theorem plain_tup {n : Nat} {xs : List D} : (D.tup xs).plain (n + 1) = xs.all (D.plain n) := rfl
@[simp] theorem plain_int {n : Nat} {k : Int} : (D.int k).plain n = true := by cases n <;> rfl
@[simp] theorem plain_non {n : Nat} : D.non.plain n = true := by cases n <;> rfl
@[simp] theorem plain_str {n : Nat} {x : List Nat} : (D.str x).plain n = x.all fun c => decide (c < 1114112) := by cases n <;> rfl
@[simp] theorem oIs_bl {a b : Bool} : oIs (.bl a) (.bl b) st = .ok (.bl (decide (a = b))) st := rfl
@[simp] theorem oIsNot_bl {a b : Bool} : oIsNot (.bl a) (.bl b) st = .ok (.bl !(decide (a = b))) st := rfl
@[simp] theorem oIs_non : oIs .non .non st = .ok (.bl true) st := rfl
@[simp] theorem oIs_int {i : Int} : oIs (.int i) .non st = .ok (.bl false) st := rfl
@[simp] theorem oIs_tup {xs : List D} : oIs (.tup xs) .non st = .ok (.bl false) st := rfl
@[simp] theorem oIsNot_non : oIsNot .non .non st = .ok (.bl false) st := rfl
@[simp] theorem oIsNot_int {i : Int} : oIsNot (.int i) .non st = .ok (.bl true) st := rfl
@[simp] theorem oIsNot_tup {xs : List D} : oIsNot (.tup xs) .non st = .ok (.bl true) st := rfl
def ofO (st : Store) : Option D → ER D
  | some d => .ok d st
  | none => .bad
@[simp] theorem ofO_some : ofO st (some d) = .ok d st := rfl
@[simp] theorem oIx_tup {xs : List D} {k : Int} : oIx (.tup xs) (.int k) st = ofO st (atI xs k) := by
  unfold oIx ofO
  simp only <;> (split <;> simp_all)
theorem oIx_ref {xs : List D} {m : Nat} {k : Int} (hh : lstAt st m = some xs) : oIx (.ref m) (.int k) st = ofO st (atI xs k) := by
  unfold oIx ofO
  simp only [hh] <;> (split <;> simp_all)
@[simp] theorem atI_0 {α : Type} {x : α} {xs : List α} : atI (x :: xs) 0 = some x := by simp [atI, ixN]
@[simp] theorem atI_1 {α : Type} {x y : α} {xs : List α} : atI (x :: y :: xs) 1 = some y := atI_nat (j := 1) rfl
@[simp] theorem atI_2 {α : Type} {x y z : α} {xs : List α} : atI (x :: y :: z :: xs) 2 = some z := atI_nat (j := 2) rfl
@[simp] theorem atI_3 {α : Type} {x y z w : α} {xs : List α} : atI (x :: y :: z :: w :: xs) 3 = some w := atI_nat (j := 3) rfl
/-! built-ins -/
@[simp] theorem fInt_int {i : Int} : fInt [.int i] st = .ok (.int i) st := rfl
@[simp] theorem fInt_bl {b : Bool} : fInt [.bl b] st = .ok (.int (if b then 1 else 0)) st := rfl
@[simp] theorem fAbs_e {i : Int} : fAbs [.int i] st = .ok (.int (i.natAbs : Nat)) st := rfl
@[simp] theorem fGcd_e {i j : Int} : fGcd [.int i, .int j] st = .ok (.int (Nat.gcd i.natAbs j.natAbs : Nat)) st := rfl
@[simp] theorem fLen_tup {xs : List D} : fLen [.tup xs] st = .ok (.int xs.length) st := rfl
@[simp] theorem fLen_rol {xs : List D} : fLen [.rol xs] st = .ok (.int xs.length) st := rfl
theorem fLen_ref {xs : List D} {m : Nat} (hh : lstAt st m = some xs) : fLen [.ref m] st = .ok (.int xs.length) st := by simp [fLen, dSeq, hh]
@[simp] theorem fTuple_tup {xs : List D} : fTuple [.tup xs] st = .ok (.tup xs) st := rfl
theorem fTuple_ref {xs : List D} {m : Nat} (hh : lstAt st m = some xs) : fTuple [.ref m] st = .ok (.tup xs) st := by simp [fTuple, dSeq, hh]
@[simp] theorem gTuple_e {xs : List D} : gTuple xs st = .ok (.tup xs) st := rfl
@[simp] theorem gLen_e {xs : List D} : gLen xs st = .ok (.int xs.length) st := rfl
@[simp] theorem fMin2_e {i j : Int} : fMin2 [.int i, .int j] st = .ok (.int (if j < i then j else i)) st := rfl
@[simp] theorem fMax2_e {i j : Int} : fMax2 [.int i, .int j] st = .ok (.int (if j > i then j else i)) st := rfl
theorem fIsi_e {t c : String} {b : Bool} (h1 : dTy st d = some t) (h2 : isiT t c = some b) : fIsi [d, .ty c] st = .ok (.bl b) st := by simp [fIsi, h1, h2]
theorem isi1 : isiT "int" "int" = some true := by decide +kernel
theorem isi2 : isiT "int" "bool" = some false := by decide +kernel
theorem isi3 : isiT "bool" "int" = some true := by decide +kernel
theorem isi4 : isiT "bool" "bool" = some true := by decide +kernel
theorem isi5 : isiT "tuple" "tuple" = some true := by decide +kernel
theorem isi6 : isiT "tuple" "int" = some false := by decide +kernel
theorem isi7 : isiT "str" "str" = some true := by decide +kernel
theorem isi8 : isiT "str" "int" = some false := by decide +kernel
theorem isi9 : isiT "NoneType" "int" = some false := by decide +kernel
@[simp] theorem fIsi_ii {i : Int} : fIsi [.int i, .ty "int"] st = .ok (.bl true) st := fIsi_e rfl isi1
@[simp] theorem fIsi_ib {i : Int} : fIsi [.int i, .ty "bool"] st = .ok (.bl false) st := fIsi_e rfl isi2
@[simp] theorem fIsi_bi {i : Bool} : fIsi [.bl i, .ty "int"] st = .ok (.bl true) st := fIsi_e rfl isi3
@[simp] theorem fIsi_bb {i : Bool} : fIsi [.bl i, .ty "bool"] st = .ok (.bl true) st := fIsi_e rfl isi4
@[simp] theorem fIsi_tt {xs : List D} : fIsi [.tup xs, .ty "tuple"] st = .ok (.bl true) st := fIsi_e rfl isi5
@[simp] theorem fIsi_ti {xs : List D} : fIsi [.tup xs, .ty "int"] st = .ok (.bl false) st := fIsi_e rfl isi6
@[simp] theorem fIsi_ss {x : List Nat} : fIsi [.str x, .ty "str"] st = .ok (.bl true) st := fIsi_e rfl isi7
@[simp] theorem fIsi_si {x : List Nat} : fIsi [.str x, .ty "int"] st = .ok (.bl false) st := fIsi_e rfl isi8
@[simp] theorem fIsi_ni : fIsi [.non, .ty "int"] st = .ok (.bl false) st := fIsi_e rfl isi9
/-! statements -/
def SR.seq (r : SR) (k : SM) : SR := match r with
  | .nx τ s => k τ s
  | r => r
@[simp] theorem seq_nx {k : SM} : (SR.nx τ st).seq k = k τ st := rfl
@[simp] theorem seq_rt {k : SM} : (SR.rt d st).seq k = .rt d st := rfl
@[simp] theorem seq_bad {k : SM} : SR.bad.seq k = .bad := rfl
@[simp] theorem seq_exc {x : Xc} {k : SM} : (SR.exc x τ st).seq k = .exc x τ st := rfl
@[simp] theorem seq_bk {k : SM} : (SR.bk τ st).seq k = .bk τ st := rfl
@[simp] theorem seq_ct {k : SM} : (SR.ct τ st).seq k = .ct τ st := rfl
@[simp] theorem sSeq_e : sSeq u v τ st = (u τ st).seq v := by
  unfold sSeq SR.seq
  rfl
@[simp] theorem sNil_e : sNil τ st = .nx τ st := rfl
@[simp] theorem sIf_e : sIf ga u v τ st = bindE (ga τ st) τ fun b s1 => if b then u τ s1 else v τ s1 := rfl
@[simp] theorem sSet_e : sSet i fe τ st = bindE (fe τ st) τ fun d s1 => .nx (τ.set i (some d)) s1 := rfl
@[simp] theorem sRet_e : sRet fe τ st = bindE (fe τ st) τ fun d s1 => .rt d s1 := rfl
@[simp] theorem sRetN_e : sRetN τ st = .rt .non st := rfl
@[simp] theorem sExpr_e : sExpr fe τ st = bindE (fe τ st) τ fun _ s1 => .nx τ s1 := rfl
@[simp] theorem sRaise_e {x : Xc} : sRaise x τ st = .exc x τ st := rfl
@[simp] theorem sBrk_e : sBrk τ st = .bk τ st := rfl
@[simp] theorem sCnt_e : sCnt τ st = .ct τ st := rfl
@[simp] theorem bindE_bind {r : ER α} {k : α → Store → ER β} {k' : β → Store → SR} : bindE (r.bind k) τ k' = bindE r τ fun a s => bindE (k a s) τ k' := by cases r <;> rfl
@[simp] theorem bind_bind {γ : Type} {r : ER α} {k : α → Store → ER β} {k' : β → Store → ER γ} : (r.bind k).bind k' = r.bind fun a s => (k a s).bind k' := by cases r <;> rfl
@[simp] theorem bind_ite {c : Prop} [Decidable c] {r r' : ER α} {k : α → Store → ER β} : (if c then r else r').bind k = if c then r.bind k else r'.bind k := by split <;> rfl
@[simp] theorem bindE_ite {c : Prop} [Decidable c] {r r' : ER α} {k : α → Store → SR} : bindE (if c then r else r') τ k = if c then bindE r τ k else bindE r' τ k := by split <;> rfl
def SR.fin : SR → ER D
  | .nx _ s => .ok .non s
  | .rt d s => .ok d s
  | .exc x _ s => .exc x s
  | _ => .bad
@[simp] theorem fin_nx : (SR.nx τ st).fin = .ok .non st := rfl
@[simp] theorem fin_rt : (SR.rt d st).fin = .ok d st := rfl
@[simp] theorem fin_exc {x : Xc} : (SR.exc x τ st).fin = .exc x st := rfl
@[simp] theorem fin_bad : SR.bad.fin = .bad := rfl
theorem runB_e {ds : List D} : runB n u ds st = (u (ent n ds) st).fin := rfl
@[simp] theorem fin_ite {c : Prop} [Decidable c] {r r' : SR} : (if c then r else r').fin = if c then r.fin else r'.fin := by split <;> rfl
@[simp] theorem seq_ite {c : Prop} [Decidable c] {r r' : SR} {k : SM} : (if c then r else r').seq k = if c then r.seq k else r'.seq k := by split <;> rfl
@[simp] theorem ent_0 : ent n [] = List.replicate n none := by simp [ent]
@[simp] theorem ent_cons {x : D} {xs : List D} : ent (n + 1) (x :: xs) = some x :: ent n xs := by
  simp [ent]
end
end HM

/-! HM, part T: lists written to, loops, the draws' store. -/
namespace HM
open PySem PySem.Spec PyProof.Rows L2
section
variable {α β : Type} {τ : Sl} {st : Store} {f g h fa fb fc fe fo fi : EM D} {fs : EM (List D)} {ga gb : EM Bool} {i n m : Nat} {d v : D} {xs ys : List D} {u w : SM}
theorem lstAt_set (hh : lstAt st n = some xs) : lstAt (st.set n (.lst ys)) n = some ys := by
  have : n < st.length := by
    unfold lstAt at hh
    split at hh
    · rename_i e
      exact (List.getElem?_eq_some_iff.mp e).1
    · cases hh
  simp [lstAt, this]
theorem lstAt_ne {c : Cell} (hh : m ≠ n) : lstAt (st.set n c) m = lstAt st m := by
  unfold lstAt
  rw [List.getElem?_set_ne (Ne.symm hh)]
theorem oSet_ref {k : Int} {j : Nat} (hh : lstAt st m = some xs) (hj : ixN xs.length k = some j) : oSet (.ref m) (.int k) v st = some (st.set m (.lst (xs.set j v))) := by
  simp [oSet, hh, hj]
theorem oGetL_ref {k : Int} (hh : lstAt st m = some xs) : oGetL (.ref m) (.int k) st = ofO st (atI xs k) := by
  unfold oGetL ofO
  simp only [hh] <;> (split <;> simp_all)
def ofS (τ : Sl) : Option Store → SR
  | some s => .nx τ s
  | none => .bad
@[simp] theorem ofS_some : ofS τ (some st) = .nx τ st := rfl
@[simp] theorem sSub_e : sSub fo fi fe τ st = bindE (fe τ st) τ fun v s1 => bindE (fo τ s1) τ fun o s2 => bindE (fi τ s2) τ fun i s3 => ofS τ (oSet o i v s3) := by
  unfold sSub ofS
  rfl
@[simp] theorem sAugS_e {o : O2} : sAugS o fo fi fe τ st = bindE (fo τ st) τ fun x s1 => bindE (fi τ s1) τ fun i s2 => bindE (oGetL x i s2) τ fun y s3 => bindE (fe τ s3) τ fun z s4 => bindE (o y z s4) τ fun v s5 => ofS τ (oSet x i v s5) := by
  unfold sAugS ofS
  rfl
theorem sAug_e {o : O2} (hh : τ[i]? = some (some d)) : sAug i o fe τ st = bindE (fe τ st) τ fun y s1 => bindE (o d y s1) τ fun z s2 => .nx (τ.set i (some z)) s2 := by
  unfold sAug
  rw [hh]
def ofA (set : D → Sl → Option Sl) (τ : Sl) (d : D) (st : Store) : SR := match set d τ with
  | some τ1 => .nx τ1 st
  | none => .bad
@[simp] theorem sAsg_e {set : D → Sl → Option Sl} : sAsg set fe τ st = bindE (fe τ st) τ (ofA set τ) := rfl
@[simp] theorem okMul_l {i j : Int} (hh : i.natAbs < 18446744073709551616) : okMul i j = true := decide_eq_true (.inl (.inl hh))
@[simp] theorem okMul_r {i j : Int} (hh : j.natAbs < 18446744073709551616) : okMul i j = true := decide_eq_true (.inl (.inr hh))
theorem okMod_of {i j : Int} (hh : j ≠ 0) : okMod i j = true := decide_eq_true hh
theorem okDiv_of {i j : Int} (hh : j ≠ 0) (h2 : j.natAbs.log2 < 9000) : okDiv i j = true := decide_eq_true ⟨hh, h2⟩
theorem log2_le {x k : Nat} (h : x < 2 ^ k) : x.log2 ≤ k := by
  by_cases z : x = 0
  · subst z
    exact Nat.zero_le _
  · exact Nat.le_of_lt ((Nat.log2_lt z).mpr h)
/-! for loops -/
theorem sFor_e {fi : EM Sq} {set : D → Sl → Option Sl} : sFor fi set u τ st = bindE (fi τ st) τ fun q s1 => forL q set u q.items τ s1 := rfl
def ofQ (st : Store) : Option Sq → ER Sq
  | some q => .ok q st
  | none => .bad
@[simp] theorem ofQ_some {q : Sq} : ofQ st (some q) = .ok q st := rfl
@[simp] theorem iEx_e : iEx f τ st = (f τ st).bind fun d s1 => ofQ s1 (dSq s1 d) := by
  unfold iEx ofQ
  rfl
@[simp] theorem dSq_tup : dSq st (.tup xs) = some (.fix xs) := rfl
@[simp] theorem dSq_rol : dSq st (.rol xs) = some (.fix xs) := rfl
theorem dSq_ref (hh : lstAt st n = some xs) : dSq st (.ref n) = some (.cell n xs) := by simp [dSq, hh]
@[simp] theorem items_fix : (Sq.fix xs).items = xs := rfl
@[simp] theorem items_cell : (Sq.cell n xs).items = xs := rfl
@[simp] theorem iEl_e : iEl fs τ st = (fs τ st).bind fun xs s1 => .ok (.fix xs) s1 := rfl
def rg1 (d : D) (st : Store) : ER Sq := match d with
  | .int j => if okRng j then .ok (.fix (rng 0 j)) st else .bad
  | _ => .bad
def rg2 (d e : D) (st : Store) : ER Sq := match d, e with
  | .int i, .int j => if okRng i && okRng j then .ok (.fix (rng i j)) st else .bad
  | _, _ => .bad
@[simp] theorem iRg1_e : iRg1 f τ st = (f τ st).bind rg1 := rfl
@[simp] theorem iRg2_e : iRg2 fa fb τ st = (fa τ st).bind fun d s1 => (fb τ s1).bind fun e s2 => rg2 d e s2 := rfl
theorem okRng_of {j : Int} (hh : j.natAbs < 4611686018427387904) : okRng j = true := decide_eq_true hh
theorem rg1_int {j : Int} (hh : j.natAbs < 4611686018427387904) : rg1 (.int j) st = .ok (.fix (rng 0 j)) st := by simp [rg1, okRng_of hh]
theorem rg2_int {i j : Int} (hi : i.natAbs < 4611686018427387904) (hh : j.natAbs < 4611686018427387904) : rg2 (.int i) (.int j) st = .ok (.fix (rng i j)) st := by simp [rg2, okRng_of hh, okRng_of hi]
/-- a loop, by an invariant -/
theorem for_inv {set : D → Sl → Option Sl} {q : Sq} (P : Nat → Sl → Store → Prop) (hc : ∀ k τ st, P k τ st → q.chk st = true) :
    ∀ (xs : List D) (k : Nat) (τ : Sl) (st : Store), P k τ st →
    (∀ i d τ st, xs[i]? = some d → P (k + i) τ st → ∃ τ1, set d τ = some τ1 ∧ ∃ τ2 s2, (u τ1 st = .nx τ2 s2 ∨ u τ1 st = .ct τ2 s2) ∧ P (k + i + 1) τ2 s2) →
    ∃ τ' st', forL q set u xs τ st = .nx τ' st' ∧ P (k + xs.length) τ' st'
  | [], k, τ, st, h0, _ => ⟨τ, st, by
      unfold forL
      rw [if_pos (hc _ _ _ h0)], h0⟩
  | d :: ds, k, τ, st, h0, hs => by
    obtain ⟨τ1, e1, τ2, s2, e2, h2⟩ := hs 0 d τ st rfl h0
    obtain ⟨τ', st', e3, h3⟩ := for_inv (q := q) P hc ds (k + 1) τ2 s2 h2 fun i d τ st hi hp => by
      have := hs (i + 1) d τ st hi (by rwa [show k + (i + 1) = k + 1 + i by omega])
      rwa [show k + (i + 1) + 1 = k + 1 + i + 1 by omega] at this
    refine ⟨τ', st', ?_, ?_⟩
    · unfold forL
      rw [if_pos (hc _ _ _ h0), e1]
      rcases e2 with e2 | e2 <;> simp only [e2, e3]
    · rw [List.length_cons]
      rwa [show k + (ds.length + 1) = k + 1 + ds.length by omega]
/-! comprehensions -/
def lc1 (own : List Nat) (set : D → Sl → Option Sl) (ft : EM Bool) (fe : EM D) (τ : Sl) (q : Sq) (st : Store) : ER (List D) := if q.items.length ≤ 16777216 then compL q set ft fe (wipeD τ own) q.items [] st else .bad
theorem lComp_e {own : List Nat} {fi : EM Sq} {set : D → Sl → Option Sl} {ft : EM Bool} : lComp own fi set ft fe τ st = (fi τ st).bind (lc1 own set ft fe τ) := rfl
/-- a comprehension without tests -/
theorem comp_inv {set : D → Sl → Option Sl} {q : Sq} (P : List D → Store → Prop) (hc : ∀ acc st, P acc st → q.chk st = true) :
    ∀ (xs acc : List D) (st : Store), P acc st →
    (∀ i d acc' st, xs[i]? = some d → acc'.length = acc.length + i → P acc' st → ∃ τ1, set d τ = some τ1 ∧ ∃ x s2, fe τ1 st = .ok x s2 ∧ P (acc' ++ [x]) s2) →
    ∃ ys st', compL q set tYes fe τ xs acc st = .ok ys st' ∧ P ys st' ∧ ys.length = acc.length + xs.length
  | [], acc, st, h0, _ => ⟨acc, st, by
      unfold compL
      rw [if_pos (hc _ _ h0)], h0, rfl⟩
  | d :: ds, acc, st, h0, hs => by
    obtain ⟨τ1, e1, x, s2, e2, h2⟩ := hs 0 d acc st rfl rfl h0
    obtain ⟨ys, st', e3, h3, h4⟩ := comp_inv (q := q) P hc ds (acc ++ [x]) s2 h2 fun i d acc' st hi ha hp => hs (i + 1) d acc' st hi (by simp at ha; omega) hp
    refine ⟨ys, st', ?_, h3, by simp at h4; simp; omega⟩
    unfold compL
    rw [if_pos (hc _ _ h0), e1]
    simp only [tYes, ER.bindN_ok, if_true, e2]
    exact e3
end
/-! the draws' store: cell 0 holds the script's numbers, cell 1 the place -/
structure DS (ns : List Int) (st : Store) : Prop where
  c0 : lstAt st 0 = some (ns.map D.int)
  c1 : ∃ p h q : Int, 0 ≤ p ∧ lstAt st 1 = some [.ref 0, .int p, .int h, .int q]
/-- what a draw may change -/
structure Fr (a b : Store) : Prop where
  len : a.length ≤ b.length
  at' : ∀ n, n ≠ 1 → n < a.length → b[n]? = a[n]?
theorem Fr.refl {a : Store} : Fr a a := ⟨Nat.le_refl _, fun _ _ _ => rfl⟩
theorem Fr.trans {a b c : Store} (x : Fr a b) (y : Fr b c) : Fr a c := ⟨Nat.le_trans x.len y.len, fun n h1 h2 => (y.at' n h1 (Nat.lt_of_lt_of_le h2 x.len)).trans (x.at' n h1 h2)⟩
theorem Fr.lst {a b : Store} {n : Nat} {xs : List D} (x : Fr a b) (h : lstAt a n = some xs) (hn : n ≠ 1) : lstAt b n = some xs := by
  have := x.at' n hn (lstAt_lt h)
  unfold lstAt at h ⊢
  rwa [this]
theorem Fr.app {a : Store} {c : Cell} : Fr a (a ++ [c]) := ⟨by simp, fun n _ h => by rw [List.getElem?_append_left h]⟩
theorem DS.app {ns : List Int} {st : Store} {c : Cell} (h : DS ns st) : DS ns (st ++ [c]) := by
  obtain ⟨c0, p, hh, q, hp, c1⟩ := h
  exact ⟨by rw [lstAt_left (lstAt_lt c0)]; exact c0, p, hh, q, hp, by rw [lstAt_left (lstAt_lt c1)]; exact c1⟩
end HM

/-! HM, part U: how the mirrors of parts 10 to 12 are computed. -/
namespace HM
open PySem PySem.Spec PyProof.Rows L2
section
variable {τ : Sl} {st : Store} {f g fo fi : EM D} {fs : EM (List D)} {fl fh : EM (Option Int)} {i n m : Nat} {d v x : D} {xs ys : List D}
@[simp] theorem eM_e {T : String} {g : MM} : eM T g fo fs τ st = (fo τ st).bind fun d s1 => if okT T s1 d then (fs τ s1).bind fun ds s2 => g d ds s2 else .bad := rfl
theorem okT_ref (hh : lstAt st n = some xs) : okT "list" st (.ref n) = true := by simp [okT, hh]
@[simp] theorem okT_str {z : List Nat} : okT "str" st (.str z) = true := rfl
theorem mAppend_ref (hh : lstAt st n = some xs) (hl : xs.length < 16777216) : mAppend (.ref n) [x] st = .ok .non (st.set n (.lst (xs ++ [x]))) := by simp [mAppend, hh, hl]
theorem mInsert_ref {k : Nat} (hh : lstAt st n = some xs) (hl : xs.length < 16777216) (hk : k < 9223372036854775808) : mInsert (.ref n) [.int k, x] st = .ok .non (st.set n (.lst (xs.take k ++ [x] ++ xs.drop k))) := by
  have h2 : okIx (k : Int) = true := decide_eq_true (by omega)
  simp [mInsert, hh, hl, h2]
theorem mExtend_ref (hh : lstAt st n = some xs) (h2 : lstAt st m = some ys) (hl : xs.length + ys.length ≤ 16777216) : mExtend (.ref n) [.ref m] st = .ok .non (st.set n (.lst (xs ++ ys))) := by simp [mExtend, hh, h2, hl]
theorem mPop_ref (hh : lstAt st n = some (xs ++ [x])) : mPop (.ref n) [] st = .ok x (st.set n (.lst xs)) := by simp [mPop, hh]
theorem mJoin_tup {a : List Nat} {ys : List (List Nat)} (hl : (ys.map List.length).sum + ys.length * a.length ≤ 16777216) : mJoin (.str a) [.tup (ys.map D.str)] st = .ok (.str (joinD a ys)) st := by
  simp [mJoin, dSeq, strsD_map, hl]
theorem mJoin_ref {a : List Nat} {ys : List (List Nat)} (hh : lstAt st n = some (ys.map D.str)) (hl : (ys.map List.length).sum + ys.length * a.length ≤ 16777216) : mJoin (.str a) [.ref n] st = .ok (.str (joinD a ys)) st := by
  simp [mJoin, dSeq, hh, strsD_map, hl]
def ofB (st : Store) : Option Bool → ER D
  | some b => .ok (.bl b) st
  | none => .bad
@[simp] theorem ofB_some {b : Bool} : ofB st (some b) = .ok (.bl b) st := rfl
@[simp] theorem oIn_e : oIn x v st = ofB st (dIn x v st) := by
  unfold oIn ofB
  rfl
@[simp] theorem oNotIn_e : oNotIn x v st = ofB st ((dIn x v st).map fun b => !b) := by
  unfold oNotIn ofB
  cases dIn x v st <;> rfl
@[simp] theorem dIn_sign {c : Nat} {z : List Nat} : dIn (.str [c]) (.str z) st = some (decide (c ∈ z)) := rfl
theorem dIn_flat (hy : dSeq st v = some ys) (h1 : x.flat = true) (h2 : ys.all D.flat = true) : dIn x v st = some (ys.any fun y => eqF y x) := by
  unfold dIn
  split
  · rename_i c z
    cases hy
  · simp [hy, h1, h2]
@[simp] theorem dSeq_tup : dSeq st (.tup xs) = some xs := rfl
@[simp] theorem dSeq_rol : dSeq st (.rol xs) = some xs := rfl
theorem dSeq_ref (hh : lstAt st n = some xs) : dSeq st (.ref n) = some xs := hh
@[simp] theorem flat_int {k : Int} : (D.int k).flat = true := rfl
@[simp] theorem flat_str {k : List Nat} : (D.str k).flat = true := rfl
@[simp] theorem flat_bl {k : Bool} : (D.bl k).flat = true := rfl
@[simp] theorem flat_non : D.non.flat = true := rfl
@[simp] theorem eqF_int {a b : Int} : eqF (.int a) (.int b) = decide (a = b) := rfl
@[simp] theorem eqF_str {a b : List Nat} : eqF (.str a) (.str b) = decide (a = b) := rfl
@[simp] theorem dIn_tup {k : Int} : dIn (.int k) (.tup ys) st = if ys.all D.flat then some (ys.any fun y => eqF y (.int k)) else if ys.all (D.plain 59) then some (decide (D.int k ∈ ys)) else none := by
  simp [dIn, dSeq] <;> rfl
@[simp] theorem eSl_e : eSl f fl fh τ st = (f τ st).bind fun d s1 => (fl τ s1).bind fun l s2 => (fh τ s2).bind fun h s3 => dCut d l h s3 := rfl
@[simp] theorem oNone_e : oNone τ st = .ok none st := rfl
def ofI (d : D) (st : Store) : ER (Option Int) := match d with
  | .int i => .ok (some i) st
  | _ => .bad
@[simp] theorem ofI_int {k : Int} : ofI (.int k) st = .ok (some k) st := rfl
@[simp] theorem oSome_e : oSome f τ st = (f τ st).bind ofI := rfl
theorem sIx_n {n d k : Nat} : HT.sIx n d (some (k : Int)) = min k n := HT.sIx_nat n d k
@[simp] theorem sIx_0 {n d : Nat} : HT.sIx n d none = d := rfl
theorem dCut_str {z : List Nat} {lo hi : Option Int} (hz : z.length ≤ 16777216) : dCut (.str z) lo hi st = .ok (.str (cutD z lo hi)) st := by simp [dCut, hz]
theorem dCut_ref {lo hi : Option Int} (hh : lstAt st n = some xs) : dCut (.ref n) lo hi st = .ok (.ref st.length) (st ++ [.lst (cutD xs lo hi)]) := by simp [dCut, hh]
theorem cutD_nn {α : Type} {zs : List α} {a b : Nat} : cutD zs (some (a : Int)) (some (b : Int)) = (zs.drop (min a zs.length)).take (min b zs.length - min a zs.length) := by
  unfold cutD
  rw [sIx_n, sIx_n]
theorem cutD_to {α : Type} {zs : List α} {b : Nat} : cutD zs none (some (b : Int)) = zs.take b := by
  unfold cutD
  rw [sIx_n, sIx_0, List.drop_zero, Nat.sub_zero]
  exact PySem.W.kmk_take_min ..
theorem cutD_from {α : Type} {zs : List α} {a : Nat} : cutD zs (some (a : Int)) none = zs.drop a := by
  unfold cutD
  rw [sIx_n, sIx_0]
  rw [show zs.drop (min a zs.length) = zs.drop a from PySem.W.kmk_drop_min ..]
  refine List.take_of_length_le ?_
  rw [List.length_drop]
  omega
theorem gSum_ints {ns : List Int} : gSum (ns.map D.int) st = .ok (.int ns.sum) st := by simp [gSum, intsD_map]
theorem gAllB_bls {bs : List Bool} : gAllB (bs.map D.bl) st = .ok (.bl (bs.all id)) st := by simp [gAllB, blsD_map]
theorem gAnyB_bls {bs : List Bool} : gAnyB (bs.map D.bl) st = .ok (.bl (bs.any id)) st := by simp [gAnyB, blsD_map]
@[simp] theorem oMul_int {a b : Int} (hc : okMul a b = true) : oMul (.int a) (.int b) st = .ok (.int (a * b)) st := by simp [oMul, hc]
theorem oMul_str {z : List Nat} {k : Int} (h2 : 2 ≤ k) (hz : k ≤ 16777216) (hl : z.length * k.toNat ≤ 16777216) : oMul (.str z) (.int k) st = .ok (.str (repD k.toNat z)) st := by
  simp [oMul, h2, hz, hl]
theorem fLcm_W {a b : Int} (ha : a.natAbs < 2 ^ 9000) (hb : b.natAbs < 2 ^ 9000) : fLcm [.int a, .int b] st = .ok (.int (Nat.lcm a.natAbs b.natAbs : Nat)) st := by
  unfold fLcm
  simp only [decide_eq_true ha, decide_eq_true hb, Bool.and_self, if_true]
theorem fLcm_e {a b : Int} (ha : a.natAbs < 18446744073709551616) (hb : b.natAbs < 18446744073709551616) : fLcm [.int a, .int b] st = .ok (.int (Nat.lcm a.natAbs b.natAbs : Nat)) st :=
  fLcm_W (Nat.lt_of_lt_of_le ha (Nat.pow_le_pow_right (n := 2) (i := 64) (by decide) (by decide))) (Nat.lt_of_lt_of_le hb (Nat.pow_le_pow_right (n := 2) (i := 64) (by decide) (by decide)))
theorem fList_tup : fList [.tup xs] st = .ok (.ref st.length) (st ++ [.lst xs]) := rfl
theorem fList_ref (hh : lstAt st n = some xs) : fList [.ref n] st = .ok (.ref st.length) (st ++ [.lst xs]) := by simp [fList, dSeq, hh]
theorem sExL_e : sExL f τ st = (f τ st).bind fun d s1 => match dSeqL s1 d with
  | some xs => .ok xs s1
  | none => .bad := rfl
theorem oAdd_ref (hh : lstAt st n = some xs) (h2 : lstAt st m = some ys) (hl : xs.length + ys.length ≤ 16777216) : oAdd (.ref n) (.ref m) st = .ok (.ref st.length) (st ++ [.lst (xs ++ ys)]) := by simp [oAdd, hh, h2, hl]
theorem oIx_str {z : List Nat} {k : Nat} {c : Nat} (hz : z.length ≤ 16777216) (hk : z[k]? = some c) : oIx (.str z) (.int k) st = .ok (.str [c]) st := by
  have := atI_nat (xs := z) (j := k) (v := c) hk
  simp [oIx, hz, this]
theorem fLen_str {z : List Nat} (hz : z.length ≤ 16777216) : fLen [.str z] st = .ok (.int z.length) st := by simp [fLen, hz]
end
/-- a while loop, by an invariant with a measure -/
theorem while_inv {g : EM Bool} {u : SM} (P : Nat → Sl → Store → Prop) (Done : Sl → Store → Prop)
    (hs : ∀ n τ st, P n τ st → (∃ s1, g τ st = .ok false s1 ∧ Done τ s1) ∨ (∃ s1, g τ st = .ok true s1 ∧ ∃ τ2 s2, (u τ s1 = .nx τ2 s2 ∨ u τ s1 = .ct τ2 s2) ∧ ∃ m, m < n ∧ P m τ2 s2)) :
    ∀ (k n : Nat) (τ : Sl) (st : Store), n < k → P n τ st → ∃ τ' st', whileN g u k τ st = .nx τ' st' ∧ Done τ' st'
  | 0, _, _, _, h, _ => absurd h (Nat.not_lt_zero _)
  | k + 1, n, τ, st, h, hp => by
    unfold whileN
    rcases hs n τ st hp with ⟨s1, e, hd⟩ | ⟨s1, e, τ2, s2, e2, m, hm, hp2⟩
    · rw [e, bindE_ok, if_neg Bool.false_ne_true]
      exact ⟨τ, s1, rfl, hd⟩
    · rw [e, bindE_ok, if_pos rfl]
      obtain ⟨τ', st', e3, hd⟩ := while_inv P Done hs k m τ2 s2 (by omega) hp2
      refine ⟨τ', st', ?_, hd⟩
      rcases e2 with e2 | e2 <;> simp only [e2] <;> exact e3
/-- a comprehension that reads alone -/
theorem comp_map {α : Type} {q : Sq} {set : D → Sl → Option Sl} {fe : EM D} {τ : Sl} {st : Store} (hq : q.chk st = true) (g h : α → D) : ∀ (xs : List α) (acc : List D), (∀ a ∈ xs, ∃ τ1, set (g a) τ = some τ1 ∧ fe τ1 st = .ok (h a) st) → compL q set tYes fe τ (xs.map g) acc st = .ok (acc ++ xs.map h) st
  | [], acc, _ => by
    rw [List.map_nil, List.map_nil, List.append_nil]
    unfold compL
    rw [if_pos hq]
  | a :: xs, acc, hs => by
    obtain ⟨τ1, e1, e2⟩ := hs a (List.mem_cons_self ..)
    rw [List.map_cons]
    unfold compL
    rw [if_pos hq, e1]
    simp only [tYes, ER.bindN_ok, if_true, e2]
    rw [comp_map hq g h xs (acc ++ [h a]) fun b hb => hs b (List.mem_cons_of_mem _ hb), List.map_cons, List.append_assoc]
    rfl
/-- a loop that folds -/
theorem for_fold {α β : Type} {q : Sq} {set : D → Sl → Option Sl} {u : SM} {st : Store} (hq : q.chk st = true) (g : α → D) (F : β → α → β) (E : β → Option D → Sl) (I : β → Prop) : ∀ (xs : List α) (b : β) (t : Option D), I b →
    (∀ b t a, a ∈ xs → I b → I (F b a) ∧ ∃ τ1, set (g a) (E b t) = some τ1 ∧ u τ1 st = .nx (E (F b a) (some (g a))) st) → (∃ t', forL q set u (xs.map g) (E b t) st = .nx (E (xs.foldl F b) t') st) ∧ I (xs.foldl F b)
  | [], b, t, hI, _ => ⟨⟨t, by rw [List.map_nil, forL, if_pos hq]; rfl⟩, hI⟩
  | a :: xs, b, t, hI, hs => by
    obtain ⟨h1, τ1, e1, e2⟩ := hs b t a (List.mem_cons_self ..) hI
    obtain ⟨⟨t', e3⟩, h3⟩ := for_fold hq g F E I xs (F b a) (some (g a)) h1 fun b t a ha => hs b t a (List.mem_cons_of_mem _ ha)
    refine ⟨⟨t', ?_⟩, h3⟩
    rw [List.map_cons, forL, if_pos hq, e1]
    simp only [e2]
    exact e3
end HM

/-! HM, part V: growth of stores, comprehensions with tests, keyword calls. -/
namespace HM
open PySem PySem.Spec PyProof.Rows L2
section
variable {τ : Sl} {st : Store} {fs fk : EM (List D)} {n k np : Nat} {is : List Nat} {mf : FM}
@[simp] theorem eCallK_e : eCallK n k np is mf fs fk τ st = (fs τ st).bind fun ds s1 => (fk τ s1).bind fun es s2 => if ds.length = n ∧ es.length = k ∧ (arr is (ds ++ es)).length = np then mf (arr is (ds ++ es)) s2 else .bad := rfl
end
/-- cells are added alone -/
structure Gr (a b : Store) : Prop where
  ex : ∃ l, b = a ++ l
theorem Gr.refl {a : Store} : Gr a a := ⟨[], by simp⟩
theorem Gr.app {a : Store} {c : Cell} : Gr a (a ++ [c]) := ⟨[c], rfl⟩
theorem Gr.trans {a b c : Store} (x : Gr a b) (y : Gr b c) : Gr a c := by
  obtain ⟨l, rfl⟩ := x.ex
  obtain ⟨m, rfl⟩ := y.ex
  exact ⟨l ++ m, by simp⟩
theorem Gr.lst {a b : Store} {n : Nat} {xs : List D} (x : Gr a b) (h : lstAt a n = some xs) : lstAt b n = some xs := by
  obtain ⟨l, rfl⟩ := x.ex
  rw [lstAt_left (lstAt_lt h)]
  exact h
theorem Gr.fr {a b : Store} (x : Gr a b) : Fr a b := by
  obtain ⟨l, rfl⟩ := x.ex
  exact ⟨by simp, fun n _ h => by rw [List.getElem?_append_left h]⟩
theorem Gr.ds {a b : Store} {ns : List Int} (x : Gr a b) (H : DS ns a) : DS ns b := by
  obtain ⟨c0, p, h, q, hp, c1⟩ := H
  exact ⟨x.lst c0, p, h, q, hp, x.lst c1⟩
/-- the last cell is written -/
theorem Gr.put {a b : Store} {m : Nat} {c : Cell} (x : Gr a b) (h : a.length ≤ m) : Gr a (b.set m c) := by
  obtain ⟨l, rfl⟩ := x.ex
  exact ⟨l.set (m - a.length) c, List.set_append_right m c h⟩
theorem Gr.len {a b : Store} (x : Gr a b) : a.length ≤ b.length := by
  obtain ⟨l, rfl⟩ := x.ex
  simp
theorem DS.put2 {ns : List Int} {s : Store} {m : Nat} {c : Cell} (H : DS ns s) (h0 : m ≠ 0) (h1 : m ≠ 1) : DS ns (s.set m c) := by
  obtain ⟨c0, p, h, q, hp, c1⟩ := H
  exact ⟨by rw [lstAt_ne (Ne.symm h0)]; exact c0, p, h, q, hp, by rw [lstAt_ne (Ne.symm h1)]; exact c1⟩
theorem Fr.put2 {st s : Store} {m : Nat} {c : Cell} (F : Fr st s) (h : st.length ≤ m) : Fr st (s.set m c) :=
  ⟨by rw [List.length_set]; exact F.len, fun n h1 h2 => by rw [List.getElem?_set_ne (by omega)]; exact F.at' n h1 h2⟩
theorem DS.len {ns : List Int} {s : Store} (H : DS ns s) : 2 ≤ s.length := by
  obtain ⟨p, h, q, _, c1⟩ := H.c1
  exact lstAt_lt c1
theorem rng_eq (n : Nat) : rng 0 n = (List.range n).map fun k => D.int (k : Nat) := by
  unfold rng
  simp
theorem rng_mem {n : Nat} {i : Nat} {d : D} (h : (rng 0 n)[i]? = some d) : ∃ k : Nat, k < n ∧ d = .int k := by
  rw [rng_eq, List.getElem?_map] at h
  cases hx : (List.range n)[i]? with
  | none => rw [hx] at h; cases h
  | some a =>
    have := List.mem_range.mp (List.mem_of_getElem? hx)
    rw [hx] at h
    exact ⟨a, this, (Option.some.inj h).symm⟩
@[simp] theorem iZip_e {fa fb : EM D} {τ : Sl} {st : Store} : iZip fa fb τ st = (fa τ st).bind fun d s1 => (fb τ s1).bind fun e s2 => zip2 d e s2 := rfl
@[simp] theorem zip2_tup {xs ys : List D} {st : Store} : zip2 (.tup xs) (.tup ys) st = .ok (.fix (zipD xs ys)) st := rfl
def okRg (k : Int → Int → Store → ER D) (d : D) (st : Store) : ER D := match d with
  | .int j => k 0 j st
  | _ => .bad
@[simp] theorem eRg1_e {k : Int → Int → Store → ER D} {fa : EM D} {τ : Sl} {st : Store} : eRg1 k fa τ st = (fa τ st).bind (okRg k) := rfl
@[simp] theorem okRg_int {k : Int → Int → Store → ER D} {j : Int} {st : Store} : okRg k (.int j) st = k 0 j st := rfl
theorem rng_len {n : Nat} : (rng 0 (n : Nat)).length = n := by
  unfold rng
  simp
theorem lstAt_new {a : Store} {xs : List D} : lstAt (a ++ [.lst xs]) a.length = some xs := by simp [lstAt]
/-- a comprehension with a test -/
theorem comp_gen {q : Sq} {set : D → Sl → Option Sl} {ft : EM Bool} {fe : EM D} {τ : Sl} (P : Nat → List D → Store → Prop) (hc : ∀ k acc st, P k acc st → q.chk st = true) :
    ∀ (xs : List D) (k : Nat) (acc : List D) (st : Store), P k acc st →
    (∀ (i : Nat) (d : D) (acc' : List D) (st : Store), xs[i]? = some d → P (k + i) acc' st → ∃ τ1, set d τ = some τ1 ∧ ∃ b s1, ft τ1 st = .ok b s1 ∧ (b = false → P (k + i + 1) acc' s1) ∧ (b = true → ∃ x s2, fe τ1 s1 = .ok x s2 ∧ P (k + i + 1) (acc' ++ [x]) s2)) →
    ∃ ys st', compL q set ft fe τ xs acc st = .ok ys st' ∧ P (k + xs.length) ys st'
  | [], k, acc, st, h0, _ => ⟨acc, st, by
      unfold compL
      rw [if_pos (hc _ _ _ h0)], h0⟩
  | d :: ds, k, acc, st, h0, hs => by
    obtain ⟨τ1, e1, b, s1, e2, h2, h3⟩ := hs 0 d acc st rfl h0
    have next : ∀ acc s, P (k + 1) acc s → ∃ ys st', compL q set ft fe τ ds acc s = .ok ys st' ∧ P (k + (d :: ds).length) ys st' := fun acc s h => by
      rw [List.length_cons, show k + (ds.length + 1) = k + 1 + ds.length by omega]
      refine comp_gen P hc ds (k + 1) acc s h fun i d acc' st hi hp => ?_
      rw [show k + 1 + i = k + (i + 1) by omega] at hp ⊢
      exact hs (i + 1) d acc' st hi hp
    unfold compL
    rw [if_pos (hc _ _ _ h0), e1]
    simp only [e2, ER.bindN_ok]
    cases b with
    | false => exact next _ _ (h2 rfl)
    | true =>
      obtain ⟨x, s2, e3, h4⟩ := h3 rfl
      simp only [if_true, e3, ER.bindN_ok]
      exact next _ _ h4
/-- a comprehension with a test that reads alone -/
theorem comp_fil {α : Type} {q : Sq} {set : D → Sl → Option Sl} {ft : EM Bool} {fe : EM D} {τ : Sl} {st : Store} (hq : q.chk st = true) (g h : α → D) (p : α → Bool) : ∀ (xs : List α) (acc : List D), (∀ a ∈ xs, ∃ τ1, set (g a) τ = some τ1 ∧ ft τ1 st = .ok (p a) st ∧ (p a = true → fe τ1 st = .ok (h a) st)) → compL q set ft fe τ (xs.map g) acc st = .ok (acc ++ (xs.filter p).map h) st
  | [], acc, _ => by
    rw [List.map_nil, List.filter_nil, List.map_nil, List.append_nil]
    unfold compL
    rw [if_pos hq]
  | a :: xs, acc, hs => by
    obtain ⟨τ1, e1, e2, e3⟩ := hs a (List.mem_cons_self ..)
    have ih := fun acc => comp_fil hq g h p xs acc fun b hb => hs b (List.mem_cons_of_mem _ hb)
    rw [List.map_cons, List.filter_cons]
    unfold compL
    rw [if_pos hq, e1]
    simp only [e2, ER.bindN_ok]
    cases hp : p a with
    | false => simp only [Bool.false_eq_true, if_false]; exact ih acc
    | true =>
      simp only [if_true, e3 hp, ER.bindN_ok]
      rw [ih, List.map_cons, List.append_assoc]
      rfl
theorem forL_nil {set : D → Sl → Option Sl} {u : SM} {q : Sq} {τ : Sl} {st : Store} (hq : q.chk st = true) : forL q set u [] τ st = .nx τ st := by
  rw [forL, if_pos hq]
theorem forL_nx {set : D → Sl → Option Sl} {u : SM} {q : Sq} {τ τ1 τ2 : Sl} {st s2 : Store} {d : D} {ds : List D} (hq : q.chk st = true) (h1 : set d τ = some τ1) (h2 : u τ1 st = .nx τ2 s2) : forL q set u (d :: ds) τ st = forL q set u ds τ2 s2 := by
  rw [forL, if_pos hq, h1]
  simp only [h2]
theorem forL_ct {set : D → Sl → Option Sl} {u : SM} {q : Sq} {τ τ1 τ2 : Sl} {st s2 : Store} {d : D} {ds : List D} (hq : q.chk st = true) (h1 : set d τ = some τ1) (h2 : u τ1 st = .ct τ2 s2) : forL q set u (d :: ds) τ st = forL q set u ds τ2 s2 := by
  rw [forL, if_pos hq, h1]
  simp only [h2]
theorem forL_rt {set : D → Sl → Option Sl} {u : SM} {q : Sq} {τ τ1 : Sl} {st s2 : Store} {d x : D} {ds : List D} (hq : q.chk st = true) (h1 : set d τ = some τ1) (h2 : u τ1 st = .rt x s2) : forL q set u (d :: ds) τ st = .rt x s2 := by
  rw [forL, if_pos hq, h1]
  simp only [h2]
theorem forL_bk {set : D → Sl → Option Sl} {u : SM} {q : Sq} {τ τ1 τ2 : Sl} {st s2 : Store} {d : D} {ds : List D} (hq : q.chk st = true) (h1 : set d τ = some τ1) (h2 : u τ1 st = .bk τ2 s2) : forL q set u (d :: ds) τ st = .nx τ2 s2 := by
  rw [forL, if_pos hq, h1]
  simp only [h2]
theorem map_mem {α : Type} {f : α → D} {xs : List α} {i : Nat} {d : D} (h : (xs.map f)[i]? = some d) : ∃ a ∈ xs, d = f a := by
  rw [List.getElem?_map] at h
  cases hx : xs[i]? with
  | none => simp [hx] at h
  | some a => exact ⟨a, List.mem_of_getElem? hx, by simpa [hx] using h.symm⟩
theorem any_eqF {cs : List Int} {k : Int} : ((cs.map D.int).any fun y => eqF y (.int k)) = decide (k ∈ cs) := by
  induction cs with
  | nil => rfl
  | cons c cs ih =>
    rw [List.map_cons, List.any_cons, ih]
    by_cases h : k = c <;> simp [h, eq_comm]
theorem dIn_ints {cs : List Int} {k : Int} {st : Store} : dIn (.int k) (.tup (cs.map D.int)) st = some (decide (k ∈ cs)) := by
  rw [dIn_tup, if_pos, any_eqF]
  rw [List.all_eq_true]
  intro x hx
  obtain ⟨c, _, rfl⟩ := List.mem_map.mp hx
  rfl
end HM

namespace K29
open PySem PySem.Spec PyProof.Rows L2 HM
def top (i : Nat) : Stmt := PySem.Challenge.pw_closedratios_k29_houses_judged.main.body.getD i (.Pass ⟨0, 0, 0, 0⟩)
abbrev s_all_lots : Stmt := top 6
abbrev s_is_row : Stmt := top 7
abbrev s_is_choice : Stmt := top 8
abbrev s_are_goes : Stmt := top 9
abbrev s_is_question : Stmt := top 10
abbrev s_are_lots : Stmt := top 11
abbrev s_is_house : Stmt := top 12
abbrev s__law_begin : Stmt := top 14
abbrev s__law_draw : Stmt := top 15
abbrev s__law_pick : Stmt := top 16
abbrev s__law_rare : Stmt := top 17
abbrev s__law_is_int : Stmt := top 18
abbrev s__law_is_ints : Stmt := top 19
abbrev s__law_all_edits : Stmt := top 20
abbrev s__law_near : Stmt := top 21
abbrev s__law_reader : Stmt := top 22
abbrev s__law_put : Stmt := top 23
abbrev s__law_weight : Stmt := top 24
abbrev s__law_weights : Stmt := top 25
abbrev s__law_one_question : Stmt := top 26
abbrev s__law_world : Stmt := top 27
abbrev s__law_is_question : Stmt := top 28
abbrev s__law_is_house : Stmt := top 29
abbrev s__law_odd_number : Stmt := top 30
abbrev s__law_longer : Stmt := top 31
abbrev s__law_changed_rows : Stmt := top 32
abbrev s__law_changed_goes : Stmt := top 33
abbrev s__law_changed_question : Stmt := top 34
abbrev s__law_changed : Stmt := top 35
abbrev s__law_judged : Stmt := top 36
abbrev s_law : Stmt := top 37
def q_MOST_WEIGHT : D := .int 10000000000000000000000000000000000000000
def q_MOST_ANSWERS : D := .int 12
def q_MOST_LOTS : D := .int 5
def q_MOST_MODES : D := .int 60
def q_MOST_QUESTIONS : D := .int 8
def N_all_lots : List PySem.Str := ["house"]
theorem sc_all_lots : FnScope N_all_lots ["house"] (defScope s_all_lots) := ⟨rfl, rfl, rfl, by decide +kernel, rfl, by decide +kernel, by decide +kernel⟩
def m_all_lots : SM := (sRet (eRg1 kTup (eCB fLen (aCons (eBin oIx (eVar 0) (eC (.int 3))) aNil))))
theorem ok_all_lots {P : Program} {w : World} {K : PySem.W.Frag} {mg : PySem.Str → Option Value} {base : Heap} {f : Addr} {fd : FuncData} (F : FnP K "all_lots" s_all_lots f fd) (gx : mg "all_lots" = some (.ref f)) (z_len : mg "len" = none) (z_tuple : mg "tuple" = none) (z_range : mg "range" = none) :
    Cal P w K mg base "all_lots" 1 ["house"] (runB 1 (m_all_lots)) :=
  cal_mk (k := 0) F sc_all_lots gx (fun _ _ _ _ _ _ us hl => match us, hl with | [_], _ => rfl) fun cdv A outer s H E hr tk hp =>
    (sx_one (sx_ret (ex_tupRg1 (by rfl) (by rfl) z_tuple (by rfl) z_range (ex_callB c_len (by rfl) z_len bt_len (ea_cons (ex_ix m_ix (xv 0) ex_int) ea_nil)))))
def N_is_row : List PySem.Str := ["row", "many", "weight"]
theorem sc_is_row : FnScope N_is_row ["row", "many"] (defScope s_is_row) := ⟨rfl, rfl, rfl, by decide +kernel, rfl, by decide +kernel, by decide +kernel⟩
def m_is_row : SM := (sSeq (sIf (tBl (eBin oNe (eCB fLen (aCons (eVar 0) aNil)) (eVar 1))) (sRet (eC (.bl false))) sNil)
    (sSeq (sFor (iEx (eVar 0)) (gN 2) (sIf (HM.tNot (tBl (eChain oLe oLe (eC (.int 0)) (eVar 2) (eC q_MOST_WEIGHT)))) (sRet (eC (.bl false))) sNil))
    (sRet (eBin oGt (eCS gSum (sEx (eVar 0))) (eC (.int 0))))))
theorem ok_is_row {P : Program} {w : World} {K : PySem.W.Frag} {mg : PySem.Str → Option Value} {base : Heap} {f : Addr} {fd : FuncData} (F : FnP K "is_row" s_is_row f fd) (gx : mg "is_row" = some (.ref f)) (k_MOST_WEIGHT : Con K mg "MOST_WEIGHT" q_MOST_WEIGHT) (z_len : mg "len" = none) (z_sum : mg "sum" = none) :
    Cal P w K mg base "is_row" 1 ["row", "many"] (runB 3 (m_is_row)) :=
  cal_mk (k := 0) F sc_is_row gx (fun _ _ _ _ _ _ us hl => match us, hl with | [_, _], _ => rfl) fun cdv A outer s H E hr tk hp =>
    (sx_cons (sx_if (et_cmp (m_ne hr.units) (ex_callB c_len (by rfl) z_len bt_len (ea_cons (xv 0) ea_nil)) (xv 1) (nomark _)) (sx_one (sx_ret ex_bl)) sx_nil)
    (sx_cons (sx_for hp (by rfl) (ei_ex (xv 0)) (eg_name sc_is_row.nd) (sx_one (sx_if (et_not (et_chain m_le m_le ex_int (xv 2) (ex_con k_MOST_WEIGHT))) (sx_one (sx_ret ex_bl)) sx_nil)))
    (sx_one (sx_ret (ex_cmp m_gt (ex_callBs (s_sum (by rfl)) (by rfl) z_sum bt_sum (es_ex (xv 0))) ex_int (nomark _))))))
def N_is_choice : List PySem.Str := ["row", "lots", "many", "answer"]
theorem sc_is_choice : FnScope N_is_choice ["row", "lots", "many"] (defScope s_is_choice) := ⟨rfl, rfl, rfl, by decide +kernel, rfl, by decide +kernel, by decide +kernel⟩
def m_is_choice : SM := (sSeq (sIf (tBl (eBin oNe (eCB fLen (aCons (eVar 0) aNil)) (eVar 1))) (sRet (eC (.bl false))) sNil)
    (sSeq (sFor (iEx (eVar 0)) (gN 3) (sIf (HM.tNot (tBl (eChain oLe oLt (eC (.int 0)) (eVar 3) (eVar 2)))) (sRet (eC (.bl false))) sNil))
    (sRet (eC (.bl true)))))
theorem ok_is_choice {P : Program} {w : World} {K : PySem.W.Frag} {mg : PySem.Str → Option Value} {base : Heap} {f : Addr} {fd : FuncData} (F : FnP K "is_choice" s_is_choice f fd) (gx : mg "is_choice" = some (.ref f)) (z_len : mg "len" = none) :
    Cal P w K mg base "is_choice" 1 ["row", "lots", "many"] (runB 4 (m_is_choice)) :=
  cal_mk (k := 0) F sc_is_choice gx (fun _ _ _ _ _ _ us hl => match us, hl with | [_, _, _], _ => rfl) fun cdv A outer s H E hr tk hp =>
    (sx_cons (sx_if (et_cmp (m_ne hr.units) (ex_callB c_len (by rfl) z_len bt_len (ea_cons (xv 0) ea_nil)) (xv 1) (nomark _)) (sx_one (sx_ret ex_bl)) sx_nil)
    (sx_cons (sx_for hp (by rfl) (ei_ex (xv 0)) (eg_name sc_is_choice.nd) (sx_one (sx_if (et_not (et_chain m_le m_lt ex_int (xv 3) (xv 2))) (sx_one (sx_ret ex_bl)) sx_nil)))
    (sx_one (sx_ret ex_bl))))
def N_are_goes : List PySem.Str := ["goes", "modes", "mode", "fresh"]
theorem sc_are_goes : FnScope N_are_goes ["goes", "modes"] (defScope s_are_goes) := ⟨rfl, rfl, rfl, by decide +kernel, rfl, by decide +kernel, by decide +kernel⟩
def m_are_goes : SM := (sSeq (sIf (HM.tNot (tBl (eChain oLe oLe (eC (.int 1)) (eCB fLen (aCons (eVar 0) aNil)) (eC q_MOST_ANSWERS)))) (sRet (eC (.bl false))) sNil)
    (sSeq (sFor (iEx (eVar 0)) (gT 2 (gCs 2 (gCs 3 gNil0))) (sIf (tOr (HM.tNot (tBl (eChain oLe oLt (eC (.int 0)) (eVar 2) (eVar 1)))) (tBl (eBin oNotIn (eVar 3) (eTup (aCons (eC (.int 0)) (aCons (eC (.int 1)) aNil)))))) (sRet (eC (.bl false))) sNil))
    (sRet (eC (.bl true)))))
theorem ok_are_goes {P : Program} {w : World} {K : PySem.W.Frag} {mg : PySem.Str → Option Value} {base : Heap} {f : Addr} {fd : FuncData} (F : FnP K "are_goes" s_are_goes f fd) (gx : mg "are_goes" = some (.ref f)) (k_MOST_ANSWERS : Con K mg "MOST_ANSWERS" q_MOST_ANSWERS) (z_len : mg "len" = none) :
    Cal P w K mg base "are_goes" 1 ["goes", "modes"] (runB 4 (m_are_goes)) :=
  cal_mk (k := 0) F sc_are_goes gx (fun _ _ _ _ _ _ us hl => match us, hl with | [_, _], _ => rfl) fun cdv A outer s H E hr tk hp =>
    (sx_cons (sx_if (et_not (et_chain m_le m_le ex_int (ex_callB c_len (by rfl) z_len bt_len (ea_cons (xv 0) ea_nil)) (ex_con k_MOST_ANSWERS))) (sx_one (sx_ret ex_bl)) sx_nil)
    (sx_cons (sx_for hp (by rfl) (ei_ex (xv 0)) (eg_tup (by rfl) (egs_cons sc_are_goes.nd (egs_cons sc_are_goes.nd egs_nil))) (sx_one (sx_if (Ew.et (ew_or (et_not (et_chain m_le m_lt ex_int (xv 2) (xv 1))) (ew_or1 (et_cmp (m_notin hr.units65) (xv 3) (ex_tup (ea_cons ex_int (ea_cons ex_int ea_nil))) (by rfl))))) (sx_one (sx_ret ex_bl)) sx_nil)))
    (sx_one (sx_ret ex_bl))))
def N_is_question : List PySem.Str := ["question", "states", "lots", "modes", "word", "rows", "goes", "row"]
theorem sc_is_question : FnScope N_is_question ["question", "states", "lots", "modes"] (defScope s_is_question) := ⟨rfl, rfl, rfl, by decide +kernel, rfl, by decide +kernel, by decide +kernel⟩
def m_is_question (f_are_goes : FM) (f_is_row : FM) (f_is_choice : FM) : SM := (sSeq (sAsg (gT 3 (gCs 4 (gCs 5 (gCs 6 gNil0)))) (eVar 0))
    (sSeq (sIf (tOr (tBl (eBin oNotIn (eVar 4) (eTup (aCons (eC (.str [115, 104, 111, 119, 110])) (aCons (eC (.str [100, 114, 97, 119, 110])) aNil))))) (tOr (HM.tNot (tVal (eCall 2 f_are_goes (aCons (eVar 6) (aCons (eVar 3) aNil))))) (tBl (eBin oNe (eCB fLen (aCons (eVar 5) aNil)) (eVar 1))))) (sRet (eC (.bl false))) sNil)
    (sSeq (sFor (iEx (eVar 5)) (gN 7) (sSeq (sIf (tAnd (tBl (eBin oEq (eVar 4) (eC (.str [115, 104, 111, 119, 110])))) (HM.tNot (tVal (eCall 2 f_is_row (aCons (eVar 7) (aCons (eCB fLen (aCons (eVar 6) aNil)) aNil)))))) (sRet (eC (.bl false))) sNil)
    (sIf (tAnd (tBl (eBin oEq (eVar 4) (eC (.str [100, 114, 97, 119, 110])))) (HM.tNot (tVal (eCall 3 f_is_choice (aCons (eVar 7) (aCons (eVar 2) (aCons (eCB fLen (aCons (eVar 6) aNil)) aNil))))))) (sRet (eC (.bl false))) sNil)))
    (sRet (eC (.bl true))))))
theorem ok_is_question {P : Program} {w : World} {K : PySem.W.Frag} {mg : PySem.Str → Option Value} {base : Heap} {f : Addr} {fd : FuncData} {f_are_goes f_is_row f_is_choice : FM} (F : FnP K "is_question" s_is_question f fd) (gx : mg "is_question" = some (.ref f)) (c_are_goes : Cal P w K mg base "are_goes" 1 ["goes", "modes"] f_are_goes) (c_is_row : Cal P w K mg base "is_row" 1 ["row", "many"] f_is_row) (c_is_choice : Cal P w K mg base "is_choice" 1 ["row", "lots", "many"] f_is_choice) (z_len : mg "len" = none) :
    Cal P w K mg base "is_question" 2 ["question", "states", "lots", "modes"] (runB 8 (m_is_question f_are_goes f_is_row f_is_choice)) :=
  cal_mk (k := 1) F sc_is_question gx (fun _ _ _ _ _ _ us hl => match us, hl with | [_, _, _, _], _ => rfl) fun cdv A outer s H E hr tk hp =>
    (sx_cons (sx_asg (xv 0) (eg_tup (by rfl) (egs_cons sc_is_question.nd (egs_cons sc_is_question.nd (egs_cons sc_is_question.nd egs_nil)))))
    (sx_cons (sx_if (Ew.et (ew_or (et_cmp (m_notin hr.units65) (xv 4) (ex_tup (ea_cons (ex_strc [115, 104, 111, 119, 110] (by decide +kernel)) (ea_cons (ex_strc [100, 114, 97, 119, 110] (by decide +kernel)) ea_nil))) (by rfl)) (ew_or (et_not (et_val (ex_c1 c_are_goes tk hr (by decide) (ea_cons (xv 6) (ea_cons (xv 3) ea_nil))))) (ew_or1 (et_cmp (m_ne hr.units) (ex_callB c_len (by rfl) z_len bt_len (ea_cons (xv 5) ea_nil)) (xv 1) (nomark _)))))) (sx_one (sx_ret ex_bl)) sx_nil)
    (sx_cons (sx_for hp (by rfl) (ei_ex (xv 5)) (eg_name sc_is_question.nd) (sx_cons (sx_if (Ew.et (ew_and (et_cmp (m_eq hr.units) (xv 4) (ex_strc [115, 104, 111, 119, 110] (by decide +kernel)) (nomark _)) (ew_and1 (et_not (et_val (ex_c1 c_is_row tk hr (by decide) (ea_cons (xv 7) (ea_cons (ex_callB c_len (by rfl) z_len bt_len (ea_cons (xv 6) ea_nil)) ea_nil)))))))) (sx_one (sx_ret ex_bl)) sx_nil)
    (sx_one (sx_if (Ew.et (ew_and (et_cmp (m_eq hr.units) (xv 4) (ex_strc [100, 114, 97, 119, 110] (by decide +kernel)) (nomark _)) (ew_and1 (et_not (et_val (ex_c1 c_is_choice tk hr (by decide) (ea_cons (xv 7) (ea_cons (xv 2) (ea_cons (ex_callB c_len (by rfl) z_len bt_len (ea_cons (xv 6) ea_nil)) ea_nil))))))))) (sx_one (sx_ret ex_bl)) sx_nil))))
    (sx_one (sx_ret ex_bl)))))
def N_are_lots : List PySem.Str := ["weights", "weight"]
theorem sc_are_lots : FnScope N_are_lots ["weights"] (defScope s_are_lots) := ⟨rfl, rfl, rfl, by decide +kernel, rfl, by decide +kernel, by decide +kernel⟩
def m_are_lots : SM := (sSeq (sIf (HM.tNot (tBl (eChain oLe oLe (eC (.int 1)) (eCB fLen (aCons (eVar 0) aNil)) (eC q_MOST_LOTS)))) (sRet (eC (.bl false))) sNil)
    (sSeq (sFor (iEx (eVar 0)) (gN 1) (sIf (HM.tNot (tBl (eChain oLe oLe (eC (.int 1)) (eVar 1) (eC q_MOST_WEIGHT)))) (sRet (eC (.bl false))) sNil))
    (sRet (eC (.bl true)))))
theorem ok_are_lots {P : Program} {w : World} {K : PySem.W.Frag} {mg : PySem.Str → Option Value} {base : Heap} {f : Addr} {fd : FuncData} (F : FnP K "are_lots" s_are_lots f fd) (gx : mg "are_lots" = some (.ref f)) (k_MOST_LOTS : Con K mg "MOST_LOTS" q_MOST_LOTS) (k_MOST_WEIGHT : Con K mg "MOST_WEIGHT" q_MOST_WEIGHT) (z_len : mg "len" = none) :
    Cal P w K mg base "are_lots" 1 ["weights"] (runB 2 (m_are_lots)) :=
  cal_mk (k := 0) F sc_are_lots gx (fun _ _ _ _ _ _ us hl => match us, hl with | [_], _ => rfl) fun cdv A outer s H E hr tk hp =>
    (sx_cons (sx_if (et_not (et_chain m_le m_le ex_int (ex_callB c_len (by rfl) z_len bt_len (ea_cons (xv 0) ea_nil)) (ex_con k_MOST_LOTS))) (sx_one (sx_ret ex_bl)) sx_nil)
    (sx_cons (sx_for hp (by rfl) (ei_ex (xv 0)) (eg_name sc_are_lots.nd) (sx_one (sx_if (et_not (et_chain m_le m_le ex_int (xv 1) (ex_con k_MOST_WEIGHT))) (sx_one (sx_ret ex_bl)) sx_nil)))
    (sx_one (sx_ret ex_bl))))
def N_is_house : List PySem.Str := ["house", "word", "reader", "near", "lots", "modes", "mode", "question"]
theorem sc_is_house : FnScope N_is_house ["house"] (defScope s_is_house) := ⟨rfl, rfl, rfl, by decide +kernel, rfl, by decide +kernel, by decide +kernel⟩
def m_is_house (f_are_lots : FM) (f_is_question : FM) : SM := (sSeq (sAsg (gT 5 (gCs 1 (gCs 2 (gCs 3 (gCs 4 (gCs 5 gNil0)))))) (eVar 0))
    (sSeq (sIf (tOr (tBl (eBin oNe (eVar 1) (eC (.str [104, 111, 117, 115, 101])))) (tOr (HM.tNot (tVal (eCall 1 f_are_lots (aCons (eVar 4) aNil)))) (HM.tNot (tBl (eChain oLe oLe (eC (.int 1)) (eCB fLen (aCons (eVar 5) aNil)) (eC q_MOST_MODES)))))) (sRet (eC (.bl false))) sNil)
    (sSeq (sFor (iEx (eVar 5)) (gN 6) (sSeq (sIf (tBl (eBin oGt (eCB fLen (aCons (eVar 6) aNil)) (eC q_MOST_QUESTIONS))) (sRet (eC (.bl false))) sNil)
    (sFor (iEx (eVar 6)) (gN 7) (sIf (HM.tNot (tVal (eCall 4 f_is_question (aCons (eVar 7) (aCons (eCB fLen (aCons (eBin oIx (eVar 2) (eC (.int 1))) aNil)) (aCons (eCB fLen (aCons (eVar 4) aNil)) (aCons (eCB fLen (aCons (eVar 5) aNil)) aNil))))))) (sRet (eC (.bl false))) sNil))))
    (sRet (eC (.bl true))))))
theorem ok_is_house {P : Program} {w : World} {K : PySem.W.Frag} {mg : PySem.Str → Option Value} {base : Heap} {f : Addr} {fd : FuncData} {f_are_lots f_is_question : FM} (F : FnP K "is_house" s_is_house f fd) (gx : mg "is_house" = some (.ref f)) (c_are_lots : Cal P w K mg base "are_lots" 1 ["weights"] f_are_lots) (c_is_question : Cal P w K mg base "is_question" 2 ["question", "states", "lots", "modes"] f_is_question) (k_MOST_MODES : Con K mg "MOST_MODES" q_MOST_MODES) (k_MOST_QUESTIONS : Con K mg "MOST_QUESTIONS" q_MOST_QUESTIONS) (z_len : mg "len" = none) :
    Cal P w K mg base "is_house" 3 ["house"] (runB 8 (m_is_house f_are_lots f_is_question)) :=
  cal_mk (k := 2) F sc_is_house gx (fun _ _ _ _ _ _ us hl => match us, hl with | [_], _ => rfl) fun cdv A outer s H E hr tk hp =>
    (sx_cons (sx_asg (xv 0) (eg_tup (by rfl) (egs_cons sc_is_house.nd (egs_cons sc_is_house.nd (egs_cons sc_is_house.nd (egs_cons sc_is_house.nd (egs_cons sc_is_house.nd egs_nil)))))))
    (sx_cons (sx_if (Ew.et (ew_or (et_cmp (m_ne hr.units) (xv 1) (ex_strc [104, 111, 117, 115, 101] (by decide +kernel)) (nomark _)) (ew_or (et_not (et_val (ex_c1 c_are_lots tk hr (by decide) (ea_cons (xv 4) ea_nil)))) (ew_or1 (et_not (et_chain m_le m_le ex_int (ex_callB c_len (by rfl) z_len bt_len (ea_cons (xv 5) ea_nil)) (ex_con k_MOST_MODES))))))) (sx_one (sx_ret ex_bl)) sx_nil)
    (sx_cons (sx_for hp (by rfl) (ei_ex (xv 5)) (eg_name sc_is_house.nd) (sx_cons (sx_if (et_cmp m_gt (ex_callB c_len (by rfl) z_len bt_len (ea_cons (xv 6) ea_nil)) (ex_con k_MOST_QUESTIONS) (nomark _)) (sx_one (sx_ret ex_bl)) sx_nil)
    (sx_one (sx_for hp (by rfl) (ei_ex (xv 6)) (eg_name sc_is_house.nd) (sx_one (sx_if (et_not (et_val (ex_c1 c_is_question tk hr (by decide) (ea_cons (xv 7) (ea_cons (ex_callB c_len (by rfl) z_len bt_len (ea_cons (ex_ix m_ix (xv 2) ex_int) ea_nil)) (ea_cons (ex_callB c_len (by rfl) z_len bt_len (ea_cons (xv 4) ea_nil)) (ea_cons (ex_callB c_len (by rfl) z_len bt_len (ea_cons (xv 5) ea_nil)) ea_nil))))))) (sx_one (sx_ret ex_bl)) sx_nil))))))
    (sx_one (sx_ret ex_bl)))))
def N__law_begin : List PySem.Str := ["script", "cell"]
theorem sc__law_begin : FnScope N__law_begin ["script"] (defScope s__law_begin) := ⟨rfl, rfl, rfl, by decide +kernel, rfl, by decide +kernel, by decide +kernel⟩
def m__law_begin : SM := (sRet (eLst (aCons (eEl (lComp [1] (iEx (eVar 0)) (gN 1) tYes (eCB fInt (aCons (eVar 1) aNil)))) (aCons (eC (.int 0)) (aCons (eC (.int 0)) (aCons (eC (.int 7)) aNil))))))
theorem ok__law_begin {P : Program} {w : World} {K : PySem.W.Frag} {mg : PySem.Str → Option Value} {base : Heap} {f : Addr} {fd : FuncData} (F : FnP K "_law_begin" s__law_begin f fd) (gx : mg "_law_begin" = some (.ref f)) (z_int : mg "int" = none) :
    Cal P w K mg base "_law_begin" 1 ["script"] (runB 2 (m__law_begin)) :=
  cal_mk (k := 0) F sc__law_begin gx (fun _ _ _ _ _ _ us hl => match us, hl with | [_], _ => rfl) fun cdv A outer s H E hr tk hp =>
    (sx_one (sx_ret (ex_lst (ea_cons (ex_el (el_comp (own := [(("cell" : PySem.Str), 1)]) (by rfl) sc__law_begin.nd (ei_ex (xv 0)) (blkOk_by (N := N__law_begin) (sc := (defScope s__law_begin)) (by decide +kernel)) (fun _ _ _ _ _ => (eg_name sc__law_begin.nd)) (fun _ _ _ _ _ => ets_nil) (fun _ _ _ _ _ => (ex_callT c_int (by rfl) z_int bt_int (ea_cons (xv 1) ea_nil))))) (ea_cons ex_int (ea_cons ex_int (ea_cons ex_int ea_nil)))))))
def N__law_draw : List PySem.Str := ["d", "many", "found", "size", "cell"]
theorem sc__law_draw : FnScope N__law_draw ["d", "many"] (defScope s__law_draw) := ⟨rfl, rfl, rfl, by decide +kernel, rfl, by decide +kernel, by decide +kernel⟩
def m__law_draw : SM := (sSeq (sIf (tBl (eBin oGt (eBin oIx (eVar 0) (eC (.int 2))) (eC (.int 0)))) (sSeq (sSet 2 (eBin oIx (eVar 0) (eC (.int 2))))
    (sSeq (sSub (eVar 0) (eC (.int 2)) (eBin oDiv (eVar 2) (eVar 1)))
    (sRet (eBin oMod (eCB fInt (aCons (eVar 2) aNil)) (eVar 1))))) sNil)
    (sSeq (sSet 3 (eC (.int 0)))
    (sSeq (sIf (tBl (eBin oLt (eBin oIx (eVar 0) (eC (.int 1))) (eCB fLen (aCons (eBin oIx (eVar 0) (eC (.int 0))) aNil)))) (sSeq (sSet 4 (eBin oIx (eBin oIx (eVar 0) (eC (.int 0))) (eBin oIx (eVar 0) (eC (.int 1)))))
    (sSet 3 (eBin oAdd (eBin oMul (eC (.int 2)) (eCB fAbs (aCons (eVar 4) aNil))) (eCB fInt (aCons (eBin oLt (eVar 4) (eC (.int 0))) aNil))))) sNil)
    (sSeq (sAugS oIAdd (eVar 0) (eC (.int 1)) (eC (.int 1)))
    (sSeq (sIf (tBl (eBin oGe (eVar 3) (eBin oMul (eC (.int 2)) (eBin oPow (eC (.int 10)) (eC (.int 18)))))) (sSeq (sSet 2 (eBin oMod (eCB fInt (aCons (eBin oDiv (eVar 3) (eC (.int 2))) aNil)) (eBin oShl (eC (.int 1)) (eC (.int 6000)))))
    (sSeq (sSub (eVar 0) (eC (.int 2)) (eBin oDiv (eVar 2) (eVar 1)))
    (sRet (eBin oMod (eCB fInt (aCons (eVar 2) aNil)) (eVar 1))))) sNil)
    (sSeq (sSub (eVar 0) (eC (.int 3)) (eBin oMod (eCB fInt (aCons (eBin oAdd (eBin oAdd (eBin oAdd (eBin oMul (eBin oIx (eVar 0) (eC (.int 3))) (eC (.int 48271))) (eBin oMul (eBin oMod (eCB fInt (aCons (eVar 3) aNil)) (eC (.int 2147483629))) (eC (.int 16807)))) (eBin oMul (eBin oIx (eVar 0) (eC (.int 1))) (eC (.int 69621)))) (eC (.int 11))) aNil)) (eC (.int 2147483647))))
    (sRet (eBin oMod (eCB fInt (aCons (eBin oDiv (eBin oIx (eVar 0) (eC (.int 3))) (eC (.int 16))) aNil)) (eVar 1)))))))))
theorem ok__law_draw {P : Program} {w : World} {K : PySem.W.Frag} {mg : PySem.Str → Option Value} {base : Heap} {f : Addr} {fd : FuncData} (F : FnP K "_law_draw" s__law_draw f fd) (gx : mg "_law_draw" = some (.ref f)) (z_int : mg "int" = none) (z_len : mg "len" = none) (z_abs : mg "abs" = none) :
    Cal P w K mg base "_law_draw" 1 ["d", "many"] (runB 5 (m__law_draw)) :=
  cal_mk (k := 0) F sc__law_draw gx (fun _ _ _ _ _ _ us hl => match us, hl with | [_, _], _ => rfl) fun cdv A outer s H E hr tk hp =>
    (sx_cons (sx_if (et_cmp m_gt (ex_ix m_ix (xv 0) ex_int) ex_int (nomark _)) (sx_cons (sx_set sc__law_draw.nd (ex_ix m_ix (xv 0) ex_int))
    (sx_cons (sx_sub (ex_op m_div (xv 2) (xv 1)) (xv 0) ex_int)
    (sx_one (sx_ret (ex_op m_mod (ex_callT c_int (by rfl) z_int bt_int (ea_cons (xv 2) ea_nil)) (xv 1)))))) sx_nil)
    (sx_cons (sx_set sc__law_draw.nd ex_int)
    (sx_cons (sx_if (et_cmp m_lt (ex_ix m_ix (xv 0) ex_int) (ex_callB c_len (by rfl) z_len bt_len (ea_cons (ex_ix m_ix (xv 0) ex_int) ea_nil)) (nomark _)) (sx_cons (sx_set sc__law_draw.nd (ex_ix m_ix (ex_ix m_ix (xv 0) ex_int) (ex_ix m_ix (xv 0) ex_int)))
    (sx_one (sx_set sc__law_draw.nd (ex_op m_add (ex_op m_mul ex_int (ex_callB c_abs (by rfl) z_abs bt_abs (ea_cons (xv 4) ea_nil))) (ex_callT c_int (by rfl) z_int bt_int (ea_cons (ex_cmp m_lt (xv 4) ex_int (nomark _)) ea_nil)))))) sx_nil)
    (sx_cons (sx_augS (xv 0) ex_int ex_int mi_add)
    (sx_cons (sx_if (et_cmp m_ge (xv 3) (ex_op m_mul ex_int (ex_op m_pow ex_int ex_int)) (nomark _)) (sx_cons (sx_set sc__law_draw.nd (ex_op m_mod (ex_callT c_int (by rfl) z_int bt_int (ea_cons (ex_op m_div (xv 3) ex_int) ea_nil)) (ex_op m_shl ex_int ex_int)))
    (sx_cons (sx_sub (ex_op m_div (xv 2) (xv 1)) (xv 0) ex_int)
    (sx_one (sx_ret (ex_op m_mod (ex_callT c_int (by rfl) z_int bt_int (ea_cons (xv 2) ea_nil)) (xv 1)))))) sx_nil)
    (sx_cons (sx_sub (ex_op m_mod (ex_callT c_int (by rfl) z_int bt_int (ea_cons (ex_op m_add (ex_op m_add (ex_op m_add (ex_op m_mul (ex_ix m_ix (xv 0) ex_int) ex_int) (ex_op m_mul (ex_op m_mod (ex_callT c_int (by rfl) z_int bt_int (ea_cons (xv 3) ea_nil)) ex_int) ex_int)) (ex_op m_mul (ex_ix m_ix (xv 0) ex_int) ex_int)) ex_int) ea_nil)) ex_int) (xv 0) ex_int)
    (sx_one (sx_ret (ex_op m_mod (ex_callT c_int (by rfl) z_int bt_int (ea_cons (ex_op m_div (ex_ix m_ix (xv 0) ex_int) ex_int) ea_nil)) (xv 1))))))))))
def N__law_pick : List PySem.Str := ["d", "row"]
theorem sc__law_pick : FnScope N__law_pick ["d", "row"] (defScope s__law_pick) := ⟨rfl, rfl, rfl, by decide +kernel, rfl, by decide +kernel, by decide +kernel⟩
def m__law_pick (f__law_draw : FM) : SM := (sRet (eBin oIx (eVar 1) (eCall 2 f__law_draw (aCons (eVar 0) (aCons (eCB fLen (aCons (eVar 1) aNil)) aNil)))))
theorem ok__law_pick {P : Program} {w : World} {K : PySem.W.Frag} {mg : PySem.Str → Option Value} {base : Heap} {f : Addr} {fd : FuncData} {f__law_draw : FM} (F : FnP K "_law_pick" s__law_pick f fd) (gx : mg "_law_pick" = some (.ref f)) (c__law_draw : Cal P w K mg base "_law_draw" 1 ["d", "many"] f__law_draw) (z_len : mg "len" = none) :
    Cal P w K mg base "_law_pick" 2 ["d", "row"] (runB 2 (m__law_pick f__law_draw)) :=
  cal_mk (k := 1) F sc__law_pick gx (fun _ _ _ _ _ _ us hl => match us, hl with | [_, _], _ => rfl) fun cdv A outer s H E hr tk hp =>
    (sx_one (sx_ret (ex_ix m_ix (xv 1) (ex_c1 c__law_draw tk hr (by decide) (ea_cons (xv 0) (ea_cons (ex_callB c_len (by rfl) z_len bt_len (ea_cons (xv 1) ea_nil)) ea_nil))))))
def N__law_rare : List PySem.Str := ["d", "many"]
theorem sc__law_rare : FnScope N__law_rare ["d", "many"] (defScope s__law_rare) := ⟨rfl, rfl, rfl, by decide +kernel, rfl, by decide +kernel, by decide +kernel⟩
def m__law_rare (f__law_draw : FM) : SM := (sRet (eBin oEq (eCall 2 f__law_draw (aCons (eVar 0) (aCons (eVar 1) aNil))) (eBin oDiv (eVar 1) (eC (.int 2)))))
theorem ok__law_rare {P : Program} {w : World} {K : PySem.W.Frag} {mg : PySem.Str → Option Value} {base : Heap} {f : Addr} {fd : FuncData} {f__law_draw : FM} (F : FnP K "_law_rare" s__law_rare f fd) (gx : mg "_law_rare" = some (.ref f)) (c__law_draw : Cal P w K mg base "_law_draw" 1 ["d", "many"] f__law_draw) :
    Cal P w K mg base "_law_rare" 2 ["d", "many"] (runB 2 (m__law_rare f__law_draw)) :=
  cal_mk (k := 1) F sc__law_rare gx (fun _ _ _ _ _ _ us hl => match us, hl with | [_, _], _ => rfl) fun cdv A outer s H E hr tk hp =>
    (sx_one (sx_ret (ex_cmp (m_eq hr.units) (ex_c1 c__law_draw tk hr (by decide) (ea_cons (xv 0) (ea_cons (xv 1) ea_nil))) (ex_op m_div (xv 1) ex_int) (nomark _))))
def N__law_is_int : List PySem.Str := ["thing"]
theorem sc__law_is_int : FnScope N__law_is_int ["thing"] (defScope s__law_is_int) := ⟨rfl, rfl, rfl, by decide +kernel, rfl, by decide +kernel, by decide +kernel⟩
def m__law_is_int : SM := (sRet (eAnd (eCB fIsi (aCons (eVar 0) (aCons (eC (.ty "int")) aNil))) (eNot (eCB fIsi (aCons (eVar 0) (aCons (eC (.ty "bool")) aNil))))))
theorem ok__law_is_int {P : Program} {w : World} {K : PySem.W.Frag} {mg : PySem.Str → Option Value} {base : Heap} {f : Addr} {fd : FuncData} (F : FnP K "_law_is_int" s__law_is_int f fd) (gx : mg "_law_is_int" = some (.ref f)) (z_int : mg "int" = none) (z_isinstance : mg "isinstance" = none) (z_bool : mg "bool" = none) :
    Cal P w K mg base "_law_is_int" 1 ["thing"] (runB 1 (m__law_is_int)) :=
  cal_mk (k := 0) F sc__law_is_int gx (fun _ _ _ _ _ _ us hl => match us, hl with | [_], _ => rfl) fun cdv A outer s H E hr tk hp =>
    (sx_one (sx_ret (ex_and (ex_callB c_isi (by rfl) z_isinstance bt_isinstance (ea_cons (xv 0) (ea_cons (ex_bltn (by rfl) z_int bt_int (by rfl) (fun _ _ => .ty _)) ea_nil))) (ex_one (ex_not (ex_callB c_isi (by rfl) z_isinstance bt_isinstance (ea_cons (xv 0) (ea_cons (ex_bltn (by rfl) z_bool bt_bool (by rfl) (fun _ _ => .ty _)) ea_nil))))))))
def N__law_is_ints : List PySem.Str := ["row", "part"]
theorem sc__law_is_ints : FnScope N__law_is_ints ["row"] (defScope s__law_is_ints) := ⟨rfl, rfl, rfl, by decide +kernel, rfl, by decide +kernel, by decide +kernel⟩
def m__law_is_ints (f__law_is_int : FM) : SM := (sRet (eAnd (eCB fIsi (aCons (eVar 0) (aCons (eC (.ty "tuple")) aNil))) (eCS gAllB (lComp [1] (iEx (eVar 0)) (gN 1) tYes (eCall 1 f__law_is_int (aCons (eVar 1) aNil))))))
theorem ok__law_is_ints {P : Program} {w : World} {K : PySem.W.Frag} {mg : PySem.Str → Option Value} {base : Heap} {f : Addr} {fd : FuncData} {f__law_is_int : FM} (F : FnP K "_law_is_ints" s__law_is_ints f fd) (gx : mg "_law_is_ints" = some (.ref f)) (c__law_is_int : Cal P w K mg base "_law_is_int" 1 ["thing"] f__law_is_int) (z_tuple : mg "tuple" = none) (z_isinstance : mg "isinstance" = none) (z_all : mg "all" = none) :
    Cal P w K mg base "_law_is_ints" 2 ["row"] (runB 2 (m__law_is_ints f__law_is_int)) :=
  cal_mk (k := 1) F sc__law_is_ints gx (fun _ _ _ _ _ _ us hl => match us, hl with | [_], _ => rfl) fun cdv A outer s H E hr tk hp =>
    (sx_one (sx_ret (ex_and (ex_callB c_isi (by rfl) z_isinstance bt_isinstance (ea_cons (xv 0) (ea_cons (ex_bltn (by rfl) z_tuple bt_tuple (by rfl) (fun _ _ => .ty _)) ea_nil))) (ex_one (ex_callBl (s_all (by rfl)) (by rfl) z_all bt_all (esl_el (el_comp (own := [(("part" : PySem.Str), 1)]) (by rfl) sc__law_is_ints.nd (ei_ex (xv 0)) (blkOk_by (N := N__law_is_ints) (sc := (defScope s__law_is_ints)) (by decide +kernel)) (fun _ _ _ _ _ => (eg_name sc__law_is_ints.nd)) (fun _ _ _ _ _ => ets_nil) (fun _ _ _ _ _ => (ex_c1 c__law_is_int tk0 hr (by decide) (ea_cons (xv 1) ea_nil))))))))))
def N__law_all_edits : List PySem.Str := ["kinds", "found", "k", "other"]
theorem sc__law_all_edits : FnScope N__law_all_edits ["kinds"] (defScope s__law_all_edits) := ⟨rfl, rfl, rfl, by decide +kernel, rfl, by decide +kernel, by decide +kernel⟩
def m__law_all_edits : SM := (sSeq (sSet 1 (eBin oAdd (eEl (lComp [2] (iRg1 (eVar 0)) (gN 2) tYes (eTup (aCons (eC (.str [99, 117, 116])) (aCons (eVar 2) aNil))))) (eEl (lComp [2] (iRg1 (eVar 0)) (gN 2) tYes (eTup (aCons (eC (.str [112, 117, 116])) (aCons (eVar 2) aNil)))))))
    (sSeq (sFor (iRg1 (eVar 0)) (gN 2) (sExpr (eM "list" mExtend (eVar 1) (aCons (eEl (lComp [3] (iRg1 (eVar 0)) (gN 3) (tBl (eBin oNe (eVar 3) (eVar 2))) (eTup (aCons (eC (.str [116, 117, 114, 110])) (aCons (eVar 2) (aCons (eVar 3) aNil)))))) aNil))))
    (sRet (eCB fTuple (aCons (eVar 1) aNil)))))
theorem ok__law_all_edits {P : Program} {w : World} {K : PySem.W.Frag} {mg : PySem.Str → Option Value} {base : Heap} {f : Addr} {fd : FuncData} (F : FnP K "_law_all_edits" s__law_all_edits f fd) (gx : mg "_law_all_edits" = some (.ref f)) (z_range : mg "range" = none) (z_tuple : mg "tuple" = none) :
    Cal P w K mg base "_law_all_edits" 1 ["kinds"] (runB 4 (m__law_all_edits)) :=
  cal_mk (k := 0) F sc__law_all_edits gx (fun _ _ _ _ _ _ us hl => match us, hl with | [_], _ => rfl) fun cdv A outer s H E hr tk hp =>
    (sx_cons (sx_set sc__law_all_edits.nd (ex_op m_add (ex_el (el_comp (own := [(("k" : PySem.Str), 2)]) (by rfl) sc__law_all_edits.nd (ei_range1 (by rfl) z_range (xv 0)) (blkOk_by (N := N__law_all_edits) (sc := (defScope s__law_all_edits)) (by decide +kernel)) (fun _ _ _ _ _ => (eg_name sc__law_all_edits.nd)) (fun _ _ _ _ _ => ets_nil) (fun _ _ _ _ _ => (ex_tup (ea_cons (ex_strc [99, 117, 116] (by decide +kernel)) (ea_cons (xv 2) ea_nil)))))) (ex_el (el_comp (own := [(("k" : PySem.Str), 2)]) (by rfl) sc__law_all_edits.nd (ei_range1 (by rfl) z_range (xv 0)) (blkOk_by (N := N__law_all_edits) (sc := (defScope s__law_all_edits)) (by decide +kernel)) (fun _ _ _ _ _ => (eg_name sc__law_all_edits.nd)) (fun _ _ _ _ _ => ets_nil) (fun _ _ _ _ _ => (ex_tup (ea_cons (ex_strc [112, 117, 116] (by decide +kernel)) (ea_cons (xv 2) ea_nil))))))))
    (sx_cons (sx_for hp (by rfl) (ei_range1 (by rfl) z_range (xv 0)) (eg_name sc__law_all_edits.nd) (sx_one (sx_expr (ex_m PySem.F.plainAttrs_list PySem.F.slot_list_extend PySem.F.type_list_extend me_extend (xv 1) (ea_cons (ex_el (el_comp (own := [(("other" : PySem.Str), 3)]) (by rfl) sc__law_all_edits.nd (ei_range1 (by rfl) z_range (xv 0)) (blkOk_by (N := N__law_all_edits) (sc := (defScope s__law_all_edits)) (by decide +kernel)) (fun _ _ _ _ _ => (eg_name sc__law_all_edits.nd)) (fun _ _ _ _ _ => (ets_one (et_cmp (m_ne hr.units) (xv 3) (xv 2) (nomark _)))) (fun _ _ _ _ _ => (ex_tup (ea_cons (ex_strc [116, 117, 114, 110] (by decide +kernel)) (ea_cons (xv 2) (ea_cons (xv 3) ea_nil))))))) ea_nil)))))
    (sx_one (sx_ret (ex_callT c_tuple (by rfl) z_tuple bt_tuple (ea_cons (xv 1) ea_nil))))))
def N__law_near : List PySem.Str := ["d", "kinds", "whole", "style", "found", "edit"]
theorem sc__law_near : FnScope N__law_near ["d", "kinds"] (defScope s__law_near) := ⟨rfl, rfl, rfl, by decide +kernel, rfl, by decide +kernel, by decide +kernel⟩
def m__law_near (f__law_all_edits : FM) (f__law_draw : FM) : SM := (sSeq (sSet 2 (eCall 1 f__law_all_edits (aCons (eVar 1) aNil)))
    (sSeq (sSet 3 (eCall 2 f__law_draw (aCons (eVar 0) (aCons (eC (.int 5)) aNil))))
    (sSeq (sIf (tBl (eBin oEq (eVar 3) (eC (.int 0)))) (sRet (eVar 2)) sNil)
    (sSeq (sIf (tBl (eBin oEq (eVar 3) (eC (.int 1)))) (sRet (eCS gTuple (lComp [5] (iEx (eVar 2)) (gN 5) (tBl (eBin oNe (eBin oIx (eVar 5) (eC (.int 0))) (eC (.str [116, 117, 114, 110])))) (eVar 5)))) sNil)
    (sSeq (sIf (tBl (eBin oEq (eVar 3) (eC (.int 2)))) (sRet (eCS gTuple (lComp [5] (iEx (eVar 2)) (gN 5) (tBl (eBin oEq (eBin oIx (eVar 5) (eC (.int 0))) (eC (.str [116, 117, 114, 110])))) (eVar 5)))) sNil)
    (sSeq (sSet 4 (eLst aNil))
    (sSeq (sFor (iEx (eVar 2)) (gN 5) (sIf (tBl (eBin oLt (eCall 2 f__law_draw (aCons (eVar 0) (aCons (eC (.int 3)) aNil))) (eC (.int 2)))) (sExpr (eM "list" mAppend (eVar 4) (aCons (eVar 5) aNil))) sNil))
    (sRet (eCB fTuple (aCons (eVar 4) aNil))))))))))
theorem ok__law_near {P : Program} {w : World} {K : PySem.W.Frag} {mg : PySem.Str → Option Value} {base : Heap} {f : Addr} {fd : FuncData} {f__law_all_edits f__law_draw : FM} (F : FnP K "_law_near" s__law_near f fd) (gx : mg "_law_near" = some (.ref f)) (c__law_all_edits : Cal P w K mg base "_law_all_edits" 1 ["kinds"] f__law_all_edits) (c__law_draw : Cal P w K mg base "_law_draw" 1 ["d", "many"] f__law_draw) (z_tuple : mg "tuple" = none) :
    Cal P w K mg base "_law_near" 2 ["d", "kinds"] (runB 6 (m__law_near f__law_all_edits f__law_draw)) :=
  cal_mk (k := 1) F sc__law_near gx (fun _ _ _ _ _ _ us hl => match us, hl with | [_, _], _ => rfl) fun cdv A outer s H E hr tk hp =>
    (sx_cons (sx_set sc__law_near.nd (ex_c1 c__law_all_edits tk hr (by decide) (ea_cons (xv 1) ea_nil)))
    (sx_cons (sx_set sc__law_near.nd (ex_c1 c__law_draw tk hr (by decide) (ea_cons (xv 0) (ea_cons ex_int ea_nil))))
    (sx_cons (sx_if (et_cmp (m_eq hr.units) (xv 3) ex_int (nomark _)) (sx_one (sx_ret (xv 2))) sx_nil)
    (sx_cons (sx_if (et_cmp (m_eq hr.units) (xv 3) ex_int (nomark _)) (sx_one (sx_ret (ex_callTs s_tuple (by rfl) z_tuple bt_tuple (es_el (el_comp (own := [(("edit" : PySem.Str), 5)]) (by rfl) sc__law_near.nd (ei_ex (xv 2)) (blkOk_by (N := N__law_near) (sc := (defScope s__law_near)) (by decide +kernel)) (fun _ _ _ _ _ => (eg_name sc__law_near.nd)) (fun _ _ _ _ _ => (ets_one (et_cmp (m_ne hr.units) (ex_ix m_ix (xv 5) ex_int) (ex_strc [116, 117, 114, 110] (by decide +kernel)) (nomark _)))) (fun _ _ _ _ _ => (xv 5))))))) sx_nil)
    (sx_cons (sx_if (et_cmp (m_eq hr.units) (xv 3) ex_int (nomark _)) (sx_one (sx_ret (ex_callTs s_tuple (by rfl) z_tuple bt_tuple (es_el (el_comp (own := [(("edit" : PySem.Str), 5)]) (by rfl) sc__law_near.nd (ei_ex (xv 2)) (blkOk_by (N := N__law_near) (sc := (defScope s__law_near)) (by decide +kernel)) (fun _ _ _ _ _ => (eg_name sc__law_near.nd)) (fun _ _ _ _ _ => (ets_one (et_cmp (m_eq hr.units) (ex_ix m_ix (xv 5) ex_int) (ex_strc [116, 117, 114, 110] (by decide +kernel)) (nomark _)))) (fun _ _ _ _ _ => (xv 5))))))) sx_nil)
    (sx_cons (sx_set sc__law_near.nd (ex_lst ea_nil))
    (sx_cons (sx_for hp (by rfl) (ei_ex (xv 2)) (eg_name sc__law_near.nd) (sx_one (sx_if (et_cmp m_lt (ex_c1 c__law_draw tk hr (by decide) (ea_cons (xv 0) (ea_cons ex_int ea_nil))) ex_int (nomark _)) (sx_one (sx_expr (ex_m PySem.F.plainAttrs_list PySem.F.slot_list_append PySem.F.type_list_append me_append (xv 4) (ea_cons (xv 5) ea_nil)))) sx_nil)))
    (sx_one (sx_ret (ex_callT c_tuple (by rfl) z_tuple bt_tuple (ea_cons (xv 4) ea_nil)))))))))))
def N__law_reader : List PySem.Str := ["d", "kinds", "states", "rows", "s", "t", "k", "row"]
theorem sc__law_reader : FnScope N__law_reader ["d", "kinds", "states"] (defScope s__law_reader) := ⟨rfl, rfl, rfl, by decide +kernel, rfl, by decide +kernel, by decide +kernel⟩
def m__law_reader (f__law_draw : FM) : SM := (sSeq (sSet 3 (eEl (lComp [4] (iRg1 (eVar 2)) (gN 4) tYes (eEl (lComp [6] (iRg1 (eVar 1)) (gN 6) tYes (eCall 2 f__law_draw (aCons (eVar 0) (aCons (eVar 2) aNil))))))))
    (sSeq (sFor (iRg2 (eC (.int 1)) (eVar 2)) (gN 4) (sSeq (sSet 5 (eCall 2 f__law_draw (aCons (eVar 0) (aCons (eVar 4) aNil))))
    (sSub (eBin oIx (eVar 3) (eVar 5)) (eCall 2 f__law_draw (aCons (eVar 0) (aCons (eVar 1) aNil))) (eVar 4))))
    (sRet (eTup (aCons (eC (.str [114, 101, 97, 100, 101, 114])) (aCons (eCS gTuple (lComp [7] (iEx (eVar 3)) (gN 7) tYes (eCB fTuple (aCons (eVar 7) aNil)))) aNil))))))
theorem ok__law_reader {P : Program} {w : World} {K : PySem.W.Frag} {mg : PySem.Str → Option Value} {base : Heap} {f : Addr} {fd : FuncData} {f__law_draw : FM} (F : FnP K "_law_reader" s__law_reader f fd) (gx : mg "_law_reader" = some (.ref f)) (c__law_draw : Cal P w K mg base "_law_draw" 1 ["d", "many"] f__law_draw) (z_range : mg "range" = none) (z_tuple : mg "tuple" = none) :
    Cal P w K mg base "_law_reader" 2 ["d", "kinds", "states"] (runB 8 (m__law_reader f__law_draw)) :=
  cal_mk (k := 1) F sc__law_reader gx (fun _ _ _ _ _ _ us hl => match us, hl with | [_, _, _], _ => rfl) fun cdv A outer s H E hr tk hp =>
    (sx_cons (sx_setLc (own := [(("s" : PySem.Str), 4)]) (by rfl) sc__law_reader.nd (ei_range1 (by rfl) z_range (xv 2)) (blkOk_by (N := N__law_reader) (sc := (defScope s__law_reader)) (by decide +kernel)) (fun _ _ _ _ _ => (eg_name sc__law_reader.nd)) (fun _ _ _ _ _ => ets_nil) (fun _ _ _ _ _ => (ex_el (el_comp (own := [(("k" : PySem.Str), 6)]) (by rfl) sc__law_reader.nd (ei_range1 (by rfl) z_range (xv 1)) (blkOk_by (by kernel_rfl)) (fun _ _ _ _ _ => (eg_name sc__law_reader.nd)) (fun _ _ _ _ _ => ets_nil) (fun _ _ _ _ _ => (ex_c1 c__law_draw tk0 hr (by decide) (ea_cons (xv 0) (ea_cons (xv 2) ea_nil))))))))
    (sx_cons (sx_for hp (by rfl) (ei_range2 (by rfl) z_range ex_int (xv 2)) (eg_name sc__law_reader.nd) (sx_cons (sx_set sc__law_reader.nd (ex_c1 c__law_draw tk hr (by decide) (ea_cons (xv 0) (ea_cons (xv 4) ea_nil))))
    (sx_one (sx_sub (xv 4) (ex_ix m_ix (xv 3) (xv 5)) (ex_c1 c__law_draw tk hr (by decide) (ea_cons (xv 0) (ea_cons (xv 1) ea_nil)))))))
    (sx_one (sx_ret (ex_tup (ea_cons (ex_strc [114, 101, 97, 100, 101, 114] (by decide +kernel)) (ea_cons (ex_callTs s_tuple (by rfl) z_tuple bt_tuple (es_el (el_comp (own := [(("row" : PySem.Str), 7)]) (by rfl) sc__law_reader.nd (ei_ex (xv 3)) (blkOk_by (N := N__law_reader) (sc := (defScope s__law_reader)) (by decide +kernel)) (fun _ _ _ _ _ => (eg_name sc__law_reader.nd)) (fun _ _ _ _ _ => ets_nil) (fun _ _ _ _ _ => (ex_callT c_tuple (by rfl) z_tuple bt_tuple (ea_cons (xv 7) ea_nil)))))) ea_nil)))))))
def N__law_put : List PySem.Str := ["row", "at", "part"]
theorem sc__law_put : FnScope N__law_put ["row", "at", "part"] (defScope s__law_put) := ⟨rfl, rfl, rfl, by decide +kernel, rfl, by decide +kernel, by decide +kernel⟩
def m__law_put : SM := (sRet (eBin oAdd (eBin oAdd (eSl (eVar 0) oNone (oSome (eVar 1))) (eTup (aCons (eVar 2) aNil))) (eSl (eVar 0) (oSome (eBin oAdd (eVar 1) (eC (.int 1)))) oNone)))
theorem ok__law_put {P : Program} {w : World} {K : PySem.W.Frag} {mg : PySem.Str → Option Value} {base : Heap} {f : Addr} {fd : FuncData} (F : FnP K "_law_put" s__law_put f fd) (gx : mg "_law_put" = some (.ref f))  :
    Cal P w K mg base "_law_put" 1 ["row", "at", "part"] (runB 3 (m__law_put)) :=
  cal_mk (k := 0) F sc__law_put gx (fun _ _ _ _ _ _ us hl => match us, hl with | [_, _, _], _ => rfl) fun cdv A outer s H E hr tk hp =>
    (sx_one (sx_ret (ex_op m_add (ex_op m_add (ex_sl (xv 0) eo_none (eo_some (xv 1))) (ex_tup (ea_cons (xv 2) ea_nil))) (ex_sl (xv 0) (eo_some (ex_op m_add (xv 1) ex_int)) eo_none))))
def N__law_weight : List PySem.Str := ["d", "wide"]
theorem sc__law_weight : FnScope N__law_weight ["d", "wide"] (defScope s__law_weight) := ⟨rfl, rfl, rfl, by decide +kernel, rfl, by decide +kernel, by decide +kernel⟩
def m__law_weight (f__law_draw : FM) (f__law_pick : FM) : SM := (sSeq (sIf (tAnd (tVal (eVar 1)) (tBl (eBin oEq (eCall 2 f__law_draw (aCons (eVar 0) (aCons (eC (.int 3)) aNil))) (eC (.int 1))))) (sRet (eCall 2 f__law_pick (aCons (eVar 0) (aCons (eLst (aCons (eBin oPow (eC (.int 10)) (eC (.int 40))) (aCons (eBin oSub (eBin oPow (eC (.int 10)) (eC (.int 40))) (eC (.int 1))) (aCons (eBin oAdd (eBin oPow (eC (.int 10)) (eC (.int 39))) (eC (.int 7))) (aCons (eBin oPow (eC (.int 10)) (eC (.int 20))) aNil))))) aNil)))) sNil)
    (sRet (eBin oAdd (eC (.int 1)) (eCall 2 f__law_draw (aCons (eVar 0) (aCons (eC (.int 9)) aNil))))))
theorem ok__law_weight {P : Program} {w : World} {K : PySem.W.Frag} {mg : PySem.Str → Option Value} {base : Heap} {f : Addr} {fd : FuncData} {f__law_draw f__law_pick : FM} (F : FnP K "_law_weight" s__law_weight f fd) (gx : mg "_law_weight" = some (.ref f)) (c__law_draw : Cal P w K mg base "_law_draw" 1 ["d", "many"] f__law_draw) (c__law_pick : Cal P w K mg base "_law_pick" 2 ["d", "row"] f__law_pick) :
    Cal P w K mg base "_law_weight" 3 ["d", "wide"] (runB 2 (m__law_weight f__law_draw f__law_pick)) :=
  cal_mk (k := 2) F sc__law_weight gx (fun _ _ _ _ _ _ us hl => match us, hl with | [_, _], _ => rfl) fun cdv A outer s H E hr tk hp =>
    (sx_cons (sx_if (Ew.et (ew_and (et_val (xv 1)) (ew_and1 (et_cmp (m_eq hr.units) (ex_c1 c__law_draw tk hr (by decide) (ea_cons (xv 0) (ea_cons ex_int ea_nil))) ex_int (nomark _))))) (sx_one (sx_ret (ex_c1 c__law_pick tk hr (by decide) (ea_cons (xv 0) (ea_cons (ex_lst (ea_cons (ex_op m_pow ex_int ex_int) (ea_cons (ex_op m_sub (ex_op m_pow ex_int ex_int) ex_int) (ea_cons (ex_op m_add (ex_op m_pow ex_int ex_int) ex_int) (ea_cons (ex_op m_pow ex_int ex_int) ea_nil))))) ea_nil))))) sx_nil)
    (sx_one (sx_ret (ex_op m_add ex_int (ex_c1 c__law_draw tk hr (by decide) (ea_cons (xv 0) (ea_cons ex_int ea_nil)))))))
def N__law_weights : List PySem.Str := ["d", "many", "wide", "found", "k"]
theorem sc__law_weights : FnScope N__law_weights ["d", "many", "wide"] (defScope s__law_weights) := ⟨rfl, rfl, rfl, by decide +kernel, rfl, by decide +kernel, by decide +kernel⟩
def m__law_weights (f__law_weight : FM) (f__law_draw : FM) : SM := (sSeq (sSet 3 (eEl (lComp [4] (iRg1 (eVar 1)) (gN 4) tYes (eCall 2 f__law_weight (aCons (eVar 0) (aCons (eVar 2) aNil))))))
    (sSeq (sFor (iRg1 (eVar 1)) (gN 4) (sIf (tBl (eBin oEq (eCall 2 f__law_draw (aCons (eVar 0) (aCons (eC (.int 5)) aNil))) (eC (.int 2)))) (sSub (eVar 3) (eVar 4) (eC (.int 0))) sNil))
    (sSeq (sIf (tBl (eBin oEq (eCS gSum (sEx (eVar 3))) (eC (.int 0)))) (sSub (eVar 3) (eCall 2 f__law_draw (aCons (eVar 0) (aCons (eVar 1) aNil))) (eCall 2 f__law_weight (aCons (eVar 0) (aCons (eVar 2) aNil)))) sNil)
    (sRet (eCB fTuple (aCons (eVar 3) aNil))))))
theorem ok__law_weights {P : Program} {w : World} {K : PySem.W.Frag} {mg : PySem.Str → Option Value} {base : Heap} {f : Addr} {fd : FuncData} {f__law_weight f__law_draw : FM} (F : FnP K "_law_weights" s__law_weights f fd) (gx : mg "_law_weights" = some (.ref f)) (c__law_weight : Cal P w K mg base "_law_weight" 3 ["d", "wide"] f__law_weight) (c__law_draw : Cal P w K mg base "_law_draw" 1 ["d", "many"] f__law_draw) (z_range : mg "range" = none) (z_sum : mg "sum" = none) (z_tuple : mg "tuple" = none) :
    Cal P w K mg base "_law_weights" 4 ["d", "many", "wide"] (runB 5 (m__law_weights f__law_weight f__law_draw)) :=
  cal_mk (k := 3) F sc__law_weights gx (fun _ _ _ _ _ _ us hl => match us, hl with | [_, _, _], _ => rfl) fun cdv A outer s H E hr tk hp =>
    (sx_cons (sx_setLc (own := [(("k" : PySem.Str), 4)]) (by rfl) sc__law_weights.nd (ei_range1 (by rfl) z_range (xv 1)) (blkOk_by (N := N__law_weights) (sc := (defScope s__law_weights)) (by decide +kernel)) (fun _ _ _ _ _ => (eg_name sc__law_weights.nd)) (fun _ _ _ _ _ => ets_nil) (fun _ _ _ _ _ => (ex_c1 c__law_weight tk0 hr (by decide) (ea_cons (xv 0) (ea_cons (xv 2) ea_nil)))))
    (sx_cons (sx_for hp (by rfl) (ei_range1 (by rfl) z_range (xv 1)) (eg_name sc__law_weights.nd) (sx_one (sx_if (et_cmp (m_eq hr.units) (ex_c1 c__law_draw tk hr (by decide) (ea_cons (xv 0) (ea_cons ex_int ea_nil))) ex_int (nomark _)) (sx_one (sx_sub ex_int (xv 3) (xv 4))) sx_nil)))
    (sx_cons (sx_if (et_cmp (m_eq hr.units) (ex_callBs (s_sum (by rfl)) (by rfl) z_sum bt_sum (es_ex (xv 3))) ex_int (nomark _)) (sx_one (sx_sub (ex_c1 c__law_weight tk hr (by decide) (ea_cons (xv 0) (ea_cons (xv 2) ea_nil))) (xv 3) (ex_c1 c__law_draw tk hr (by decide) (ea_cons (xv 0) (ea_cons (xv 1) ea_nil))))) sx_nil)
    (sx_one (sx_ret (ex_callT c_tuple (by rfl) z_tuple bt_tuple (ea_cons (xv 3) ea_nil)))))))
def N__law_one_question : List PySem.Str := ["d", "states", "sizes", "many", "wide", "goes", "rows", "a", "s", "h"]
theorem sc__law_one_question : FnScope N__law_one_question ["d", "states", "sizes", "many", "wide"] (defScope s__law_one_question) := ⟨rfl, rfl, rfl, by decide +kernel, rfl, by decide +kernel, by decide +kernel⟩
def m__law_one_question (f__law_draw : FM) (f__law_weights : FM) : SM := (sSeq (sSet 5 (eCS gTuple (lComp [7] (iRg1 (eVar 3)) (gN 7) tYes (eTup (aCons (eCall 2 f__law_draw (aCons (eVar 0) (aCons (eBin oIx (eVar 2) (eC (.int 1))) aNil))) (aCons (eCall 2 f__law_draw (aCons (eVar 0) (aCons (eC (.int 2)) aNil))) aNil))))))
    (sSeq (sIf (tBl (eBin oEq (eCall 2 f__law_draw (aCons (eVar 0) (aCons (eC (.int 2)) aNil))) (eC (.int 1)))) (sSeq (sSet 6 (eEl (lComp [8] (iRg1 (eVar 1)) (gN 8) tYes (eCS gTuple (lComp [9] (iRg1 (eBin oIx (eVar 2) (eC (.int 0)))) (gN 9) tYes (eCall 2 f__law_draw (aCons (eVar 0) (aCons (eVar 3) aNil))))))))
    (sRet (eTup (aCons (eC (.str [100, 114, 97, 119, 110])) (aCons (eCB fTuple (aCons (eVar 6) aNil)) (aCons (eVar 5) aNil)))))) sNil)
    (sRet (eTup (aCons (eC (.str [115, 104, 111, 119, 110])) (aCons (eCS gTuple (lComp [8] (iRg1 (eVar 1)) (gN 8) tYes (eCall 3 f__law_weights (aCons (eVar 0) (aCons (eVar 3) (aCons (eVar 4) aNil)))))) (aCons (eVar 5) aNil)))))))
theorem ok__law_one_question {P : Program} {w : World} {K : PySem.W.Frag} {mg : PySem.Str → Option Value} {base : Heap} {f : Addr} {fd : FuncData} {f__law_draw f__law_weights : FM} (F : FnP K "_law_one_question" s__law_one_question f fd) (gx : mg "_law_one_question" = some (.ref f)) (c__law_draw : Cal P w K mg base "_law_draw" 1 ["d", "many"] f__law_draw) (c__law_weights : Cal P w K mg base "_law_weights" 4 ["d", "many", "wide"] f__law_weights) (z_range : mg "range" = none) (z_tuple : mg "tuple" = none) :
    Cal P w K mg base "_law_one_question" 5 ["d", "states", "sizes", "many", "wide"] (runB 10 (m__law_one_question f__law_draw f__law_weights)) :=
  cal_mk (k := 4) F sc__law_one_question gx (fun _ _ _ _ _ _ us hl => match us, hl with | [_, _, _, _, _], _ => rfl) fun cdv A outer s H E hr tk hp =>
    (sx_cons (sx_set sc__law_one_question.nd (ex_callTs s_tuple (by rfl) z_tuple bt_tuple (es_el (el_comp (own := [(("a" : PySem.Str), 7)]) (by rfl) sc__law_one_question.nd (ei_range1 (by rfl) z_range (xv 3)) (blkOk_by (N := N__law_one_question) (sc := (defScope s__law_one_question)) (by decide +kernel)) (fun _ _ _ _ _ => (eg_name sc__law_one_question.nd)) (fun _ _ _ _ _ => ets_nil) (fun _ _ _ _ _ => (ex_tup (ea_cons (ex_c1 c__law_draw tk0 hr (by decide) (ea_cons (xv 0) (ea_cons (ex_ix m_ix (xv 2) ex_int) ea_nil))) (ea_cons (ex_c1 c__law_draw tk0 hr (by decide) (ea_cons (xv 0) (ea_cons ex_int ea_nil))) ea_nil))))))))
    (sx_cons (sx_if (et_cmp (m_eq hr.units) (ex_c1 c__law_draw tk hr (by decide) (ea_cons (xv 0) (ea_cons ex_int ea_nil))) ex_int (nomark _)) (sx_cons (sx_setLc (own := [(("s" : PySem.Str), 8)]) (by rfl) sc__law_one_question.nd (ei_range1 (by rfl) z_range (xv 1)) (blkOk_by (N := N__law_one_question) (sc := (defScope s__law_one_question)) (by decide +kernel)) (fun _ _ _ _ _ => (eg_name sc__law_one_question.nd)) (fun _ _ _ _ _ => ets_nil) (fun _ _ _ _ _ => (ex_callTs s_tuple (by rfl) z_tuple bt_tuple (es_el (el_comp (own := [(("h" : PySem.Str), 9)]) (by rfl) sc__law_one_question.nd (ei_range1 (by rfl) z_range (ex_ix m_ix (xv 2) ex_int)) (blkOk_by (by kernel_rfl)) (fun _ _ _ _ _ => (eg_name sc__law_one_question.nd)) (fun _ _ _ _ _ => ets_nil) (fun _ _ _ _ _ => (ex_c1 c__law_draw tk0 hr (by decide) (ea_cons (xv 0) (ea_cons (xv 3) ea_nil)))))))))
    (sx_one (sx_ret (ex_tup (ea_cons (ex_strc [100, 114, 97, 119, 110] (by decide +kernel)) (ea_cons (ex_callT c_tuple (by rfl) z_tuple bt_tuple (ea_cons (xv 6) ea_nil)) (ea_cons (xv 5) ea_nil))))))) sx_nil)
    (sx_one (sx_ret (ex_tup (ea_cons (ex_strc [115, 104, 111, 119, 110] (by decide +kernel)) (ea_cons (ex_callTs s_tuple (by rfl) z_tuple bt_tuple (es_el (el_comp (own := [(("s" : PySem.Str), 8)]) (by rfl) sc__law_one_question.nd (ei_range1 (by rfl) z_range (xv 1)) (blkOk_by (N := N__law_one_question) (sc := (defScope s__law_one_question)) (by decide +kernel)) (fun _ _ _ _ _ => (eg_name sc__law_one_question.nd)) (fun _ _ _ _ _ => ets_nil) (fun _ _ _ _ _ => (ex_c1 c__law_weights tk0 hr (by decide) (ea_cons (xv 0) (ea_cons (xv 3) (ea_cons (xv 4) ea_nil)))))))) (ea_cons (xv 5) ea_nil))))))))
def N__law_world : List PySem.Str := ["d", "reader", "near", "sizes", "wide", "states", "full", "modes", "mode", "row", "x", "many", "h"]
theorem sc__law_world : FnScope N__law_world ["d", "reader", "near", "sizes", "wide"] (defScope s__law_world) := ⟨rfl, rfl, rfl, by decide +kernel, rfl, by decide +kernel, by decide +kernel⟩
def m__law_world (f__law_draw : FM) (f__law_one_question : FM) (f__law_weight : FM) : SM := (sSeq (sSet 5 (eCB fLen (aCons (eBin oIx (eVar 1) (eC (.int 1))) aNil)))
    (sSeq (sSet 6 (eCall 2 f__law_draw (aCons (eVar 0) (aCons (eBin oIx (eVar 3) (eC (.int 1))) aNil))))
    (sSeq (sSet 7 (eLst aNil))
    (sSeq (sFor (iRg1 (eBin oIx (eVar 3) (eC (.int 1)))) (gN 8) (sSeq (sSet 9 (eLst aNil))
    (sSeq (sFor (iRg1 (eIf (tBl (eBin oEq (eVar 8) (eVar 6))) (eBin oIx (eVar 3) (eC (.int 2))) (eCall 2 f__law_draw (aCons (eVar 0) (aCons (eBin oAdd (eCB fMin2 (aCons (eBin oIx (eVar 3) (eC (.int 2))) (aCons (eC (.int 3)) aNil))) (eC (.int 1))) aNil))))) (gN 10) (sSeq (sSet 11 (eIf (tAnd (tBl (eBin oEq (eVar 8) (eVar 6))) (tBl (eBin oEq (eVar 10) (eC (.int 0))))) (eBin oIx (eVar 3) (eC (.int 3))) (eBin oAdd (eC (.int 1)) (eCall 2 f__law_draw (aCons (eVar 0) (aCons (eCB fMin2 (aCons (eBin oIx (eVar 3) (eC (.int 3))) (aCons (eC (.int 4)) aNil))) aNil))))))
    (sExpr (eM "list" mAppend (eVar 9) (aCons (eCall 5 f__law_one_question (aCons (eVar 0) (aCons (eVar 5) (aCons (eVar 3) (aCons (eVar 11) (aCons (eVar 4) aNil)))))) aNil)))))
    (sExpr (eM "list" mAppend (eVar 7) (aCons (eCB fTuple (aCons (eVar 9) aNil)) aNil))))))
    (sRet (eTup (aCons (eC (.str [104, 111, 117, 115, 101])) (aCons (eVar 1) (aCons (eVar 2) (aCons (eCS gTuple (lComp [12] (iRg1 (eBin oIx (eVar 3) (eC (.int 0)))) (gN 12) tYes (eCall 2 f__law_weight (aCons (eVar 0) (aCons (eVar 4) aNil))))) (aCons (eCB fTuple (aCons (eVar 7) aNil)) aNil)))))))))))
theorem ok__law_world {P : Program} {w : World} {K : PySem.W.Frag} {mg : PySem.Str → Option Value} {base : Heap} {f : Addr} {fd : FuncData} {f__law_draw f__law_one_question f__law_weight : FM} (F : FnP K "_law_world" s__law_world f fd) (gx : mg "_law_world" = some (.ref f)) (c__law_draw : Cal P w K mg base "_law_draw" 1 ["d", "many"] f__law_draw) (c__law_one_question : Cal P w K mg base "_law_one_question" 5 ["d", "states", "sizes", "many", "wide"] f__law_one_question) (c__law_weight : Cal P w K mg base "_law_weight" 3 ["d", "wide"] f__law_weight) (z_len : mg "len" = none) (z_range : mg "range" = none) (z_min : mg "min" = none) (z_tuple : mg "tuple" = none) :
    Cal P w K mg base "_law_world" 6 ["d", "reader", "near", "sizes", "wide"] (runB 13 (m__law_world f__law_draw f__law_one_question f__law_weight)) :=
  cal_mk (k := 5) F sc__law_world gx (fun _ _ _ _ _ _ us hl => match us, hl with | [_, _, _, _, _], _ => rfl) fun cdv A outer s H E hr tk hp =>
    (sx_cons (sx_set sc__law_world.nd (ex_callB c_len (by rfl) z_len bt_len (ea_cons (ex_ix m_ix (xv 1) ex_int) ea_nil)))
    (sx_cons (sx_set sc__law_world.nd (ex_c1 c__law_draw tk hr (by decide) (ea_cons (xv 0) (ea_cons (ex_ix m_ix (xv 3) ex_int) ea_nil))))
    (sx_cons (sx_set sc__law_world.nd (ex_lst ea_nil))
    (sx_cons (sx_for hp (by rfl) (ei_range1 (by rfl) z_range (ex_ix m_ix (xv 3) ex_int)) (eg_name sc__law_world.nd) (sx_cons (sx_set sc__law_world.nd (ex_lst ea_nil))
    (sx_cons (sx_for hp (by rfl) (ei_range1 (by rfl) z_range (ex_if (et_cmp (m_eq hr.units) (xv 8) (xv 6) (nomark _)) (ex_ix m_ix (xv 3) ex_int) (ex_c1 c__law_draw tk hr (by decide) (ea_cons (xv 0) (ea_cons (ex_op m_add (ex_callB (c_min2 (by rfl)) (by rfl) z_min bt_min (ea_cons (ex_ix m_ix (xv 3) ex_int) (ea_cons ex_int ea_nil))) ex_int) ea_nil))))) (eg_name sc__law_world.nd) (sx_cons (sx_set sc__law_world.nd (ex_if (Ew.et (ew_and (et_cmp (m_eq hr.units) (xv 8) (xv 6) (nomark _)) (ew_and1 (et_cmp (m_eq hr.units) (xv 10) ex_int (nomark _))))) (ex_ix m_ix (xv 3) ex_int) (ex_op m_add ex_int (ex_c1 c__law_draw tk hr (by decide) (ea_cons (xv 0) (ea_cons (ex_callB (c_min2 (by rfl)) (by rfl) z_min bt_min (ea_cons (ex_ix m_ix (xv 3) ex_int) (ea_cons ex_int ea_nil))) ea_nil))))))
    (sx_one (sx_expr (ex_m PySem.F.plainAttrs_list PySem.F.slot_list_append PySem.F.type_list_append me_append (xv 9) (ea_cons (ex_c1 c__law_one_question tk hr (by decide) (ea_cons (xv 0) (ea_cons (xv 5) (ea_cons (xv 3) (ea_cons (xv 11) (ea_cons (xv 4) ea_nil)))))) ea_nil))))))
    (sx_one (sx_expr (ex_m PySem.F.plainAttrs_list PySem.F.slot_list_append PySem.F.type_list_append me_append (xv 7) (ea_cons (ex_callT c_tuple (by rfl) z_tuple bt_tuple (ea_cons (xv 9) ea_nil)) ea_nil)))))))
    (sx_one (sx_ret (ex_tup (ea_cons (ex_strc [104, 111, 117, 115, 101] (by decide +kernel)) (ea_cons (xv 1) (ea_cons (xv 2) (ea_cons (ex_callTs s_tuple (by rfl) z_tuple bt_tuple (es_el (el_comp (own := [(("h" : PySem.Str), 12)]) (by rfl) sc__law_world.nd (ei_range1 (by rfl) z_range (ex_ix m_ix (xv 3) ex_int)) (blkOk_by (N := N__law_world) (sc := (defScope s__law_world)) (by decide +kernel)) (fun _ _ _ _ _ => (eg_name sc__law_world.nd)) (fun _ _ _ _ _ => ets_nil) (fun _ _ _ _ _ => (ex_c1 c__law_weight tk0 hr (by decide) (ea_cons (xv 0) (ea_cons (xv 4) ea_nil))))))) (ea_cons (ex_callT c_tuple (by rfl) z_tuple bt_tuple (ea_cons (xv 7) ea_nil)) ea_nil))))))))))))
def N__law_is_question : List PySem.Str := ["question", "states", "lots", "modes", "word", "rows", "goes", "row", "go", "a", "weight"]
theorem sc__law_is_question : FnScope N__law_is_question ["question", "states", "lots", "modes"] (defScope s__law_is_question) := ⟨rfl, rfl, rfl, by decide +kernel, rfl, by decide +kernel, by decide +kernel⟩
def m__law_is_question : SM := (sSeq (sAsg (gT 3 (gCs 4 (gCs 5 (gCs 6 gNil0)))) (eVar 0))
    (sSeq (sIf (tOr (tBl (eBin oNotIn (eVar 4) (eTup (aCons (eC (.str [115, 104, 111, 119, 110])) (aCons (eC (.str [100, 114, 97, 119, 110])) aNil))))) (tOr (HM.tNot (tBl (eChain oLe oLe (eC (.int 1)) (eCB fLen (aCons (eVar 6) aNil)) (eC (.int 12))))) (tBl (eBin oNe (eCB fLen (aCons (eVar 5) aNil)) (eVar 1))))) (sRet (eC (.bl false))) sNil)
    (sSeq (sIf (HM.tNot (tVal (eCS gAllB (lComp [8] (iEx (eVar 6)) (gN 8) tYes (eAnd (eChain oLe oLt (eC (.int 0)) (eBin oIx (eVar 8) (eC (.int 0))) (eVar 3)) (eChain oLe oLe (eC (.int 0)) (eBin oIx (eVar 8) (eC (.int 1))) (eC (.int 1)))))))) (sRet (eC (.bl false))) sNil)
    (sSeq (sIf (tBl (eBin oEq (eVar 4) (eC (.str [100, 114, 97, 119, 110])))) (sRet (eCS gAllB (lComp [7] (iEx (eVar 5)) (gN 7) tYes (eAnd (eBin oEq (eCB fLen (aCons (eVar 7) aNil)) (eVar 2)) (eCS gAllB (lComp [9] (iEx (eVar 7)) (gN 9) tYes (eChain oLe oLt (eC (.int 0)) (eVar 9) (eCB fLen (aCons (eVar 6) aNil))))))))) sNil)
    (sSeq (sFor (iEx (eVar 5)) (gN 7) (sIf (tOr (tBl (eBin oNe (eCB fLen (aCons (eVar 7) aNil)) (eCB fLen (aCons (eVar 6) aNil)))) (tOr (HM.tNot (tVal (eCS gAllB (lComp [10] (iEx (eVar 7)) (gN 10) tYes (eChain oLe oLe (eC (.int 0)) (eVar 10) (eBin oPow (eC (.int 10)) (eC (.int 40)))))))) (tBl (eBin oEq (eCS gSum (sEx (eVar 7))) (eC (.int 0)))))) (sRet (eC (.bl false))) sNil))
    (sRet (eC (.bl true))))))))
theorem ok__law_is_question {P : Program} {w : World} {K : PySem.W.Frag} {mg : PySem.Str → Option Value} {base : Heap} {f : Addr} {fd : FuncData} (F : FnP K "_law_is_question" s__law_is_question f fd) (gx : mg "_law_is_question" = some (.ref f)) (z_len : mg "len" = none) (z_all : mg "all" = none) (z_sum : mg "sum" = none) :
    Cal P w K mg base "_law_is_question" 1 ["question", "states", "lots", "modes"] (runB 11 (m__law_is_question)) :=
  cal_mk (k := 0) F sc__law_is_question gx (fun _ _ _ _ _ _ us hl => match us, hl with | [_, _, _, _], _ => rfl) fun cdv A outer s H E hr tk hp =>
    (sx_cons (sx_asg (xv 0) (eg_tup (by rfl) (egs_cons sc__law_is_question.nd (egs_cons sc__law_is_question.nd (egs_cons sc__law_is_question.nd egs_nil)))))
    (sx_cons (sx_if (Ew.et (ew_or (et_cmp (m_notin hr.units65) (xv 4) (ex_tup (ea_cons (ex_strc [115, 104, 111, 119, 110] (by decide +kernel)) (ea_cons (ex_strc [100, 114, 97, 119, 110] (by decide +kernel)) ea_nil))) (by rfl)) (ew_or (et_not (et_chain m_le m_le ex_int (ex_callB c_len (by rfl) z_len bt_len (ea_cons (xv 6) ea_nil)) ex_int)) (ew_or1 (et_cmp (m_ne hr.units) (ex_callB c_len (by rfl) z_len bt_len (ea_cons (xv 5) ea_nil)) (xv 1) (nomark _)))))) (sx_one (sx_ret ex_bl)) sx_nil)
    (sx_cons (sx_if (et_not (et_val (ex_callBl (s_all (by rfl)) (by rfl) z_all bt_all (esl_el (el_comp (own := [(("go" : PySem.Str), 8)]) (by rfl) sc__law_is_question.nd (ei_ex (xv 6)) (blkOk_by (N := N__law_is_question) (sc := (defScope s__law_is_question)) (by decide +kernel)) (fun _ _ _ _ _ => (eg_name sc__law_is_question.nd)) (fun _ _ _ _ _ => ets_nil) (fun _ _ _ _ _ => (ex_and (ex_chain m_le m_lt ex_int (ex_ix m_ix (xv 8) ex_int) (xv 3)) (ex_one (ex_chain m_le m_le ex_int (ex_ix m_ix (xv 8) ex_int) ex_int))))))))) (sx_one (sx_ret ex_bl)) sx_nil)
    (sx_cons (sx_if (et_cmp (m_eq hr.units) (xv 4) (ex_strc [100, 114, 97, 119, 110] (by decide +kernel)) (nomark _)) (sx_one (sx_ret (ex_callBl (s_all (by rfl)) (by rfl) z_all bt_all (esl_el (el_comp (own := [(("row" : PySem.Str), 7)]) (by rfl) sc__law_is_question.nd (ei_ex (xv 5)) (blkOk_by (N := N__law_is_question) (sc := (defScope s__law_is_question)) (by decide +kernel)) (fun _ _ _ _ _ => (eg_name sc__law_is_question.nd)) (fun _ _ _ _ _ => ets_nil) (fun _ _ _ _ _ => (ex_and (ex_cmp (m_eq hr.units) (ex_callB c_len (by rfl) z_len bt_len (ea_cons (xv 7) ea_nil)) (xv 2) (nomark _)) (ex_one (ex_callBl (s_all (by rfl)) (by rfl) z_all bt_all (esl_el (el_comp (own := [(("a" : PySem.Str), 9)]) (by rfl) sc__law_is_question.nd (ei_ex (xv 7)) (blkOk_by (by kernel_rfl)) (fun _ _ _ _ _ => (eg_name sc__law_is_question.nd)) (fun _ _ _ _ _ => ets_nil) (fun _ _ _ _ _ => (ex_chain m_le m_lt ex_int (xv 9) (ex_callB c_len (by rfl) z_len bt_len (ea_cons (xv 6) ea_nil))))))))))))))) sx_nil)
    (sx_cons (sx_for hp (by rfl) (ei_ex (xv 5)) (eg_name sc__law_is_question.nd) (sx_one (sx_if (Ew.et (ew_or (et_cmp (m_ne hr.units) (ex_callB c_len (by rfl) z_len bt_len (ea_cons (xv 7) ea_nil)) (ex_callB c_len (by rfl) z_len bt_len (ea_cons (xv 6) ea_nil)) (nomark _)) (ew_or (et_not (et_val (ex_callBl (s_all (by rfl)) (by rfl) z_all bt_all (esl_el (el_comp (own := [(("weight" : PySem.Str), 10)]) (by rfl) sc__law_is_question.nd (ei_ex (xv 7)) (blkOk_by (N := N__law_is_question) (sc := (defScope s__law_is_question)) (by decide +kernel)) (fun _ _ _ _ _ => (eg_name sc__law_is_question.nd)) (fun _ _ _ _ _ => ets_nil) (fun _ _ _ _ _ => (ex_chain m_le m_le ex_int (xv 10) (ex_op m_pow ex_int ex_int)))))))) (ew_or1 (et_cmp (m_eq hr.units) (ex_callBs (s_sum (by rfl)) (by rfl) z_sum bt_sum (es_ex (xv 7))) ex_int (nomark _)))))) (sx_one (sx_ret ex_bl)) sx_nil)))
    (sx_one (sx_ret ex_bl)))))))
def N__law_is_house : List PySem.Str := ["house", "word", "reader", "near", "lots", "modes", "mode", "weight", "question"]
theorem sc__law_is_house : FnScope N__law_is_house ["house"] (defScope s__law_is_house) := ⟨rfl, rfl, rfl, by decide +kernel, rfl, by decide +kernel, by decide +kernel⟩
def m__law_is_house (f__law_is_question : FM) : SM := (sSeq (sAsg (gT 5 (gCs 1 (gCs 2 (gCs 3 (gCs 4 (gCs 5 gNil0)))))) (eVar 0))
    (sSeq (sIf (tOr (tBl (eBin oNe (eVar 1) (eC (.str [104, 111, 117, 115, 101])))) (tOr (HM.tNot (tBl (eChain oLe oLe (eC (.int 1)) (eCB fLen (aCons (eVar 4) aNil)) (eC (.int 5))))) (HM.tNot (tBl (eChain oLe oLe (eC (.int 1)) (eCB fLen (aCons (eVar 5) aNil)) (eC (.int 60))))))) (sRet (eC (.bl false))) sNil)
    (sSeq (sIf (HM.tNot (tVal (eCS gAllB (lComp [7] (iEx (eVar 4)) (gN 7) tYes (eChain oLe oLe (eC (.int 1)) (eVar 7) (eBin oPow (eC (.int 10)) (eC (.int 40)))))))) (sRet (eC (.bl false))) sNil)
    (sSeq (sFor (iEx (eVar 5)) (gN 6) (sSeq (sIf (tBl (eBin oGt (eCB fLen (aCons (eVar 6) aNil)) (eC (.int 8)))) (sRet (eC (.bl false))) sNil)
    (sIf (HM.tNot (tVal (eCS gAllB (lComp [8] (iEx (eVar 6)) (gN 8) tYes (eCall 4 f__law_is_question (aCons (eVar 8) (aCons (eCB fLen (aCons (eBin oIx (eVar 2) (eC (.int 1))) aNil)) (aCons (eCB fLen (aCons (eVar 4) aNil)) (aCons (eCB fLen (aCons (eVar 5) aNil)) aNil))))))))) (sRet (eC (.bl false))) sNil)))
    (sRet (eC (.bl true)))))))
theorem ok__law_is_house {P : Program} {w : World} {K : PySem.W.Frag} {mg : PySem.Str → Option Value} {base : Heap} {f : Addr} {fd : FuncData} {f__law_is_question : FM} (F : FnP K "_law_is_house" s__law_is_house f fd) (gx : mg "_law_is_house" = some (.ref f)) (c__law_is_question : Cal P w K mg base "_law_is_question" 1 ["question", "states", "lots", "modes"] f__law_is_question) (z_len : mg "len" = none) (z_all : mg "all" = none) :
    Cal P w K mg base "_law_is_house" 2 ["house"] (runB 9 (m__law_is_house f__law_is_question)) :=
  cal_mk (k := 1) F sc__law_is_house gx (fun _ _ _ _ _ _ us hl => match us, hl with | [_], _ => rfl) fun cdv A outer s H E hr tk hp =>
    (sx_cons (sx_asg (xv 0) (eg_tup (by rfl) (egs_cons sc__law_is_house.nd (egs_cons sc__law_is_house.nd (egs_cons sc__law_is_house.nd (egs_cons sc__law_is_house.nd (egs_cons sc__law_is_house.nd egs_nil)))))))
    (sx_cons (sx_if (Ew.et (ew_or (et_cmp (m_ne hr.units) (xv 1) (ex_strc [104, 111, 117, 115, 101] (by decide +kernel)) (nomark _)) (ew_or (et_not (et_chain m_le m_le ex_int (ex_callB c_len (by rfl) z_len bt_len (ea_cons (xv 4) ea_nil)) ex_int)) (ew_or1 (et_not (et_chain m_le m_le ex_int (ex_callB c_len (by rfl) z_len bt_len (ea_cons (xv 5) ea_nil)) ex_int)))))) (sx_one (sx_ret ex_bl)) sx_nil)
    (sx_cons (sx_if (et_not (et_val (ex_callBl (s_all (by rfl)) (by rfl) z_all bt_all (esl_el (el_comp (own := [(("weight" : PySem.Str), 7)]) (by rfl) sc__law_is_house.nd (ei_ex (xv 4)) (blkOk_by (N := N__law_is_house) (sc := (defScope s__law_is_house)) (by decide +kernel)) (fun _ _ _ _ _ => (eg_name sc__law_is_house.nd)) (fun _ _ _ _ _ => ets_nil) (fun _ _ _ _ _ => (ex_chain m_le m_le ex_int (xv 7) (ex_op m_pow ex_int ex_int)))))))) (sx_one (sx_ret ex_bl)) sx_nil)
    (sx_cons (sx_for hp (by rfl) (ei_ex (xv 5)) (eg_name sc__law_is_house.nd) (sx_cons (sx_if (et_cmp m_gt (ex_callB c_len (by rfl) z_len bt_len (ea_cons (xv 6) ea_nil)) ex_int (nomark _)) (sx_one (sx_ret ex_bl)) sx_nil)
    (sx_one (sx_if (et_not (et_val (ex_callBl (s_all (by rfl)) (by rfl) z_all bt_all (esl_el (el_comp (own := [(("question" : PySem.Str), 8)]) (by rfl) sc__law_is_house.nd (ei_ex (xv 6)) (blkOk_by (N := N__law_is_house) (sc := (defScope s__law_is_house)) (by decide +kernel)) (fun _ _ _ _ _ => (eg_name sc__law_is_house.nd)) (fun _ _ _ _ _ => ets_nil) (fun _ _ _ _ _ => (ex_c1 c__law_is_question tk0 hr (by decide) (ea_cons (xv 8) (ea_cons (ex_callB c_len (by rfl) z_len bt_len (ea_cons (ex_ix m_ix (xv 2) ex_int) ea_nil)) (ea_cons (ex_callB c_len (by rfl) z_len bt_len (ea_cons (xv 4) ea_nil)) (ea_cons (ex_callB c_len (by rfl) z_len bt_len (ea_cons (xv 5) ea_nil)) ea_nil))))))))))) (sx_one (sx_ret ex_bl)) sx_nil))))
    (sx_one (sx_ret ex_bl))))))
def N__law_odd_number : List PySem.Str := ["d", "limit", "row", "huge", "k"]
theorem sc__law_odd_number : FnScope N__law_odd_number ["d", "limit"] (defScope s__law_odd_number) := ⟨rfl, rfl, rfl, by decide +kernel, rfl, by decide +kernel, by decide +kernel⟩
def m__law_odd_number (f__law_draw : FM) (f__law_pick : FM) : SM := (sSeq (sSet 2 (eLst (aCons (eUn oNeg (eC (.int 1))) (aCons (eVar 1) (aCons (eBin oAdd (eVar 1) (eC (.int 1))) (aCons (eBin oPow (eC (.int 10)) (eC (.int 40))) (aCons (eBin oAdd (eBin oPow (eC (.int 10)) (eC (.int 40))) (eC (.int 1))) (aCons (eUn oNeg (eBin oPow (eC (.int 10)) (eC (.int 40)))) (aCons (eC (.int 0)) aNil)))))))))
    (sSeq (sIf (tBl (eBin oEq (eCall 2 f__law_draw (aCons (eVar 0) (aCons (eC (.int 8)) aNil))) (eC (.int 5)))) (sSeq (sSet 3 (eC (.int 1)))
    (sSeq (sFor (iRg1 (eC (.int 40))) (gN 4) (sSet 3 (eBin oMul (eVar 3) (eBin oPow (eC (.int 10)) (eC (.int 49))))))
    (sRet (eBin oMul (eVar 3) (eBin oPow (eC (.int 10)) (eC (.int 39))))))) sNil)
    (sRet (eCall 2 f__law_pick (aCons (eVar 0) (aCons (eVar 2) aNil))))))
theorem ok__law_odd_number {P : Program} {w : World} {K : PySem.W.Frag} {mg : PySem.Str → Option Value} {base : Heap} {f : Addr} {fd : FuncData} {f__law_draw f__law_pick : FM} (F : FnP K "_law_odd_number" s__law_odd_number f fd) (gx : mg "_law_odd_number" = some (.ref f)) (c__law_draw : Cal P w K mg base "_law_draw" 1 ["d", "many"] f__law_draw) (c__law_pick : Cal P w K mg base "_law_pick" 2 ["d", "row"] f__law_pick) (z_range : mg "range" = none) :
    Cal P w K mg base "_law_odd_number" 3 ["d", "limit"] (runB 5 (m__law_odd_number f__law_draw f__law_pick)) :=
  cal_mk (k := 2) F sc__law_odd_number gx (fun _ _ _ _ _ _ us hl => match us, hl with | [_, _], _ => rfl) fun cdv A outer s H E hr tk hp =>
    (sx_cons (sx_set sc__law_odd_number.nd (ex_lst (ea_cons (ex_un m_neg ex_int) (ea_cons (xv 1) (ea_cons (ex_op m_add (xv 1) ex_int) (ea_cons (ex_op m_pow ex_int ex_int) (ea_cons (ex_op m_add (ex_op m_pow ex_int ex_int) ex_int) (ea_cons (ex_un m_neg (ex_op m_pow ex_int ex_int)) (ea_cons ex_int ea_nil)))))))))
    (sx_cons (sx_if (et_cmp (m_eq hr.units) (ex_c1 c__law_draw tk hr (by decide) (ea_cons (xv 0) (ea_cons ex_int ea_nil))) ex_int (nomark _)) (sx_cons (sx_set sc__law_odd_number.nd ex_int)
    (sx_cons (sx_for hp (by rfl) (ei_range1 (by rfl) z_range ex_int) (eg_name sc__law_odd_number.nd) (sx_one (sx_set sc__law_odd_number.nd (ex_op m_mul (xv 3) (ex_op m_pow ex_int ex_int)))))
    (sx_one (sx_ret (ex_op m_mul (xv 3) (ex_op m_pow ex_int ex_int)))))) sx_nil)
    (sx_one (sx_ret (ex_c1 c__law_pick tk hr (by decide) (ea_cons (xv 0) (ea_cons (xv 2) ea_nil)))))))
def N__law_longer : List PySem.Str := ["d", "row", "part", "at"]
theorem sc__law_longer : FnScope N__law_longer ["d", "row", "part"] (defScope s__law_longer) := ⟨rfl, rfl, rfl, by decide +kernel, rfl, by decide +kernel, by decide +kernel⟩
def m__law_longer (f__law_draw : FM) : SM := (sSeq (sIf (tAnd (tBl (eBin oGt (eCB fLen (aCons (eVar 1) aNil)) (eC (.int 0)))) (tBl (eBin oEq (eCall 2 f__law_draw (aCons (eVar 0) (aCons (eC (.int 2)) aNil))) (eC (.int 1))))) (sSeq (sSet 3 (eCall 2 f__law_draw (aCons (eVar 0) (aCons (eCB fLen (aCons (eVar 1) aNil)) aNil))))
    (sRet (eBin oAdd (eSl (eVar 1) oNone (oSome (eVar 3))) (eSl (eVar 1) (oSome (eBin oAdd (eVar 3) (eC (.int 1)))) oNone)))) sNil)
    (sRet (eBin oAdd (eVar 1) (eTup (aCons (eVar 2) aNil)))))
theorem ok__law_longer {P : Program} {w : World} {K : PySem.W.Frag} {mg : PySem.Str → Option Value} {base : Heap} {f : Addr} {fd : FuncData} {f__law_draw : FM} (F : FnP K "_law_longer" s__law_longer f fd) (gx : mg "_law_longer" = some (.ref f)) (c__law_draw : Cal P w K mg base "_law_draw" 1 ["d", "many"] f__law_draw) (z_len : mg "len" = none) :
    Cal P w K mg base "_law_longer" 2 ["d", "row", "part"] (runB 4 (m__law_longer f__law_draw)) :=
  cal_mk (k := 1) F sc__law_longer gx (fun _ _ _ _ _ _ us hl => match us, hl with | [_, _, _], _ => rfl) fun cdv A outer s H E hr tk hp =>
    (sx_cons (sx_if (Ew.et (ew_and (et_cmp m_gt (ex_callB c_len (by rfl) z_len bt_len (ea_cons (xv 1) ea_nil)) ex_int (nomark _)) (ew_and1 (et_cmp (m_eq hr.units) (ex_c1 c__law_draw tk hr (by decide) (ea_cons (xv 0) (ea_cons ex_int ea_nil))) ex_int (nomark _))))) (sx_cons (sx_set sc__law_longer.nd (ex_c1 c__law_draw tk hr (by decide) (ea_cons (xv 0) (ea_cons (ex_callB c_len (by rfl) z_len bt_len (ea_cons (xv 1) ea_nil)) ea_nil))))
    (sx_one (sx_ret (ex_op m_add (ex_sl (xv 1) eo_none (eo_some (xv 3))) (ex_sl (xv 1) (eo_some (ex_op m_add (xv 3) ex_int)) eo_none))))) sx_nil)
    (sx_one (sx_ret (ex_op m_add (xv 1) (ex_tup (ea_cons (xv 2) ea_nil))))))
def N__law_changed_rows : List PySem.Str := ["d", "question", "limit", "word", "rows", "goes", "style", "at", "row", "part"]
theorem sc__law_changed_rows : FnScope N__law_changed_rows ["d", "question", "limit"] (defScope s__law_changed_rows) := ⟨rfl, rfl, rfl, by decide +kernel, rfl, by decide +kernel, by decide +kernel⟩
def m__law_changed_rows (f__law_draw : FM) (f__law_longer : FM) (f__law_put : FM) (f__law_odd_number : FM) : SM := (sSeq (sAsg (gT 3 (gCs 3 (gCs 4 (gCs 5 gNil0)))) (eVar 1))
    (sSeq (sSet 6 (eCall 2 f__law_draw (aCons (eVar 0) (aCons (eC (.int 5)) aNil))))
    (sSeq (sSet 7 (eCall 2 f__law_draw (aCons (eVar 0) (aCons (eCB fLen (aCons (eVar 4) aNil)) aNil))))
    (sSeq (sIf (tBl (eBin oEq (eVar 6) (eC (.int 0)))) (sRet (eTup (aCons (eVar 3) (aCons (eCall 3 f__law_longer (aCons (eVar 0) (aCons (eVar 4) (aCons (eBin oIx (eVar 4) (eVar 7)) aNil)))) (aCons (eVar 5) aNil))))) sNil)
    (sSeq (sSet 8 (eBin oIx (eVar 4) (eVar 7)))
    (sSeq (sIf (tBl (eBin oEq (eVar 6) (eC (.int 1)))) (sSet 8 (eCS gTuple (lComp [9] (iEx (eVar 8)) (gN 9) tYes (eC (.int 0))))) (sIf (tBl (eBin oEq (eVar 6) (eC (.int 2)))) (sSet 8 (eCall 3 f__law_longer (aCons (eVar 0) (aCons (eVar 8) (aCons (eC (.int 0)) aNil))))) (sSet 8 (eCall 3 f__law_put (aCons (eVar 8) (aCons (eCall 2 f__law_draw (aCons (eVar 0) (aCons (eCB fLen (aCons (eVar 8) aNil)) aNil))) (aCons (eCall 2 f__law_odd_number (aCons (eVar 0) (aCons (eVar 2) aNil))) aNil)))))))
    (sRet (eTup (aCons (eVar 3) (aCons (eCall 3 f__law_put (aCons (eVar 4) (aCons (eVar 7) (aCons (eVar 8) aNil)))) (aCons (eVar 5) aNil)))))))))))
theorem ok__law_changed_rows {P : Program} {w : World} {K : PySem.W.Frag} {mg : PySem.Str → Option Value} {base : Heap} {f : Addr} {fd : FuncData} {f__law_draw f__law_longer f__law_put f__law_odd_number : FM} (F : FnP K "_law_changed_rows" s__law_changed_rows f fd) (gx : mg "_law_changed_rows" = some (.ref f)) (c__law_draw : Cal P w K mg base "_law_draw" 1 ["d", "many"] f__law_draw) (c__law_longer : Cal P w K mg base "_law_longer" 2 ["d", "row", "part"] f__law_longer) (c__law_put : Cal P w K mg base "_law_put" 1 ["row", "at", "part"] f__law_put) (c__law_odd_number : Cal P w K mg base "_law_odd_number" 3 ["d", "limit"] f__law_odd_number) (z_len : mg "len" = none) (z_tuple : mg "tuple" = none) :
    Cal P w K mg base "_law_changed_rows" 4 ["d", "question", "limit"] (runB 10 (m__law_changed_rows f__law_draw f__law_longer f__law_put f__law_odd_number)) :=
  cal_mk (k := 3) F sc__law_changed_rows gx (fun _ _ _ _ _ _ us hl => match us, hl with | [_, _, _], _ => rfl) fun cdv A outer s H E hr tk hp =>
    (sx_cons (sx_asg (xv 1) (eg_tup (by rfl) (egs_cons sc__law_changed_rows.nd (egs_cons sc__law_changed_rows.nd (egs_cons sc__law_changed_rows.nd egs_nil)))))
    (sx_cons (sx_set sc__law_changed_rows.nd (ex_c1 c__law_draw tk hr (by decide) (ea_cons (xv 0) (ea_cons ex_int ea_nil))))
    (sx_cons (sx_set sc__law_changed_rows.nd (ex_c1 c__law_draw tk hr (by decide) (ea_cons (xv 0) (ea_cons (ex_callB c_len (by rfl) z_len bt_len (ea_cons (xv 4) ea_nil)) ea_nil))))
    (sx_cons (sx_if (et_cmp (m_eq hr.units) (xv 6) ex_int (nomark _)) (sx_one (sx_ret (ex_tup (ea_cons (xv 3) (ea_cons (ex_c1 c__law_longer tk hr (by decide) (ea_cons (xv 0) (ea_cons (xv 4) (ea_cons (ex_ix m_ix (xv 4) (xv 7)) ea_nil)))) (ea_cons (xv 5) ea_nil)))))) sx_nil)
    (sx_cons (sx_set sc__law_changed_rows.nd (ex_ix m_ix (xv 4) (xv 7)))
    (sx_cons (sx_if (et_cmp (m_eq hr.units) (xv 6) ex_int (nomark _)) (sx_one (sx_set sc__law_changed_rows.nd (ex_callTs s_tuple (by rfl) z_tuple bt_tuple (es_el (el_comp (own := [(("part" : PySem.Str), 9)]) (by rfl) sc__law_changed_rows.nd (ei_ex (xv 8)) (blkOk_by (N := N__law_changed_rows) (sc := (defScope s__law_changed_rows)) (by decide +kernel)) (fun _ _ _ _ _ => (eg_name sc__law_changed_rows.nd)) (fun _ _ _ _ _ => ets_nil) (fun _ _ _ _ _ => ex_int)))))) (sx_one (sx_if (et_cmp (m_eq hr.units) (xv 6) ex_int (nomark _)) (sx_one (sx_set sc__law_changed_rows.nd (ex_c1 c__law_longer tk hr (by decide) (ea_cons (xv 0) (ea_cons (xv 8) (ea_cons ex_int ea_nil)))))) (sx_one (sx_set sc__law_changed_rows.nd (ex_c1 c__law_put tk hr (by decide) (ea_cons (xv 8) (ea_cons (ex_c1 c__law_draw tk hr (by decide) (ea_cons (xv 0) (ea_cons (ex_callB c_len (by rfl) z_len bt_len (ea_cons (xv 8) ea_nil)) ea_nil))) (ea_cons (ex_c1 c__law_odd_number tk hr (by decide) (ea_cons (xv 0) (ea_cons (xv 2) ea_nil))) ea_nil)))))))))
    (sx_one (sx_ret (ex_tup (ea_cons (xv 3) (ea_cons (ex_c1 c__law_put tk hr (by decide) (ea_cons (xv 4) (ea_cons (xv 7) (ea_cons (xv 8) ea_nil)))) (ea_cons (xv 5) ea_nil))))))))))))
def N__law_changed_goes : List PySem.Str := ["d", "question", "modes", "word", "rows", "goes", "style", "at", "row"]
theorem sc__law_changed_goes : FnScope N__law_changed_goes ["d", "question", "modes"] (defScope s__law_changed_goes) := ⟨rfl, rfl, rfl, by decide +kernel, rfl, by decide +kernel, by decide +kernel⟩
def m__law_changed_goes (f__law_draw : FM) (f__law_longer : FM) (f__law_put : FM) (f__law_pick : FM) (f__law_odd_number : FM) : SM := (sSeq (sAsg (gT 3 (gCs 3 (gCs 4 (gCs 5 gNil0)))) (eVar 1))
    (sSeq (sSet 6 (eCall 2 f__law_draw (aCons (eVar 0) (aCons (eC (.int 5)) aNil))))
    (sSeq (sSet 7 (eCall 2 f__law_draw (aCons (eVar 0) (aCons (eCB fLen (aCons (eVar 5) aNil)) aNil))))
    (sSeq (sIf (tBl (eBin oEq (eVar 6) (eC (.int 0)))) (sRet (eTup (aCons (eVar 3) (aCons (eVar 4) (aCons (eCall 3 f__law_longer (aCons (eVar 0) (aCons (eVar 5) (aCons (eBin oIx (eVar 5) (eVar 7)) aNil)))) aNil))))) sNil)
    (sSeq (sIf (tBl (eBin oEq (eVar 6) (eC (.int 1)))) (sRet (eTup (aCons (eC (.str [115, 104, 111, 119, 110])) (aCons (eCS gTuple (lComp [8] (iEx (eVar 4)) (gN 8) tYes (eTup aNil))) (aCons (eTup aNil) aNil))))) sNil)
    (sSeq (sIf (tBl (eBin oEq (eVar 6) (eC (.int 2)))) (sRet (eTup (aCons (eVar 3) (aCons (eVar 4) (aCons (eCall 3 f__law_put (aCons (eVar 5) (aCons (eVar 7) (aCons (eTup (aCons (eBin oIx (eBin oIx (eVar 5) (eVar 7)) (eC (.int 0))) (aCons (eCall 2 f__law_pick (aCons (eVar 0) (aCons (eLst (aCons (eC (.int 0)) (aCons (eC (.int 1)) (aCons (eC (.int 2)) (aCons (eUn oNeg (eC (.int 1))) aNil))))) aNil))) aNil))) aNil)))) aNil))))) sNil)
    (sRet (eTup (aCons (eVar 3) (aCons (eVar 4) (aCons (eCall 3 f__law_put (aCons (eVar 5) (aCons (eVar 7) (aCons (eTup (aCons (eCall 2 f__law_odd_number (aCons (eVar 0) (aCons (eVar 2) aNil))) (aCons (eBin oIx (eBin oIx (eVar 5) (eVar 7)) (eC (.int 1))) aNil))) aNil)))) aNil)))))))))))
theorem ok__law_changed_goes {P : Program} {w : World} {K : PySem.W.Frag} {mg : PySem.Str → Option Value} {base : Heap} {f : Addr} {fd : FuncData} {f__law_draw f__law_longer f__law_put f__law_pick f__law_odd_number : FM} (F : FnP K "_law_changed_goes" s__law_changed_goes f fd) (gx : mg "_law_changed_goes" = some (.ref f)) (c__law_draw : Cal P w K mg base "_law_draw" 1 ["d", "many"] f__law_draw) (c__law_longer : Cal P w K mg base "_law_longer" 2 ["d", "row", "part"] f__law_longer) (c__law_put : Cal P w K mg base "_law_put" 1 ["row", "at", "part"] f__law_put) (c__law_pick : Cal P w K mg base "_law_pick" 2 ["d", "row"] f__law_pick) (c__law_odd_number : Cal P w K mg base "_law_odd_number" 3 ["d", "limit"] f__law_odd_number) (z_len : mg "len" = none) (z_tuple : mg "tuple" = none) :
    Cal P w K mg base "_law_changed_goes" 4 ["d", "question", "modes"] (runB 9 (m__law_changed_goes f__law_draw f__law_longer f__law_put f__law_pick f__law_odd_number)) :=
  cal_mk (k := 3) F sc__law_changed_goes gx (fun _ _ _ _ _ _ us hl => match us, hl with | [_, _, _], _ => rfl) fun cdv A outer s H E hr tk hp =>
    (sx_cons (sx_asg (xv 1) (eg_tup (by rfl) (egs_cons sc__law_changed_goes.nd (egs_cons sc__law_changed_goes.nd (egs_cons sc__law_changed_goes.nd egs_nil)))))
    (sx_cons (sx_set sc__law_changed_goes.nd (ex_c1 c__law_draw tk hr (by decide) (ea_cons (xv 0) (ea_cons ex_int ea_nil))))
    (sx_cons (sx_set sc__law_changed_goes.nd (ex_c1 c__law_draw tk hr (by decide) (ea_cons (xv 0) (ea_cons (ex_callB c_len (by rfl) z_len bt_len (ea_cons (xv 5) ea_nil)) ea_nil))))
    (sx_cons (sx_if (et_cmp (m_eq hr.units) (xv 6) ex_int (nomark _)) (sx_one (sx_ret (ex_tup (ea_cons (xv 3) (ea_cons (xv 4) (ea_cons (ex_c1 c__law_longer tk hr (by decide) (ea_cons (xv 0) (ea_cons (xv 5) (ea_cons (ex_ix m_ix (xv 5) (xv 7)) ea_nil)))) ea_nil)))))) sx_nil)
    (sx_cons (sx_if (et_cmp (m_eq hr.units) (xv 6) ex_int (nomark _)) (sx_one (sx_ret (ex_tup (ea_cons (ex_strc [115, 104, 111, 119, 110] (by decide +kernel)) (ea_cons (ex_callTs s_tuple (by rfl) z_tuple bt_tuple (es_el (el_comp (own := [(("row" : PySem.Str), 8)]) (by rfl) sc__law_changed_goes.nd (ei_ex (xv 4)) (blkOk_by (N := N__law_changed_goes) (sc := (defScope s__law_changed_goes)) (by decide +kernel)) (fun _ _ _ _ _ => (eg_name sc__law_changed_goes.nd)) (fun _ _ _ _ _ => ets_nil) (fun _ _ _ _ _ => (ex_tup ea_nil))))) (ea_cons (ex_tup ea_nil) ea_nil)))))) sx_nil)
    (sx_cons (sx_if (et_cmp (m_eq hr.units) (xv 6) ex_int (nomark _)) (sx_one (sx_ret (ex_tup (ea_cons (xv 3) (ea_cons (xv 4) (ea_cons (ex_c1 c__law_put tk hr (by decide) (ea_cons (xv 5) (ea_cons (xv 7) (ea_cons (ex_tup (ea_cons (ex_ix m_ix (ex_ix m_ix (xv 5) (xv 7)) ex_int) (ea_cons (ex_c1 c__law_pick tk hr (by decide) (ea_cons (xv 0) (ea_cons (ex_lst (ea_cons ex_int (ea_cons ex_int (ea_cons ex_int (ea_cons (ex_un m_neg ex_int) ea_nil))))) ea_nil))) ea_nil))) ea_nil)))) ea_nil)))))) sx_nil)
    (sx_one (sx_ret (ex_tup (ea_cons (xv 3) (ea_cons (xv 4) (ea_cons (ex_c1 c__law_put tk hr (by decide) (ea_cons (xv 5) (ea_cons (xv 7) (ea_cons (ex_tup (ea_cons (ex_c1 c__law_odd_number tk hr (by decide) (ea_cons (xv 0) (ea_cons (xv 2) ea_nil))) (ea_cons (ex_ix m_ix (ex_ix m_ix (xv 5) (xv 7)) ex_int) ea_nil))) ea_nil)))) ea_nil))))))))))))
def N__law_changed_question : List PySem.Str := ["d", "house", "mode", "x", "question", "style", "word", "limit"]
theorem sc__law_changed_question : FnScope N__law_changed_question ["d", "house", "mode", "x"] (defScope s__law_changed_question) := ⟨rfl, rfl, rfl, by decide +kernel, rfl, by decide +kernel, by decide +kernel⟩
def m__law_changed_question (f__law_draw : FM) (f__law_pick : FM) (f__law_changed_rows : FM) (f__law_changed_goes : FM) : SM := (sSeq (sSet 4 (eBin oIx (eBin oIx (eBin oIx (eVar 1) (eC (.int 4))) (eVar 2)) (eVar 3)))
    (sSeq (sSet 5 (eCall 2 f__law_draw (aCons (eVar 0) (aCons (eC (.int 5)) aNil))))
    (sSeq (sIf (tBl (eBin oEq (eVar 5) (eC (.int 0)))) (sSeq (sSet 6 (eCall 2 f__law_pick (aCons (eVar 0) (aCons (eLst (aCons (eC (.str [115, 104, 111, 119, 110])) (aCons (eC (.str [100, 114, 97, 119, 110])) (aCons (eC (.str [116, 111, 108, 100])) (aCons (eC (.str [])) (aCons (eC (.str [83, 104, 111, 119, 110])) (aCons (eC (.str [100, 114, 97, 119, 110, 32])) aNil))))))) aNil))))
    (sRet (eTup (aCons (eVar 6) (aCons (eBin oIx (eVar 4) (eC (.int 1))) (aCons (eBin oIx (eVar 4) (eC (.int 2))) aNil)))))) sNil)
    (sSeq (sIf (tBl (eBin oLt (eVar 5) (eC (.int 3)))) (sSeq (sSet 7 (eIf (tBl (eBin oEq (eBin oIx (eVar 4) (eC (.int 0))) (eC (.str [100, 114, 97, 119, 110])))) (eCB fLen (aCons (eBin oIx (eVar 4) (eC (.int 2))) aNil)) (eBin oPow (eC (.int 10)) (eC (.int 40)))))
    (sRet (eCall 3 f__law_changed_rows (aCons (eVar 0) (aCons (eVar 4) (aCons (eVar 7) aNil)))))) sNil)
    (sRet (eCall 3 f__law_changed_goes (aCons (eVar 0) (aCons (eVar 4) (aCons (eCB fLen (aCons (eBin oIx (eVar 1) (eC (.int 4))) aNil)) aNil)))))))))
theorem ok__law_changed_question {P : Program} {w : World} {K : PySem.W.Frag} {mg : PySem.Str → Option Value} {base : Heap} {f : Addr} {fd : FuncData} {f__law_draw f__law_pick f__law_changed_rows f__law_changed_goes : FM} (F : FnP K "_law_changed_question" s__law_changed_question f fd) (gx : mg "_law_changed_question" = some (.ref f)) (c__law_draw : Cal P w K mg base "_law_draw" 1 ["d", "many"] f__law_draw) (c__law_pick : Cal P w K mg base "_law_pick" 2 ["d", "row"] f__law_pick) (c__law_changed_rows : Cal P w K mg base "_law_changed_rows" 4 ["d", "question", "limit"] f__law_changed_rows) (c__law_changed_goes : Cal P w K mg base "_law_changed_goes" 4 ["d", "question", "modes"] f__law_changed_goes) (z_len : mg "len" = none) :
    Cal P w K mg base "_law_changed_question" 5 ["d", "house", "mode", "x"] (runB 8 (m__law_changed_question f__law_draw f__law_pick f__law_changed_rows f__law_changed_goes)) :=
  cal_mk (k := 4) F sc__law_changed_question gx (fun _ _ _ _ _ _ us hl => match us, hl with | [_, _, _, _], _ => rfl) fun cdv A outer s H E hr tk hp =>
    (sx_cons (sx_set sc__law_changed_question.nd (ex_ix m_ix (ex_ix m_ix (ex_ix m_ix (xv 1) ex_int) (xv 2)) (xv 3)))
    (sx_cons (sx_set sc__law_changed_question.nd (ex_c1 c__law_draw tk hr (by decide) (ea_cons (xv 0) (ea_cons ex_int ea_nil))))
    (sx_cons (sx_if (et_cmp (m_eq hr.units) (xv 5) ex_int (nomark _)) (sx_cons (sx_set sc__law_changed_question.nd (ex_c1 c__law_pick tk hr (by decide) (ea_cons (xv 0) (ea_cons (ex_lst (ea_cons (ex_strc [115, 104, 111, 119, 110] (by decide +kernel)) (ea_cons (ex_strc [100, 114, 97, 119, 110] (by decide +kernel)) (ea_cons (ex_strc [116, 111, 108, 100] (by decide +kernel)) (ea_cons (ex_strc [] (by decide +kernel)) (ea_cons (ex_strc [83, 104, 111, 119, 110] (by decide +kernel)) (ea_cons (ex_strc [100, 114, 97, 119, 110, 32] (by decide +kernel)) ea_nil))))))) ea_nil))))
    (sx_one (sx_ret (ex_tup (ea_cons (xv 6) (ea_cons (ex_ix m_ix (xv 4) ex_int) (ea_cons (ex_ix m_ix (xv 4) ex_int) ea_nil))))))) sx_nil)
    (sx_cons (sx_if (et_cmp m_lt (xv 5) ex_int (nomark _)) (sx_cons (sx_set sc__law_changed_question.nd (ex_if (et_cmp (m_eq hr.units) (ex_ix m_ix (xv 4) ex_int) (ex_strc [100, 114, 97, 119, 110] (by decide +kernel)) (nomark _)) (ex_callB c_len (by rfl) z_len bt_len (ea_cons (ex_ix m_ix (xv 4) ex_int) ea_nil)) (ex_op m_pow ex_int ex_int)))
    (sx_one (sx_ret (ex_c1 c__law_changed_rows tk hr (by decide) (ea_cons (xv 0) (ea_cons (xv 4) (ea_cons (xv 7) ea_nil))))))) sx_nil)
    (sx_one (sx_ret (ex_c1 c__law_changed_goes tk hr (by decide) (ea_cons (xv 0) (ea_cons (xv 4) (ea_cons (ex_callB c_len (by rfl) z_len bt_len (ea_cons (ex_ix m_ix (xv 1) ex_int) ea_nil)) ea_nil))))))))))
def N__law_changed : List PySem.Str := ["d", "house", "spots", "mode", "style", "x", "asks", "at"]
theorem sc__law_changed : FnScope N__law_changed ["d", "house"] (defScope s__law_changed) := ⟨rfl, rfl, rfl, by decide +kernel, rfl, by decide +kernel, by decide +kernel⟩
def m__law_changed (f__law_draw : FM) (f__law_pick : FM) (f__law_put : FM) (f__law_changed_question : FM) (f__law_longer : FM) (f__law_odd_number : FM) : SM := (sSeq (sSet 2 (eLst aNil))
    (sSeq (sFor (iRg1 (eCB fLen (aCons (eBin oIx (eVar 1) (eC (.int 4))) aNil))) (gN 3) (sExpr (eM "list" mExtend (eVar 2) (aCons (eEl (lComp [5] (iRg1 (eCB fLen (aCons (eBin oIx (eBin oIx (eVar 1) (eC (.int 4))) (eVar 3)) aNil))) (gN 5) tYes (eTup (aCons (eVar 3) (aCons (eVar 5) aNil))))) aNil))))
    (sSeq (sSet 4 (eCall 2 f__law_draw (aCons (eVar 0) (aCons (eC (.int 8)) aNil))))
    (sSeq (sIf (tAnd (tBl (eBin oLt (eVar 4) (eC (.int 5)))) (tBl (eBin oGt (eCB fLen (aCons (eVar 2) aNil)) (eC (.int 0))))) (sSeq (sAsg (gT 2 (gCs 3 (gCs 5 gNil0))) (eCall 2 f__law_pick (aCons (eVar 0) (aCons (eVar 2) aNil))))
    (sSeq (sSet 6 (eCall 3 f__law_put (aCons (eBin oIx (eBin oIx (eVar 1) (eC (.int 4))) (eVar 3)) (aCons (eVar 5) (aCons (eCall 4 f__law_changed_question (aCons (eVar 0) (aCons (eVar 1) (aCons (eVar 3) (aCons (eVar 5) aNil))))) aNil)))))
    (sRet (eBin oAdd (eSl (eVar 1) oNone (oSome (eC (.int 4)))) (eTup (aCons (eCall 3 f__law_put (aCons (eBin oIx (eVar 1) (eC (.int 4))) (aCons (eVar 3) (aCons (eVar 6) aNil)))) aNil)))))) sNil)
    (sSeq (sIf (tBl (eBin oEq (eVar 4) (eC (.int 5)))) (sRet (eBin oAdd (eTup (aCons (eCall 2 f__law_pick (aCons (eVar 0) (aCons (eLst (aCons (eC (.str [104, 111, 117, 115, 101, 115])) (aCons (eC (.str [])) (aCons (eC (.str [72, 111, 117, 115, 101])) aNil)))) aNil))) aNil)) (eSl (eVar 1) (oSome (eC (.int 1))) oNone))) sNil)
    (sSeq (sIf (tBl (eBin oEq (eVar 4) (eC (.int 6)))) (sRet (eBin oAdd (eBin oAdd (eSl (eVar 1) oNone (oSome (eC (.int 3)))) (eTup (aCons (eCall 3 f__law_longer (aCons (eVar 0) (aCons (eBin oIx (eVar 1) (eC (.int 3))) (aCons (eC (.int 1)) aNil)))) aNil))) (eSl (eVar 1) (oSome (eC (.int 4))) oNone))) sNil)
    (sSeq (sIf (tAnd (tBl (eBin oEq (eVar 4) (eC (.int 7)))) (tBl (eBin oEq (eCall 2 f__law_draw (aCons (eVar 0) (aCons (eC (.int 3)) aNil))) (eC (.int 1))))) (sRet (eBin oAdd (eSl (eVar 1) oNone (oSome (eC (.int 4)))) (eTup (aCons (eTup aNil) aNil)))) sNil)
    (sSeq (sSet 7 (eCall 2 f__law_draw (aCons (eVar 0) (aCons (eCB fLen (aCons (eBin oIx (eVar 1) (eC (.int 3))) aNil)) aNil))))
    (sRet (eBin oAdd (eBin oAdd (eSl (eVar 1) oNone (oSome (eC (.int 3)))) (eTup (aCons (eCall 3 f__law_put (aCons (eBin oIx (eVar 1) (eC (.int 3))) (aCons (eVar 7) (aCons (eCall 2 f__law_odd_number (aCons (eVar 0) (aCons (eBin oPow (eC (.int 10)) (eC (.int 40))) aNil))) aNil)))) aNil))) (eSl (eVar 1) (oSome (eC (.int 4))) oNone)))))))))))
theorem ok__law_changed {P : Program} {w : World} {K : PySem.W.Frag} {mg : PySem.Str → Option Value} {base : Heap} {f : Addr} {fd : FuncData} {f__law_draw f__law_pick f__law_put f__law_changed_question f__law_longer f__law_odd_number : FM} (F : FnP K "_law_changed" s__law_changed f fd) (gx : mg "_law_changed" = some (.ref f)) (c__law_draw : Cal P w K mg base "_law_draw" 1 ["d", "many"] f__law_draw) (c__law_pick : Cal P w K mg base "_law_pick" 2 ["d", "row"] f__law_pick) (c__law_put : Cal P w K mg base "_law_put" 1 ["row", "at", "part"] f__law_put) (c__law_changed_question : Cal P w K mg base "_law_changed_question" 5 ["d", "house", "mode", "x"] f__law_changed_question) (c__law_longer : Cal P w K mg base "_law_longer" 2 ["d", "row", "part"] f__law_longer) (c__law_odd_number : Cal P w K mg base "_law_odd_number" 3 ["d", "limit"] f__law_odd_number) (z_range : mg "range" = none) (z_len : mg "len" = none) :
    Cal P w K mg base "_law_changed" 6 ["d", "house"] (runB 8 (m__law_changed f__law_draw f__law_pick f__law_put f__law_changed_question f__law_longer f__law_odd_number)) :=
  cal_mk (k := 5) F sc__law_changed gx (fun _ _ _ _ _ _ us hl => match us, hl with | [_, _], _ => rfl) fun cdv A outer s H E hr tk hp =>
    (sx_cons (sx_set sc__law_changed.nd (ex_lst ea_nil))
    (sx_cons (sx_for hp (by rfl) (ei_range1 (by rfl) z_range (ex_callB c_len (by rfl) z_len bt_len (ea_cons (ex_ix m_ix (xv 1) ex_int) ea_nil))) (eg_name sc__law_changed.nd) (sx_one (sx_expr (ex_m PySem.F.plainAttrs_list PySem.F.slot_list_extend PySem.F.type_list_extend me_extend (xv 2) (ea_cons (ex_el (el_comp (own := [(("x" : PySem.Str), 5)]) (by rfl) sc__law_changed.nd (ei_range1 (by rfl) z_range (ex_callB c_len (by rfl) z_len bt_len (ea_cons (ex_ix m_ix (ex_ix m_ix (xv 1) ex_int) (xv 3)) ea_nil))) (blkOk_by (N := N__law_changed) (sc := (defScope s__law_changed)) (by decide +kernel)) (fun _ _ _ _ _ => (eg_name sc__law_changed.nd)) (fun _ _ _ _ _ => ets_nil) (fun _ _ _ _ _ => (ex_tup (ea_cons (xv 3) (ea_cons (xv 5) ea_nil)))))) ea_nil)))))
    (sx_cons (sx_set sc__law_changed.nd (ex_c1 c__law_draw tk hr (by decide) (ea_cons (xv 0) (ea_cons ex_int ea_nil))))
    (sx_cons (sx_if (Ew.et (ew_and (et_cmp m_lt (xv 4) ex_int (nomark _)) (ew_and1 (et_cmp m_gt (ex_callB c_len (by rfl) z_len bt_len (ea_cons (xv 2) ea_nil)) ex_int (nomark _))))) (sx_cons (sx_asg (ex_c1 c__law_pick tk hr (by decide) (ea_cons (xv 0) (ea_cons (xv 2) ea_nil))) (eg_tup (by rfl) (egs_cons sc__law_changed.nd (egs_cons sc__law_changed.nd egs_nil))))
    (sx_cons (sx_set sc__law_changed.nd (ex_c1 c__law_put tk hr (by decide) (ea_cons (ex_ix m_ix (ex_ix m_ix (xv 1) ex_int) (xv 3)) (ea_cons (xv 5) (ea_cons (ex_c1 c__law_changed_question tk hr (by decide) (ea_cons (xv 0) (ea_cons (xv 1) (ea_cons (xv 3) (ea_cons (xv 5) ea_nil))))) ea_nil)))))
    (sx_one (sx_ret (ex_op m_add (ex_sl (xv 1) eo_none (eo_some ex_int)) (ex_tup (ea_cons (ex_c1 c__law_put tk hr (by decide) (ea_cons (ex_ix m_ix (xv 1) ex_int) (ea_cons (xv 3) (ea_cons (xv 6) ea_nil)))) ea_nil))))))) sx_nil)
    (sx_cons (sx_if (et_cmp (m_eq hr.units) (xv 4) ex_int (nomark _)) (sx_one (sx_ret (ex_op m_add (ex_tup (ea_cons (ex_c1 c__law_pick tk hr (by decide) (ea_cons (xv 0) (ea_cons (ex_lst (ea_cons (ex_strc [104, 111, 117, 115, 101, 115] (by decide +kernel)) (ea_cons (ex_strc [] (by decide +kernel)) (ea_cons (ex_strc [72, 111, 117, 115, 101] (by decide +kernel)) ea_nil)))) ea_nil))) ea_nil)) (ex_sl (xv 1) (eo_some ex_int) eo_none)))) sx_nil)
    (sx_cons (sx_if (et_cmp (m_eq hr.units) (xv 4) ex_int (nomark _)) (sx_one (sx_ret (ex_op m_add (ex_op m_add (ex_sl (xv 1) eo_none (eo_some ex_int)) (ex_tup (ea_cons (ex_c1 c__law_longer tk hr (by decide) (ea_cons (xv 0) (ea_cons (ex_ix m_ix (xv 1) ex_int) (ea_cons ex_int ea_nil)))) ea_nil))) (ex_sl (xv 1) (eo_some ex_int) eo_none)))) sx_nil)
    (sx_cons (sx_if (Ew.et (ew_and (et_cmp (m_eq hr.units) (xv 4) ex_int (nomark _)) (ew_and1 (et_cmp (m_eq hr.units) (ex_c1 c__law_draw tk hr (by decide) (ea_cons (xv 0) (ea_cons ex_int ea_nil))) ex_int (nomark _))))) (sx_one (sx_ret (ex_op m_add (ex_sl (xv 1) eo_none (eo_some ex_int)) (ex_tup (ea_cons (ex_tup ea_nil) ea_nil))))) sx_nil)
    (sx_cons (sx_set sc__law_changed.nd (ex_c1 c__law_draw tk hr (by decide) (ea_cons (xv 0) (ea_cons (ex_callB c_len (by rfl) z_len bt_len (ea_cons (ex_ix m_ix (xv 1) ex_int) ea_nil)) ea_nil))))
    (sx_one (sx_ret (ex_op m_add (ex_op m_add (ex_sl (xv 1) eo_none (eo_some ex_int)) (ex_tup (ea_cons (ex_c1 c__law_put tk hr (by decide) (ea_cons (ex_ix m_ix (xv 1) ex_int) (ea_cons (xv 7) (ea_cons (ex_c1 c__law_odd_number tk hr (by decide) (ea_cons (xv 0) (ea_cons (ex_op m_pow ex_int ex_int) ea_nil))) ea_nil)))) ea_nil))) (ex_sl (xv 1) (eo_some ex_int) eo_none))))))))))))
def N__law_judged : List PySem.Str := ["house", "told"]
theorem sc__law_judged : FnScope N__law_judged ["house"] (defScope s__law_judged) := ⟨rfl, rfl, rfl, by decide +kernel, rfl, by decide +kernel, by decide +kernel⟩
def m__law_judged (f_is_house : FM) (f__law_is_house : FM) : SM := (sSeq (sSet 1 (eCall 1 f_is_house (aCons (eVar 0) aNil)))
    (sRet (eAnd (eCB fIsi (aCons (eVar 1) (aCons (eC (.ty "bool")) aNil))) (eBin oEq (eVar 1) (eCall 1 f__law_is_house (aCons (eVar 0) aNil))))))
theorem ok__law_judged {P : Program} {w : World} {K : PySem.W.Frag} {mg : PySem.Str → Option Value} {base : Heap} {f : Addr} {fd : FuncData} {f_is_house f__law_is_house : FM} (F : FnP K "_law_judged" s__law_judged f fd) (gx : mg "_law_judged" = some (.ref f)) (c_is_house : Cal P w K mg base "is_house" 3 ["house"] f_is_house) (c__law_is_house : Cal P w K mg base "_law_is_house" 2 ["house"] f__law_is_house) (z_bool : mg "bool" = none) (z_isinstance : mg "isinstance" = none) :
    Cal P w K mg base "_law_judged" 4 ["house"] (runB 2 (m__law_judged f_is_house f__law_is_house)) :=
  cal_mk (k := 3) F sc__law_judged gx (fun _ _ _ _ _ _ us hl => match us, hl with | [_], _ => rfl) fun cdv A outer s H E hr tk hp =>
    (sx_cons (sx_set sc__law_judged.nd (ex_c1 c_is_house tk hr (by decide) (ea_cons (xv 0) ea_nil)))
    (sx_one (sx_ret (ex_and (ex_callB c_isi (by rfl) z_isinstance bt_isinstance (ea_cons (xv 1) (ea_cons (ex_bltn (by rfl) z_bool bt_bool (by rfl) (fun _ _ => .ty _)) ea_nil))) (ex_one (ex_cmp (m_eq hr.units) (xv 1) (ex_c1 c__law_is_house tk hr (by decide) (ea_cons (xv 0) ea_nil)) (nomark _)))))))
def N_law : List PySem.Str := ["script", "d", "kinds", "reader", "near", "wide", "sizes", "at", "house", "turn", "told"]
theorem sc_law : FnScope N_law ["script"] (defScope s_law) := ⟨rfl, rfl, rfl, by decide +kernel, rfl, by decide +kernel, by decide +kernel⟩
def m_law (f__law_begin : FM) (f__law_rare : FM) (f__law_draw : FM) (f__law_reader : FM) (f__law_near : FM) (f__law_world : FM) (f__law_judged : FM) (f__law_is_house : FM) (f__law_changed : FM) (f_all_lots : FM) (f__law_is_ints : FM) : SM := (sSeq (sSet 1 (eCall 1 f__law_begin (aCons (eVar 0) aNil)))
    (sSeq (sSet 2 (eIf (tVal (eCall 2 f__law_rare (aCons (eVar 1) (aCons (eC (.int 9)) aNil)))) (eC (.int 5)) (eBin oAdd (eC (.int 1)) (eCall 2 f__law_draw (aCons (eVar 1) (aCons (eC (.int 3)) aNil))))))
    (sSeq (sSet 3 (eCall 3 f__law_reader (aCons (eVar 1) (aCons (eVar 2) (aCons (eIf (tVal (eCall 2 f__law_rare (aCons (eVar 1) (aCons (eC (.int 25)) aNil)))) (eC (.int 40)) (eBin oAdd (eC (.int 1)) (eCall 2 f__law_draw (aCons (eVar 1) (aCons (eC (.int 4)) aNil))))) aNil)))))
    (sSeq (sSet 4 (eCall 2 f__law_near (aCons (eVar 1) (aCons (eVar 2) aNil))))
    (sSeq (sSet 5 (eBin oEq (eCall 2 f__law_draw (aCons (eVar 1) (aCons (eC (.int 3)) aNil))) (eC (.int 1))))
    (sSeq (sSet 6 (eLst (aCons (eBin oAdd (eC (.int 1)) (eCall 2 f__law_draw (aCons (eVar 1) (aCons (eC (.int 4)) aNil)))) (aCons (eBin oAdd (eC (.int 1)) (eCall 2 f__law_draw (aCons (eVar 1) (aCons (eC (.int 3)) aNil)))) (aCons (eCall 2 f__law_draw (aCons (eVar 1) (aCons (eC (.int 4)) aNil))) (aCons (eBin oAdd (eC (.int 1)) (eCall 2 f__law_draw (aCons (eVar 1) (aCons (eC (.int 4)) aNil)))) aNil))))))
    (sSeq (sIf (tVal (eCall 2 f__law_rare (aCons (eVar 1) (aCons (eC (.int 9)) aNil)))) (sSeq (sSet 7 (eCall 2 f__law_draw (aCons (eVar 1) (aCons (eC (.int 4)) aNil))))
    (sSub (eVar 6) (eVar 7) (eBin oIx (eLst (aCons (eC (.int 5)) (aCons (eC (.int 60)) (aCons (eC (.int 8)) (aCons (eC (.int 12)) aNil))))) (eVar 7)))) sNil)
    (sSeq (sSet 8 (eCall 5 f__law_world (aCons (eVar 1) (aCons (eVar 3) (aCons (eVar 4) (aCons (eVar 6) (aCons (eVar 5) aNil)))))))
    (sSeq (sIf (tOr (HM.tNot (tVal (eCall 1 f__law_judged (aCons (eVar 8) aNil)))) (HM.tNot (tVal (eCall 1 f__law_is_house (aCons (eVar 8) aNil))))) (sRet (eC (.bl false))) sNil)
    (sSeq (sFor (iRg1 (eC (.int 3))) (gN 9) (sIf (HM.tNot (tVal (eCall 1 f__law_judged (aCons (eCall 2 f__law_changed (aCons (eVar 1) (aCons (eVar 8) aNil))) aNil)))) (sRet (eC (.bl false))) sNil))
    (sSeq (sSet 7 (eCall 2 f__law_draw (aCons (eVar 1) (aCons (eC (.int 4)) aNil))))
    (sSeq (sSet 6 (eLst (aCons (eBin oAdd (eC (.int 1)) (eCall 2 f__law_draw (aCons (eVar 1) (aCons (eC (.int 3)) aNil)))) (aCons (eBin oAdd (eC (.int 1)) (eCall 2 f__law_draw (aCons (eVar 1) (aCons (eC (.int 3)) aNil)))) (aCons (eBin oAdd (eC (.int 1)) (eCall 2 f__law_draw (aCons (eVar 1) (aCons (eC (.int 2)) aNil)))) (aCons (eBin oAdd (eC (.int 1)) (eCall 2 f__law_draw (aCons (eVar 1) (aCons (eC (.int 3)) aNil)))) aNil))))))
    (sSeq (sSub (eVar 6) (eVar 7) (eBin oAdd (eBin oIx (eLst (aCons (eC (.int 5)) (aCons (eC (.int 60)) (aCons (eC (.int 8)) (aCons (eC (.int 12)) aNil))))) (eVar 7)) (eCall 2 f__law_draw (aCons (eVar 1) (aCons (eC (.int 2)) aNil)))))
    (sSeq (sIf (HM.tNot (tVal (eCall 1 f__law_judged (aCons (eCall 5 f__law_world (aCons (eVar 1) (aCons (eVar 3) (aCons (eVar 4) (aCons (eVar 6) (aCons (eVar 5) aNil)))))) aNil)))) (sRet (eC (.bl false))) sNil)
    (sSeq (sSet 10 (eCall 1 f_all_lots (aCons (eVar 8) aNil)))
    (sRet (eAnd (eCall 1 f__law_judged (aCons (eVar 8) aNil)) (eAnd (eCall 1 f__law_is_ints (aCons (eVar 10) aNil)) (eBin oEq (eVar 10) (eRg1 kTup (eCB fLen (aCons (eBin oIx (eVar 8) (eC (.int 3))) aNil))))))))))))))))))))))
theorem ok_law {P : Program} {w : World} {K : PySem.W.Frag} {mg : PySem.Str → Option Value} {base : Heap} {f : Addr} {fd : FuncData} {f__law_begin f__law_rare f__law_draw f__law_reader f__law_near f__law_world f__law_judged f__law_is_house f__law_changed f_all_lots f__law_is_ints : FM} (F : FnP K "law" s_law f fd) (c__law_begin : Cal P w K mg base "_law_begin" 1 ["script"] f__law_begin) (c__law_rare : Cal P w K mg base "_law_rare" 2 ["d", "many"] f__law_rare) (c__law_draw : Cal P w K mg base "_law_draw" 1 ["d", "many"] f__law_draw) (c__law_reader : Cal P w K mg base "_law_reader" 2 ["d", "kinds", "states"] f__law_reader) (c__law_near : Cal P w K mg base "_law_near" 2 ["d", "kinds"] f__law_near) (c__law_world : Cal P w K mg base "_law_world" 6 ["d", "reader", "near", "sizes", "wide"] f__law_world) (c__law_judged : Cal P w K mg base "_law_judged" 4 ["house"] f__law_judged) (c__law_is_house : Cal P w K mg base "_law_is_house" 2 ["house"] f__law_is_house) (c__law_changed : Cal P w K mg base "_law_changed" 6 ["d", "house"] f__law_changed) (c_all_lots : Cal P w K mg base "all_lots" 1 ["house"] f_all_lots) (c__law_is_ints : Cal P w K mg base "_law_is_ints" 2 ["row"] f__law_is_ints) (z_range : mg "range" = none) (z_len : mg "len" = none) (z_tuple : mg "tuple" = none) :
    FnM P w K mg base 7 f fd ["script"] (runB 11 (m_law f__law_begin f__law_rare f__law_draw f__law_reader f__law_near f__law_world f__law_judged f__law_is_house f__law_changed f_all_lots f__law_is_ints)) :=
  fn_def (k := 6) F sc_law fun cdv A outer s H E hr tk hp =>
    (sx_cons (sx_set sc_law.nd (ex_c1 c__law_begin tk hr (by decide) (ea_cons (xv 0) ea_nil)))
    (sx_cons (sx_set sc_law.nd (ex_if (et_val (ex_c1 c__law_rare tk hr (by decide) (ea_cons (xv 1) (ea_cons ex_int ea_nil)))) ex_int (ex_op m_add ex_int (ex_c1 c__law_draw tk hr (by decide) (ea_cons (xv 1) (ea_cons ex_int ea_nil))))))
    (sx_cons (sx_set sc_law.nd (ex_c1 c__law_reader tk hr (by decide) (ea_cons (xv 1) (ea_cons (xv 2) (ea_cons (ex_if (et_val (ex_c1 c__law_rare tk hr (by decide) (ea_cons (xv 1) (ea_cons ex_int ea_nil)))) ex_int (ex_op m_add ex_int (ex_c1 c__law_draw tk hr (by decide) (ea_cons (xv 1) (ea_cons ex_int ea_nil))))) ea_nil)))))
    (sx_cons (sx_set sc_law.nd (ex_c1 c__law_near tk hr (by decide) (ea_cons (xv 1) (ea_cons (xv 2) ea_nil))))
    (sx_cons (sx_set sc_law.nd (ex_cmp (m_eq hr.units) (ex_c1 c__law_draw tk hr (by decide) (ea_cons (xv 1) (ea_cons ex_int ea_nil))) ex_int (nomark _)))
    (sx_cons (sx_set sc_law.nd (ex_lst (ea_cons (ex_op m_add ex_int (ex_c1 c__law_draw tk hr (by decide) (ea_cons (xv 1) (ea_cons ex_int ea_nil)))) (ea_cons (ex_op m_add ex_int (ex_c1 c__law_draw tk hr (by decide) (ea_cons (xv 1) (ea_cons ex_int ea_nil)))) (ea_cons (ex_c1 c__law_draw tk hr (by decide) (ea_cons (xv 1) (ea_cons ex_int ea_nil))) (ea_cons (ex_op m_add ex_int (ex_c1 c__law_draw tk hr (by decide) (ea_cons (xv 1) (ea_cons ex_int ea_nil)))) ea_nil))))))
    (sx_cons (sx_if (et_val (ex_c1 c__law_rare tk hr (by decide) (ea_cons (xv 1) (ea_cons ex_int ea_nil)))) (sx_cons (sx_set sc_law.nd (ex_c1 c__law_draw tk hr (by decide) (ea_cons (xv 1) (ea_cons ex_int ea_nil))))
    (sx_one (sx_sub (ex_ix m_ix (ex_lst (ea_cons ex_int (ea_cons ex_int (ea_cons ex_int (ea_cons ex_int ea_nil))))) (xv 7)) (xv 6) (xv 7)))) sx_nil)
    (sx_cons (sx_set sc_law.nd (ex_c1 c__law_world tk hr (by decide) (ea_cons (xv 1) (ea_cons (xv 3) (ea_cons (xv 4) (ea_cons (xv 6) (ea_cons (xv 5) ea_nil)))))))
    (sx_cons (sx_if (Ew.et (ew_or (et_not (et_val (ex_c1 c__law_judged tk hr (by decide) (ea_cons (xv 8) ea_nil)))) (ew_or1 (et_not (et_val (ex_c1 c__law_is_house tk hr (by decide) (ea_cons (xv 8) ea_nil))))))) (sx_one (sx_ret ex_bl)) sx_nil)
    (sx_cons (sx_for hp (by rfl) (ei_range1 (by rfl) z_range ex_int) (eg_name sc_law.nd) (sx_one (sx_if (et_not (et_val (ex_c1 c__law_judged tk hr (by decide) (ea_cons (ex_c1 c__law_changed tk hr (by decide) (ea_cons (xv 1) (ea_cons (xv 8) ea_nil))) ea_nil)))) (sx_one (sx_ret ex_bl)) sx_nil)))
    (sx_cons (sx_set sc_law.nd (ex_c1 c__law_draw tk hr (by decide) (ea_cons (xv 1) (ea_cons ex_int ea_nil))))
    (sx_cons (sx_set sc_law.nd (ex_lst (ea_cons (ex_op m_add ex_int (ex_c1 c__law_draw tk hr (by decide) (ea_cons (xv 1) (ea_cons ex_int ea_nil)))) (ea_cons (ex_op m_add ex_int (ex_c1 c__law_draw tk hr (by decide) (ea_cons (xv 1) (ea_cons ex_int ea_nil)))) (ea_cons (ex_op m_add ex_int (ex_c1 c__law_draw tk hr (by decide) (ea_cons (xv 1) (ea_cons ex_int ea_nil)))) (ea_cons (ex_op m_add ex_int (ex_c1 c__law_draw tk hr (by decide) (ea_cons (xv 1) (ea_cons ex_int ea_nil)))) ea_nil))))))
    (sx_cons (sx_sub (ex_op m_add (ex_ix m_ix (ex_lst (ea_cons ex_int (ea_cons ex_int (ea_cons ex_int (ea_cons ex_int ea_nil))))) (xv 7)) (ex_c1 c__law_draw tk hr (by decide) (ea_cons (xv 1) (ea_cons ex_int ea_nil)))) (xv 6) (xv 7))
    (sx_cons (sx_if (et_not (et_val (ex_c1 c__law_judged tk hr (by decide) (ea_cons (ex_c1 c__law_world tk hr (by decide) (ea_cons (xv 1) (ea_cons (xv 3) (ea_cons (xv 4) (ea_cons (xv 6) (ea_cons (xv 5) ea_nil)))))) ea_nil)))) (sx_one (sx_ret ex_bl)) sx_nil)
    (sx_cons (sx_set sc_law.nd (ex_c1 c_all_lots tk hr (by decide) (ea_cons (xv 8) ea_nil)))
    (sx_one (sx_ret (ex_and (ex_c1 c__law_judged tk hr (by decide) (ea_cons (xv 8) ea_nil)) (ex_and (ex_c1 c__law_is_ints tk hr (by decide) (ea_cons (xv 10) ea_nil)) (ex_one (ex_cmp (m_eq hr.units) (xv 10) (ex_tupRg1 (by rfl) (by rfl) z_tuple (by rfl) z_range (ex_callB c_len (by rfl) z_len bt_len (ea_cons (ex_ix m_ix (xv 8) ex_int) ea_nil))) (nomark _))))))))))))))))))))))
end K29

namespace K29
open PySem PySem.Spec PyProof.Rows L2 HM

def f_all_lots : FM := runB 1 (m_all_lots)
theorem le_all_lots : ∀ ds st, Le st (runB 1 (m_all_lots) ds st) (f_all_lots ds st) := fun _ _ => .refl _
def f_is_row : FM := runB 3 (m_is_row)
theorem le_is_row : ∀ ds st, Le st (runB 3 (m_is_row) ds st) (f_is_row ds st) := fun _ _ => .refl _
def f_is_choice : FM := runB 4 (m_is_choice)
theorem le_is_choice : ∀ ds st, Le st (runB 4 (m_is_choice) ds st) (f_is_choice ds st) := fun _ _ => .refl _
def f_are_goes : FM := runB 4 (m_are_goes)
theorem le_are_goes : ∀ ds st, Le st (runB 4 (m_are_goes) ds st) (f_are_goes ds st) := fun _ _ => .refl _
def f_is_question : FM := runB 8 (m_is_question f_are_goes f_is_row f_is_choice)
theorem le_is_question : ∀ ds st, Le st (runB 8 (m_is_question f_are_goes f_is_row f_is_choice) ds st) (f_is_question ds st) := fun _ _ => .refl _
def f_are_lots : FM := runB 2 (m_are_lots)
theorem le_are_lots : ∀ ds st, Le st (runB 2 (m_are_lots) ds st) (f_are_lots ds st) := fun _ _ => .refl _
def f_is_house : FM := runB 8 (m_is_house f_are_lots f_is_question)
theorem le_is_house : ∀ ds st, Le st (runB 8 (m_is_house f_are_lots f_is_question) ds st) (f_is_house ds st) := fun _ _ => .refl _
def f__law_begin : FM := runB 2 (m__law_begin)
theorem le__law_begin : ∀ ds st, Le st (runB 2 (m__law_begin) ds st) (f__law_begin ds st) := fun _ _ => .refl _
def f__law_draw : FM := runB 5 (m__law_draw)
theorem le__law_draw : ∀ ds st, Le st (runB 5 (m__law_draw) ds st) (f__law_draw ds st) := fun _ _ => .refl _
def f__law_pick : FM := runB 2 (m__law_pick f__law_draw)
theorem le__law_pick : ∀ ds st, Le st (runB 2 (m__law_pick f__law_draw) ds st) (f__law_pick ds st) := fun _ _ => .refl _
def f__law_rare : FM := runB 2 (m__law_rare f__law_draw)
theorem le__law_rare : ∀ ds st, Le st (runB 2 (m__law_rare f__law_draw) ds st) (f__law_rare ds st) := fun _ _ => .refl _
def f__law_is_int : FM := runB 1 (m__law_is_int)
theorem le__law_is_int : ∀ ds st, Le st (runB 1 (m__law_is_int) ds st) (f__law_is_int ds st) := fun _ _ => .refl _
def f__law_is_ints : FM := runB 2 (m__law_is_ints f__law_is_int)
theorem le__law_is_ints : ∀ ds st, Le st (runB 2 (m__law_is_ints f__law_is_int) ds st) (f__law_is_ints ds st) := fun _ _ => .refl _
def f__law_all_edits : FM := runB 4 (m__law_all_edits)
theorem le__law_all_edits : ∀ ds st, Le st (runB 4 (m__law_all_edits) ds st) (f__law_all_edits ds st) := fun _ _ => .refl _
def f__law_near : FM := runB 6 (m__law_near f__law_all_edits f__law_draw)
theorem le__law_near : ∀ ds st, Le st (runB 6 (m__law_near f__law_all_edits f__law_draw) ds st) (f__law_near ds st) := fun _ _ => .refl _
def f__law_reader : FM := runB 8 (m__law_reader f__law_draw)
theorem le__law_reader : ∀ ds st, Le st (runB 8 (m__law_reader f__law_draw) ds st) (f__law_reader ds st) := fun _ _ => .refl _
def f__law_put : FM := runB 3 (m__law_put)
theorem le__law_put : ∀ ds st, Le st (runB 3 (m__law_put) ds st) (f__law_put ds st) := fun _ _ => .refl _
def f__law_weight : FM := runB 2 (m__law_weight f__law_draw f__law_pick)
theorem le__law_weight : ∀ ds st, Le st (runB 2 (m__law_weight f__law_draw f__law_pick) ds st) (f__law_weight ds st) := fun _ _ => .refl _
def f__law_weights : FM := runB 5 (m__law_weights f__law_weight f__law_draw)
theorem le__law_weights : ∀ ds st, Le st (runB 5 (m__law_weights f__law_weight f__law_draw) ds st) (f__law_weights ds st) := fun _ _ => .refl _
def f__law_one_question : FM := runB 10 (m__law_one_question f__law_draw f__law_weights)
theorem le__law_one_question : ∀ ds st, Le st (runB 10 (m__law_one_question f__law_draw f__law_weights) ds st) (f__law_one_question ds st) := fun _ _ => .refl _
def f__law_world : FM := runB 13 (m__law_world f__law_draw f__law_one_question f__law_weight)
theorem le__law_world : ∀ ds st, Le st (runB 13 (m__law_world f__law_draw f__law_one_question f__law_weight) ds st) (f__law_world ds st) := fun _ _ => .refl _
def f__law_is_question : FM := runB 11 (m__law_is_question)
theorem le__law_is_question : ∀ ds st, Le st (runB 11 (m__law_is_question) ds st) (f__law_is_question ds st) := fun _ _ => .refl _
def f__law_is_house : FM := runB 9 (m__law_is_house f__law_is_question)
theorem le__law_is_house : ∀ ds st, Le st (runB 9 (m__law_is_house f__law_is_question) ds st) (f__law_is_house ds st) := fun _ _ => .refl _
def f__law_odd_number : FM := runB 5 (m__law_odd_number f__law_draw f__law_pick)
theorem le__law_odd_number : ∀ ds st, Le st (runB 5 (m__law_odd_number f__law_draw f__law_pick) ds st) (f__law_odd_number ds st) := fun _ _ => .refl _
def f__law_longer : FM := runB 4 (m__law_longer f__law_draw)
theorem le__law_longer : ∀ ds st, Le st (runB 4 (m__law_longer f__law_draw) ds st) (f__law_longer ds st) := fun _ _ => .refl _
def f__law_changed_rows : FM := runB 10 (m__law_changed_rows f__law_draw f__law_longer f__law_put f__law_odd_number)
theorem le__law_changed_rows : ∀ ds st, Le st (runB 10 (m__law_changed_rows f__law_draw f__law_longer f__law_put f__law_odd_number) ds st) (f__law_changed_rows ds st) := fun _ _ => .refl _
def f__law_changed_goes : FM := runB 9 (m__law_changed_goes f__law_draw f__law_longer f__law_put f__law_pick f__law_odd_number)
theorem le__law_changed_goes : ∀ ds st, Le st (runB 9 (m__law_changed_goes f__law_draw f__law_longer f__law_put f__law_pick f__law_odd_number) ds st) (f__law_changed_goes ds st) := fun _ _ => .refl _
def f__law_changed_question : FM := runB 8 (m__law_changed_question f__law_draw f__law_pick f__law_changed_rows f__law_changed_goes)
theorem le__law_changed_question : ∀ ds st, Le st (runB 8 (m__law_changed_question f__law_draw f__law_pick f__law_changed_rows f__law_changed_goes) ds st) (f__law_changed_question ds st) := fun _ _ => .refl _
def f__law_changed : FM := runB 8 (m__law_changed f__law_draw f__law_pick f__law_put f__law_changed_question f__law_longer f__law_odd_number)
theorem le__law_changed : ∀ ds st, Le st (runB 8 (m__law_changed f__law_draw f__law_pick f__law_put f__law_changed_question f__law_longer f__law_odd_number) ds st) (f__law_changed ds st) := fun _ _ => .refl _
def f__law_judged : FM := runB 2 (m__law_judged f_is_house f__law_is_house)
theorem le__law_judged : ∀ ds st, Le st (runB 2 (m__law_judged f_is_house f__law_is_house) ds st) (f__law_judged ds st) := fun _ _ => .refl _
def f_law : FM := runB 11 (m_law f__law_begin f__law_rare f__law_draw f__law_reader f__law_near f__law_world f__law_judged f__law_is_house f__law_changed f_all_lots f__law_is_ints)
theorem le_law : ∀ ds st, Le st (runB 11 (m_law f__law_begin f__law_rare f__law_draw f__law_reader f__law_near f__law_world f__law_judged f__law_is_house f__law_changed f_all_lots f__law_is_ints) ds st) (f_law ds st) := fun _ _ => .refl _

def itup (cs : List Int) : D := .tup (cs.map D.int)

/-! draws -/
theorem r_begin {ns : List Int} (hl : ns.length ≤ 63) : ∃ st', f__law_begin [.rol (ns.map D.int)] [] = .ok (.ref 1) st' ∧ DS ns st' ∧ st'.length = 2 := by
  obtain ⟨ys, st1, e, ⟨h1, h2⟩, hl2⟩ := comp_inv (q := .fix (ns.map D.int)) (set := gN 1) (fe := eCB fInt (aCons (eVar 1) aNil)) (τ := [some (.rol (ns.map D.int)), none]) (fun acc s => acc = (ns.map D.int).take acc.length ∧ s = ([] : Store)) (fun _ _ _ => rfl) (ns.map D.int) [] [] ⟨rfl, rfl⟩ fun i d acc s hi ha hp => by
    obtain ⟨h1, rfl⟩ := hp
    refine ⟨_, rfl, d, [], ?_, ?_, rfl⟩
    · have : ∃ k, d = .int k := by
        rw [List.getElem?_map] at hi
        cases hz : ns[i]? with
        | none => simp [hz] at hi
        | some k => exact ⟨k, by simpa [hz] using hi.symm⟩
      obtain ⟨k, rfl⟩ := this
      simp [gN]
    · simp only [List.length_nil, Nat.zero_add] at ha
      rw [List.length_append, List.length_singleton, ha, List.take_succ, hi, ← ha, ← h1]
      rfl
  have hy : ys = ns.map D.int := by
    rw [h1, List.take_of_length_le]
    simp at hl2
    simp [hl2]
  subst hy h2
  refine ⟨[.lst (ns.map D.int), .lst [.ref 0, .int 0, .int 0, .int 7]], ?_, ⟨rfl, 0, 0, 7, by decide, rfl⟩, rfl⟩
  have e : compL (.fix (ns.map D.int)) (gN 1) tYes (eCB fInt (aCons (eVar 1) aNil)) (wipeD [some (.rol (ns.map D.int)), none] [1]) (ns.map D.int) [] [] = .ok (ns.map D.int) [] := e
  have hs : ns.length ≤ 16777216 := by omega
  simp [f__law_begin, runB_e, m__law_begin, lComp_e, lc1, hs, e]
theorem r_draw {ns : List Int} {st : Store} {many : Int} (H : DS ns st) (h0 : 0 < many) (h1 : many.natAbs.log2 < 9000) :
    ∃ v st', f__law_draw [.ref 1, .int many] st = .ok (.int v) st' ∧ 0 ≤ v ∧ v < many ∧ DS ns st' ∧ Fr st st' := by
  obtain ⟨c0, p, h, q, hp, c1⟩ := H
  have set1 : ∀ p' h' q' : Int, 0 ≤ p' → ∀ s, s = st ∨ (∃ ys, s = st.set 1 (.lst ys)) ∨ (∃ ys zs, s = (st.set 1 (.lst ys)).set 1 (.lst zs)) → DS ns (s.set 1 (.lst [.ref 0, .int p', .int h', .int q'])) ∧ Fr st (s.set 1 (.lst [.ref 0, .int p', .int h', .int q'])) := by
    intro p' h' q' hp' s hs
    have e : s.set 1 (.lst [.ref 0, .int p', .int h', .int q']) = st.set 1 (.lst [.ref 0, .int p', .int h', .int q']) := by
      rcases hs with rfl | ⟨ys, rfl⟩ | ⟨ys, zs, rfl⟩ <;> simp [List.set_set]
    rw [e]
    refine ⟨⟨by rw [lstAt_ne (by decide)]; exact c0, p', h', q', hp', lstAt_set c1⟩, by simp, fun n hn _ => ?_⟩
    rw [List.getElem?_set_ne (Ne.symm hn)]
  have od : ∀ i, okDiv i many = true := fun i => okDiv_of (by omega) h1
  have om : ∀ i, okMod i many = true := fun i => okMod_of (by omega)
  have b0 : ∀ i : Int, 0 ≤ i.fmod many := fun i => Int.fmod_nonneg_of_pos i h0
  have b1 : ∀ i : Int, i.fmod many < many := fun i => Int.fmod_lt_of_pos i h0
  unfold f__law_draw
  rw [runB_e]
  unfold m__law_draw
  by_cases hh : 0 < h
  · obtain ⟨d1, d2⟩ := set1 p (h.fdiv many) q hp st (.inl rfl)
    refine ⟨h.fmod many, _, ?_, b0 _, b1 _, d1, d2⟩
    have x2 : ixN 4 2 = some 2 := rfl
    simp [oIx_ref c1, hh, od, om, oSet_ref c1, x2]
  · -- the size of the script's number here
    have main : ∀ (size : Int) (c : Option D), (0 ≤ size) → ∃ v st', ((sSeq (sAugS oIAdd (eVar 0) (eC (.int 1)) (eC (.int 1)))
        (sSeq (sIf (tBl (eBin oGe (eVar 3) (eBin oMul (eC (.int 2)) (eBin oPow (eC (.int 10)) (eC (.int 18)))))) (sSeq (sSet 2 (eBin oMod (eCB fInt (aCons (eBin oDiv (eVar 3) (eC (.int 2))) aNil)) (eBin oShl (eC (.int 1)) (eC (.int 6000)))))
        (sSeq (sSub (eVar 0) (eC (.int 2)) (eBin oDiv (eVar 2) (eVar 1)))
        (sRet (eBin oMod (eCB fInt (aCons (eVar 2) aNil)) (eVar 1))))) sNil)
        (sSeq (sSub (eVar 0) (eC (.int 3)) (eBin oMod (eCB fInt (aCons (eBin oAdd (eBin oAdd (eBin oAdd (eBin oMul (eBin oIx (eVar 0) (eC (.int 3))) (eC (.int 48271))) (eBin oMul (eBin oMod (eCB fInt (aCons (eVar 3) aNil)) (eC (.int 2147483629))) (eC (.int 16807)))) (eBin oMul (eBin oIx (eVar 0) (eC (.int 1))) (eC (.int 69621)))) (eC (.int 11))) aNil)) (eC (.int 2147483647))))
        (sRet (eBin oMod (eCB fInt (aCons (eBin oDiv (eBin oIx (eVar 0) (eC (.int 3))) (eC (.int 16))) aNil)) (eVar 1)))))) [some (.ref 1), some (.int many), none, some (.int size), c] st).fin = .ok (.int v) st' ∧ 0 ≤ v ∧ v < many ∧ DS ns st' ∧ Fr st st' := by
      intro size c hs
      have x1 : ixN 4 1 = some 1 := rfl
      have x2 : ixN 4 2 = some 2 := rfl
      have x3 : ixN 4 3 = some 3 := rfl
      obtain ⟨st1, e1⟩ : ∃ st1, st1 = st.set 1 (.lst [.ref 0, .int (p + 1), .int h, .int q]) := ⟨_, rfl⟩
      have l1 : lstAt st1 1 = some [.ref 0, .int (p + 1), .int h, .int q] := by
        rw [e1]
        exact lstAt_set c1
      have d48 : okMul q 48271 = true := okMul_r (by decide)
      have d16 : ∀ i, okMul i 16807 = true := fun i => okMul_r (by decide)
      have d69 : ∀ i, okMul i 69621 = true := fun i => okMul_r (by decide)
      have m1 : ∀ i, okMod i 2147483629 = true := fun i => okMod_of (by decide)
      have m2 : ∀ i, okMod i 2147483647 = true := fun i => okMod_of (by decide)
      have v16 : ∀ i, okDiv i 16 = true := fun i => okDiv_of (by decide) (by decide)
      have v2 : ∀ i, okDiv i 2 = true := fun i => okDiv_of (by decide) (by decide)
      by_cases hz : 2000000000000000000 ≤ size
      · have p1 : okPow 10 18 = true := by decide
        have p2 : okMul 2 1000000000000000000 = true := okMul_r (by decide)
        have p3 : okPow 1 6000 = true := by decide
        obtain ⟨M, eM⟩ : ∃ M : Int, M = 2 ^ 6000 := ⟨_, rfl⟩
        have hM : M ≠ 0 := by
          have : (0 : Int) < 2 ^ 6000 := Int.pow_pos (by decide)
          omega
        have om2 : ∀ i, okMod i M = true := fun i => okMod_of hM
        obtain ⟨d1, d2⟩ := set1 (p + 1) (((size.fdiv 2).fmod M).fdiv many) q (by omega) st1 (.inr (.inl ⟨_, e1⟩))
        refine ⟨((size.fdiv 2).fmod M).fmod many, _, ?_, b0 _, b1 _, d1, d2⟩
        simp [oGetL_ref c1, oSet_ref c1, x1, x2, ← e1, hz, p1, p2, p3, v2, od, om, ← eM, om2, oSet_ref l1]
      · have p1 : okPow 10 18 = true := by decide
        have p2 : okMul 2 1000000000000000000 = true := okMul_r (by decide)
        obtain ⟨q', eq'⟩ : ∃ q', q' = (q * 48271 + size.fmod 2147483629 * 16807 + (p + 1) * 69621 + 11).fmod 2147483647 := ⟨_, rfl⟩
        obtain ⟨d1, d2⟩ := set1 (p + 1) h q' (by omega) st1 (.inr (.inl ⟨_, e1⟩))
        have l2 : lstAt (st1.set 1 (.lst [.ref 0, .int (p + 1), .int h, .int q'])) 1 = some [.ref 0, .int (p + 1), .int h, .int q'] := lstAt_set l1
        refine ⟨(q'.fdiv 16).fmod many, _, ?_, b0 _, b1 _, d1, d2⟩
        simp [oGetL_ref c1, oSet_ref c1, x1, x2, x3, ← e1, hz, p1, p2, v2, v16, od, om, m1, m2, d48, d16, d69, oIx_ref l1, oSet_ref l1, oIx_ref l2, ← eq']
    by_cases hp2 : p < ns.length
    · have hc : ∃ c : Int, atI (ns.map D.int) p = some (.int c) := by
        have hp3 : p.toNat < ns.length := by omega
        refine ⟨ns[p.toNat], ?_⟩
        have := atI_nat (xs := ns.map D.int) (j := p.toNat) (v := D.int ns[p.toNat]) (by simp [hp3])
        rwa [Int.toNat_of_nonneg hp] at this
      obtain ⟨c, hc⟩ := hc
      obtain ⟨v, st', e, r⟩ := main (2 * (c.natAbs : Nat) + (if c < 0 then 1 else 0)) (some (.int c)) (by split <;> omega)
      refine ⟨v, st', ?_, r⟩
      rw [← e]
      have k2 : okMul 2 (c.natAbs : Nat) = true := okMul_l (by decide)
      simp [oIx_ref c1, hh, oIx_ref c0, fLen_ref c0, hp2, hc, k2]
    · obtain ⟨v, st', e, r⟩ := main 0 none (by omega)
      refine ⟨v, st', ?_, r⟩
      rw [← e]
      simp [oIx_ref c1, hh, oIx_ref c0, fLen_ref c0, hp2]

theorem r_pick {ns : List Int} {st : Store} {m : Nat} {xs : List D} (H : DS ns st) (hx : lstAt st m = some xs) (hm : m ≠ 1) (h0 : 0 < xs.length) (h1 : xs.length < 2 ^ 60) :
    ∃ v st', f__law_pick [.ref 1, .ref m] st = .ok v st' ∧ v ∈ xs ∧ DS ns st' ∧ Fr st st' := by
  obtain ⟨v, s1, e, v0, v1, D1, F1⟩ := r_draw (many := (xs.length : Nat)) H (by omega) (by
    rw [Int.natAbs_natCast]
    have := log2_le h1
    omega)
  have hv : v.toNat < xs.length := by omega
  refine ⟨xs[v.toNat], s1, ?_, List.getElem_mem _, D1, F1⟩
  have ha : atI xs v = some xs[v.toNat] := by
    have := atI_nat (xs := xs) (j := v.toNat) (v := xs[v.toNat]) (by simp [hv])
    rwa [Int.toNat_of_nonneg v0] at this
  simp [f__law_pick, runB_e, m__law_pick, fLen_ref hx, e, oIx_ref (F1.lst hx hm), ha]

theorem r_rare {ns : List Int} {st : Store} {many : Int} (H : DS ns st) (h0 : 0 < many) (h1 : many.natAbs.log2 < 9000) :
    ∃ b st', f__law_rare [.ref 1, .int many] st = .ok (.bl b) st' ∧ DS ns st' ∧ Fr st st' := by
  obtain ⟨v, s1, e, v0, v1, D1, F1⟩ := r_draw H h0 h1
  have v2 : okDiv many 2 = true := okDiv_of (by decide) (by decide)
  exact ⟨decide (v = many.fdiv 2), s1, by simp [f__law_rare, runB_e, m__law_rare, e, v2], D1, F1⟩

theorem r_is_int {st : Store} {i : Int} : f__law_is_int [.int i] st = .ok (.bl true) st := by
  simp [f__law_is_int, runB_e, m__law_is_int]

inductive Ed where
  | cut (k : Int) | put (k : Int) | turn (k o : Int)
  deriving DecidableEq
def Ed.d : Ed → D
  | .cut k => .tup [.str [99, 117, 116], .int k]
  | .put k => .tup [.str [112, 117, 116], .int k]
  | .turn k o => .tup [.str [116, 117, 114, 110], .int k, .int o]
def eds (es : List Ed) : D := .tup (es.map Ed.d)
section
variable {ns : List Int} {st : Store}
theorem edd_inj {es : List Ed} : es.length = (es.map Ed.d).length := (List.length_map ..).symm
theorem r_all_edits {n : Nat} (hn : 0 < n) (h5 : n ≤ 5) : ∃ es st', f__law_all_edits [.int (n : Nat)] st = .ok (eds es) st' ∧ Gr st st' ∧ 0 < es.length ∧ es.length ≤ 100 := by
  have hr : ∀ s, rg1 (.int (n : Nat)) s = .ok (.fix (rng 0 n)) s := fun s => rg1_int (by omega)
  have hl : (rng 0 (n : Nat)).length ≤ 16777216 := by rw [rng_len]; omega
  have c1 : ∀ (w : List Nat) (s : Store), w.length = 3 → compL (.fix (rng 0 n)) (gN 2) HM.tYes (eTup (aCons (eC (.str w)) (aCons (eVar 2) aNil))) [some (.int (n : Nat)), none, none, none] (rng 0 n) [] s = .ok ((List.range n).map fun k => .tup [.str w, .int (k : Nat)]) s := fun w s hw => by
    have := comp_map (q := .fix (rng 0 n)) (set := gN 2) (fe := eTup (aCons (eC (.str w)) (aCons (eVar 2) aNil))) (τ := [some (.int (n : Nat)), none, none, none]) (st := s) rfl (fun k : Nat => D.int k) (fun k : Nat => .tup [.str w, .int (k : Nat)]) (List.range n) [] (fun k _ => ⟨[some (.int (n : Nat)), none, some (.int (k : Nat)), none], rfl, by simp⟩)
    rw [← rng_eq, List.nil_append] at this
    exact this
  have a1 := c1 [99, 117, 116] st rfl
  obtain ⟨A, eA⟩ : ∃ A, A = (List.range n).map fun k => Ed.cut (k : Nat) := ⟨_, rfl⟩
  obtain ⟨B, eB⟩ : ∃ B, B = (List.range n).map fun k => Ed.put (k : Nat) := ⟨_, rfl⟩
  have eA2 : ((List.range n).map fun k => D.tup [.str [99, 117, 116], .int (k : Nat)]) = A.map Ed.d := by rw [eA, List.map_map]; rfl
  have eB2 : ((List.range n).map fun k => D.tup [.str [112, 117, 116], .int (k : Nat)]) = B.map Ed.d := by rw [eB, List.map_map]; rfl
  have lA : A.length = n := by rw [eA]; simp
  have lB : B.length = n := by rw [eB]; simp
  have a2 := c1 [112, 117, 116] (st ++ [.lst (A.map Ed.d)]) rfl
  rw [eA2] at a1
  rw [eB2] at a2
  obtain ⟨s2, es2⟩ : ∃ s2, s2 = st ++ [.lst (A.map Ed.d), .lst (B.map Ed.d)] := ⟨_, rfl⟩
  have g1 : lstAt s2 st.length = some (A.map Ed.d) := by rw [es2]; simp [lstAt]
  have g2 : lstAt s2 (st.length + 1) = some (B.map Ed.d) := by rw [es2]; simp [lstAt]
  have g3 := oAdd_ref g1 g2 (by simp [lA, lB]; omega)
  rw [← List.map_append] at g3
  obtain ⟨AB, eAB⟩ : ∃ AB, AB = A ++ B := ⟨_, rfl⟩
  have lAB : AB.length = n + n := by rw [eAB, List.length_append, lA, lB]
  rw [← eAB] at g3
  obtain ⟨m, em⟩ : ∃ m, m = s2.length := ⟨_, rfl⟩
  have hm : st.length ≤ m := by rw [em, es2]; simp
  have Gs : Gr st s2 := ⟨_, es2⟩
  obtain ⟨τ', s4, e4, es, hτ, g4, l4, l5, G4⟩ := for_inv (q := .fix (rng 0 n)) (set := gN 2) (u := sExpr (eM "list" mExtend (eVar 1) (aCons (eEl (lComp [3] (iRg1 (eVar 0)) (gN 3) (tBl (eBin oNe (eVar 3) (eVar 2))) (eTup (aCons (eC (.str [116, 117, 114, 110])) (aCons (eVar 2) (aCons (eVar 3) aNil)))))) aNil)))
    (fun k τ s => ∃ es : List Ed, (∃ a, τ = [some (.int (n : Nat)), some (.ref m), a, none]) ∧ lstAt s m = some (es.map Ed.d) ∧ 2 ≤ es.length ∧ es.length ≤ 10 + 5 * k ∧ Gr st s) (fun _ _ _ _ => rfl) (rng 0 n) 0 [some (.int (n : Nat)), some (.ref m), none, none] (s2 ++ [.lst (AB.map Ed.d)])
    ⟨AB, ⟨none, rfl⟩, by rw [em]; exact lstAt_new, by omega, by omega, Gs.trans .app⟩ (by
      intro i d τ s hi hp
      obtain ⟨es, ⟨a, rfl⟩, g, l1, l2, G⟩ := hp
      obtain ⟨k, hk, rfl⟩ := rng_mem hi
      have hi5 : i < n := by
        have := (List.getElem?_eq_some_iff.mp hi).1
        rwa [rng_len] at this
      have c2 := comp_fil (q := .fix (rng 0 n)) (set := gN 3) (ft := tBl (eBin oNe (eVar 3) (eVar 2))) (fe := eTup (aCons (eC (.str [116, 117, 114, 110])) (aCons (eVar 2) (aCons (eVar 3) aNil)))) (τ := [some (.int (n : Nat)), some (.ref m), some (.int (k : Nat)), none]) (st := s) rfl (fun j : Nat => D.int j) (fun j : Nat => (Ed.turn (k : Nat) (j : Nat)).d) (fun j : Nat => !(decide ((j : Int) = k))) (List.range n) [] (fun j _ => ⟨[some (.int (n : Nat)), some (.ref m), some (.int (k : Nat)), some (.int (j : Nat))], rfl, by simp, fun _ => by simp [Ed.d]⟩)
      rw [← rng_eq, List.nil_append] at c2
      obtain ⟨C, eC⟩ : ∃ C, C = ((List.range n).filter fun j : Nat => !(decide ((j : Int) = k))).map fun j : Nat => Ed.turn (k : Nat) (j : Nat) := ⟨_, rfl⟩
      have eC2 : (((List.range n).filter fun j : Nat => !(decide ((j : Int) = k))).map fun j : Nat => (Ed.turn (k : Nat) (j : Nat)).d) = C.map Ed.d := by rw [eC, List.map_map]; rfl
      have lC : C.length ≤ n := by
        rw [eC, List.length_map]
        exact Nat.le_trans (List.length_filter_le _ _) (by simp)
      rw [eC2] at c2
      have g' : lstAt (s ++ [.lst (C.map Ed.d)]) m = some (es.map Ed.d) := (Gr.app (c := Cell.lst (C.map Ed.d))).lst g
      have g3 := mExtend_ref g' (lstAt_new (a := s) (xs := C.map Ed.d)) (by simp; omega)
      rw [← List.map_append] at g3
      refine ⟨[some (.int (n : Nat)), some (.ref m), some (.int (k : Nat)), none], rfl, [some (.int (n : Nat)), some (.ref m), some (.int (k : Nat)), none], (s ++ [Cell.lst (C.map Ed.d)]).set m (Cell.lst ((es ++ C).map Ed.d)), .inl ?_, es ++ C, ⟨_, rfl⟩, lstAt_set g', by simp; omega, by simp; omega, (G.trans .app).put hm⟩
      simp [lComp_e, lc1, wipeD, hr, hl, c2, okT_ref g, g3])
  obtain ⟨a, rfl⟩ := hτ
  rw [rng_len] at l5
  refine ⟨es, s4, ?_, G4, by omega, by omega⟩
  unfold f__law_all_edits
  rw [runB_e]
  unfold m__law_all_edits
  simp [List.replicate, lComp_e, lc1, wipeD, hr, hl, a1, a2, ← es2, sFor_e]
  rw [g3]
  simp [sFor_e, hr, ← em, e4, fTuple_ref g4]
  rfl
end
section
variable {ns : List Int} {st : Store}
theorem r_near {n : Nat} (H : DS ns st) (hn : 0 < n) (h5 : n ≤ 5) : ∃ es st', f__law_near [.ref 1, .int (n : Nat)] st = .ok (eds es) st' ∧ es.length ≤ 100 ∧ DS ns st' ∧ Fr st st' := by
  obtain ⟨es, s1, e1, G1, l0, l1⟩ := r_all_edits (st := st) hn h5
  obtain ⟨v, s2, e2, v0, v1, D2, F2⟩ := r_draw (many := 5) (G1.ds H) (by decide) (by decide)
  have F12 := G1.fr.trans F2
  have lm : (es.map Ed.d).length ≤ 16777216 := by simp; omega
  have ee : ∀ s, dSq s (eds es) = some (.fix (es.map Ed.d)) := fun _ => rfl
  unfold f__law_near
  rw [runB_e]
  unfold m__law_near
  by_cases c0 : v = 0
  · exact ⟨es, s2, by simp [List.replicate, e1, e2, c0], l1, D2, F12⟩
  by_cases c1 : v = 1
  · subst c1
    have c2 := comp_fil (q := .fix (es.map Ed.d)) (set := gN 5) (ft := tBl (eBin oNe (eBin oIx (eVar 5) (eC (.int 0))) (eC (.str [116, 117, 114, 110])))) (fe := eVar 5) (τ := [some (.ref 1), some (.int (n : Nat)), some (eds es), some (.int 1), none, none]) (st := s2) rfl Ed.d Ed.d (fun e : Ed => match e with | .turn _ _ => false | _ => true) es [] (fun e _ => ⟨[some (.ref 1), some (.int (n : Nat)), some (eds es), some (.int 1), none, some e.d], rfl, by cases e <;> simp [Ed.d], fun _ => by simp⟩)
    rw [List.nil_append] at c2
    exact ⟨_, s2, by simp [List.replicate, lComp_e, lc1, wipeD, e1, e2, ee, lm, c2, show es.length ≤ 16777216 by omega]; rfl, Nat.le_trans (List.length_filter_le _ _) l1, D2, F12⟩
  by_cases c2 : v = 2
  · subst c2
    have c2 := comp_fil (q := .fix (es.map Ed.d)) (set := gN 5) (ft := tBl (eBin oEq (eBin oIx (eVar 5) (eC (.int 0))) (eC (.str [116, 117, 114, 110])))) (fe := eVar 5) (τ := [some (.ref 1), some (.int (n : Nat)), some (eds es), some (.int 2), none, none]) (st := s2) rfl Ed.d Ed.d (fun e : Ed => match e with | .turn _ _ => true | _ => false) es [] (fun e _ => ⟨[some (.ref 1), some (.int (n : Nat)), some (eds es), some (.int 2), none, some e.d], rfl, by cases e <;> simp [Ed.d], fun _ => by simp⟩)
    rw [List.nil_append] at c2
    exact ⟨_, s2, by simp [List.replicate, lComp_e, lc1, wipeD, e1, e2, ee, lm, c2, show es.length ≤ 16777216 by omega]; rfl, Nat.le_trans (List.length_filter_le _ _) l1, D2, F12⟩
  have hm0 : 2 ≤ s2.length := D2.len
  obtain ⟨τ', s4, e4, fs, ⟨a, rfl⟩, g4, l4, D4, F4⟩ := for_inv (q := .fix (es.map Ed.d)) (set := gN 5) (u := sIf (tBl (eBin oLt (eCall 2 f__law_draw (aCons (eVar 0) (aCons (eC (.int 3)) aNil))) (eC (.int 2)))) (sExpr (eM "list" mAppend (eVar 4) (aCons (eVar 5) aNil))) sNil)
    (fun k τ s => ∃ fs : List Ed, (∃ a, τ = [some (.ref 1), some (.int (n : Nat)), some (eds es), some (.int v), some (.ref s2.length), a]) ∧ lstAt s s2.length = some (fs.map Ed.d) ∧ fs.length ≤ k ∧ DS ns s ∧ Fr s2 s) (fun _ _ _ _ => rfl) (es.map Ed.d) 0 [some (.ref 1), some (.int (n : Nat)), some (eds es), some (.int v), some (.ref s2.length), none] (s2 ++ [.lst []])
    ⟨[], ⟨none, rfl⟩, lstAt_new, Nat.le_refl _, D2.app, .app⟩ (by
      intro i d τ s hi hp
      obtain ⟨fs, ⟨a, rfl⟩, g, l2, D, F⟩ := hp
      obtain ⟨e, _, rfl⟩ := map_mem hi
      have hi2 : i < es.length := by simpa using (List.getElem?_eq_some_iff.mp hi).1
      obtain ⟨w, s3, e3, w0, w1, D3, F3⟩ := r_draw (many := 3) D (by decide) (by decide)
      have g3 := F3.lst g (by omega)
      refine ⟨[some (.ref 1), some (.int (n : Nat)), some (eds es), some (.int v), some (.ref s2.length), some e.d], rfl, ?_⟩
      by_cases hw : w < 2
      · have g5 := mAppend_ref (x := e.d) g3 (by simp; omega)
        refine ⟨[some (.ref 1), some (.int (n : Nat)), some (eds es), some (.int v), some (.ref s2.length), some e.d], s3.set s2.length (Cell.lst (fs.map Ed.d ++ [e.d])), .inl ?_, fs ++ [e], ⟨_, rfl⟩, by rw [lstAt_set g3]; simp, by simp; omega, D3.put2 (by omega) (by omega), (F.trans F3).put2 (Nat.le_refl _)⟩
        simp [e3, hw, okT_ref g3, g5]
      · refine ⟨[some (.ref 1), some (.int (n : Nat)), some (eds es), some (.int v), some (.ref s2.length), some e.d], s3, .inl ?_, fs, ⟨_, rfl⟩, g3, by omega, D3, F.trans F3⟩
        simp [e3, hw])
  have l4 : fs.length ≤ es.length := by simpa using l4
  refine ⟨fs, s4, ?_, by omega, D4, F12.trans F4⟩
  simp [List.replicate, e1, e2, c0, c1, c2, sFor_e, ee, e4, fTuple_ref g4]
  rfl
end

/-- a loop that returns False at the first that fails -/
theorem for_all {α : Type} {q : Sq} {set : D → Sl → Option Sl} {u : SM} {st : Store} (hq : q.chk st = true) (g : α → D) (p : α → Bool) (I : Sl → Prop) : ∀ (xs : List α) (τ : Sl), I τ →
    (∀ a ∈ xs, ∀ τ, I τ → ∃ τ1, set (g a) τ = some τ1 ∧ (p a = true → ∃ τ2, u τ1 st = .nx τ2 st ∧ I τ2) ∧ (p a = false → u τ1 st = .rt (.bl false) st)) →
    (xs.all p = true ∧ ∃ τ', forL q set u (xs.map g) τ st = .nx τ' st ∧ I τ') ∨ (xs.all p = false ∧ forL q set u (xs.map g) τ st = .rt (.bl false) st)
  | [], τ, h0, _ => .inl ⟨rfl, τ, forL_nil hq, h0⟩
  | a :: xs, τ, h0, hs => by
    obtain ⟨τ1, e1, h1, h2⟩ := hs a (List.mem_cons_self ..) τ h0
    cases hp : p a with
    | true =>
      obtain ⟨τ2, e2, h3⟩ := h1 hp
      rcases for_all hq g p I xs τ2 h3 fun b hb => hs b (List.mem_cons_of_mem _ hb) with ⟨ha, τ', e3, h4⟩ | ⟨ha, e3⟩
      · exact .inl ⟨by rw [List.all_cons, hp, ha]; rfl, τ', by rw [List.map_cons, forL_nx hq e1 e2, e3], h4⟩
      · exact .inr ⟨by rw [List.all_cons, hp, ha]; rfl, by rw [List.map_cons, forL_nx hq e1 e2, e3]⟩
    | false => exact .inr ⟨by rw [List.all_cons, hp]; rfl, by rw [List.map_cons, forL_rt hq e1 (h2 hp)]⟩
theorem ch_le {fa fb fc : EM D} {τ : Sl} {st : Store} {a b c : Int} (ha : fa τ st = .ok (.int a) st) (hb : fb τ st = .ok (.int b) st) (hc : fc τ st = .ok (.int c) st) : eChain oLe oLe fa fb fc τ st = .ok (.bl (decide (a ≤ b) && decide (b ≤ c))) st := by
  by_cases h : a ≤ b <;> simp [ha, hb, hc, oLe, h]
theorem ch_lt {fa fb fc : EM D} {τ : Sl} {st : Store} {a b c : Int} (ha : fa τ st = .ok (.int a) st) (hb : fb τ st = .ok (.int b) st) (hc : fc τ st = .ok (.int c) st) : eChain oLe oLt fa fb fc τ st = .ok (.bl (decide (a ≤ b) && decide (b < c))) st := by
  by_cases h : a ≤ b <;> simp [ha, hb, hc, oLe, oLt, h]

/-! houses by shape -/
structure Qn where
  w : List Nat
  rows : List (List Int)
  goes : List (Int × Int)
def ipd (p : Int × Int) : D := .tup [.int p.1, .int p.2]
def Qn.d (q : Qn) : D := .tup [.str q.w, .tup (q.rows.map itup), .tup (q.goes.map ipd)]
structure Hs where
  w : List Nat
  rs : List D
  near : D
  lots : List Int
  modes : List (List Qn)
def qsd (m : List Qn) : D := .tup (m.map Qn.d)
def rdd (rs : List D) : D := .tup [.str [114, 101, 97, 100, 101, 114], .tup rs]
def Hs.d (h : Hs) : D := .tup [.str h.w, rdd h.rs, h.near, itup h.lots, .tup (h.modes.map qsd)]
def wShown : List Nat := [115, 104, 111, 119, 110]
def wDrawn : List Nat := [100, 114, 97, 119, 110]
def wHouse : List Nat := [104, 111, 117, 115, 101]
def e40 : Int := 10000000000000000000000000000000000000000
def rowOk (many : Nat) (row : List Int) : Bool := decide (row.length = many) && (row.all fun w => decide (0 ≤ w) && decide (w ≤ e40)) && decide (0 < row.sum)
def choiceOk (lots many : Nat) (row : List Int) : Bool := decide (row.length = lots) && row.all fun a => decide (0 ≤ a) && decide (a < (many : Nat))
def goOk (modes : Nat) (p : Int × Int) : Bool := (decide (0 ≤ p.1) && decide (p.1 < (modes : Nat))) && (decide (0 ≤ p.2) && decide (p.2 ≤ 1))
def goesOk (modes : Nat) (g : List (Int × Int)) : Bool := (decide (1 ≤ g.length) && decide (g.length ≤ 12)) && g.all (goOk modes)
def Qn.ok (q : Qn) (states lots modes : Nat) : Bool := (decide (q.w = wShown) || decide (q.w = wDrawn)) && goesOk modes q.goes && decide (q.rows.length = states) && q.rows.all fun row => if q.w = wShown then rowOk q.goes.length row else choiceOk lots q.goes.length row
def lotsOk (l : List Int) : Bool := (decide (1 ≤ l.length) && decide (l.length ≤ 5)) && l.all fun w => decide (1 ≤ w) && decide (w ≤ e40)
def modeOk (states lots modes : Nat) (m : List Qn) : Bool := decide (m.length ≤ 8) && m.all fun q => q.ok states lots modes
def Hs.ok (h : Hs) : Bool := decide (h.w = wHouse) && lotsOk h.lots && (decide (1 ≤ h.modes.length) && decide (h.modes.length ≤ 60)) && h.modes.all (modeOk h.rs.length h.lots.length h.modes.length)

section
variable {st : Store}
theorem dq_itup {row : List Int} : dSq st (itup row) = some (.fix (row.map D.int)) := rfl
theorem os_itup {row : List Int} : oSeq (itup row) st = .ok (row.map D.int) st := rfl
theorem ln_itup {row : List Int} : fLen [itup row] st = .ok (.int row.length) st := by simp [itup]
theorem r_is_row {row : List Int} {many : Nat} : f_is_row [itup row, .int (many : Nat)] st = .ok (.bl (rowOk many row)) st := by
  have e1 : gSum (row.map D.int) st = .ok (.int row.sum) st := gSum_ints
  have hq : q_MOST_WEIGHT = .int e40 := rfl
  obtain ⟨B, eB⟩ : ∃ B, B = e40 := ⟨_, rfl⟩
  unfold f_is_row rowOk
  rw [runB_e]
  unfold m_is_row
  rw [hq, ← eB]
  by_cases hl : row.length = many
  · have hl' : (row.length : Int) = many := by omega
    rcases for_all (q := .fix (row.map D.int)) (set := gN 2) (u := sIf (HM.tNot (tBl (eChain oLe oLe (eC (.int 0)) (eVar 2) (eC (.int B))))) (sRet (eC (.bl false))) sNil) (st := st) rfl D.int (fun w => decide (0 ≤ w) && decide (w ≤ B)) (fun τ => ∃ a, τ = [some (itup row), some (.int (many : Nat)), a]) row [some (itup row), some (.int (many : Nat)), none] ⟨none, rfl⟩ (fun a _ τ hI => by
      obtain ⟨b, rfl⟩ := hI
      have c := ch_le (fa := eC (.int 0)) (fb := eVar 2) (fc := eC (.int B)) (τ := [some (itup row), some (.int (many : Nat)), some (.int a)]) (st := st) rfl rfl rfl
      refine ⟨[some (itup row), some (.int (many : Nat)), some (.int a)], rfl, fun hp => ⟨[some (itup row), some (.int (many : Nat)), some (.int a)], ?_, _, rfl⟩, fun hp => ?_⟩
      · simp [-eChain_e, c, hp]
      · simp [-eChain_e, c, hp]) with ⟨ha, τ', e2, t, rfl⟩ | ⟨ha, e2⟩
    · rw [ha]
      simp [-eChain_e, List.replicate, ln_itup, hl, sFor_e, dq_itup, e2, os_itup, e1]
    · rw [ha]
      simp [-eChain_e, List.replicate, ln_itup, hl, sFor_e, dq_itup, e2]
  · have hl' : ¬ (row.length : Int) = many := by omega
    simp [-eChain_e, List.replicate, ln_itup, hl, hl']
theorem r_is_choice {row : List Int} {lots many : Nat} : f_is_choice [itup row, .int (lots : Nat), .int (many : Nat)] st = .ok (.bl (choiceOk lots many row)) st := by
  unfold f_is_choice choiceOk
  rw [runB_e]
  unfold m_is_choice
  by_cases hl : row.length = lots
  · have hl' : (row.length : Int) = lots := by omega
    rcases for_all (q := .fix (row.map D.int)) (set := gN 3) (u := sIf (HM.tNot (tBl (eChain oLe oLt (eC (.int 0)) (eVar 3) (eVar 2)))) (sRet (eC (.bl false))) sNil) (st := st) rfl D.int (fun a => decide (0 ≤ a) && decide (a < (many : Nat))) (fun τ => ∃ a, τ = [some (itup row), some (.int (lots : Nat)), some (.int (many : Nat)), a]) row [some (itup row), some (.int (lots : Nat)), some (.int (many : Nat)), none] ⟨none, rfl⟩ (fun a _ τ hI => by
      obtain ⟨b, rfl⟩ := hI
      have c := ch_lt (fa := eC (.int 0)) (fb := eVar 3) (fc := eVar 2) (τ := [some (itup row), some (.int (lots : Nat)), some (.int (many : Nat)), some (.int a)]) (st := st) rfl rfl rfl
      refine ⟨[some (itup row), some (.int (lots : Nat)), some (.int (many : Nat)), some (.int a)], rfl, fun hp => ⟨[some (itup row), some (.int (lots : Nat)), some (.int (many : Nat)), some (.int a)], ?_, _, rfl⟩, fun hp => ?_⟩
      · simp [-eChain_e, c, hp]
      · simp [-eChain_e, c, hp]) with ⟨ha, τ', e2, t, rfl⟩ | ⟨ha, e2⟩
    · rw [ha]
      simp [-eChain_e, List.replicate, ln_itup, hl, sFor_e, dq_itup, e2]
    · rw [ha]
      simp [-eChain_e, List.replicate, ln_itup, hl, sFor_e, dq_itup, e2]
  · have hl' : ¬ (row.length : Int) = lots := by omega
    simp [-eChain_e, List.replicate, ln_itup, hl, hl']
theorem in01 {x : Int} : dIn (.int x) (.tup [.int 0, .int 1]) st = some (decide (0 ≤ x) && decide (x ≤ 1)) := by
  have := dIn_ints (cs := [0, 1]) (k := x) (st := st)
  rw [show ([0, 1] : List Int).map D.int = [.int 0, .int 1] from rfl] at this
  rw [this]
  congr 1
  by_cases h0 : x = 0
  · subst h0; decide
  by_cases h1 : x = 1
  · subst h1; decide
  · have : ¬ (0 ≤ x ∧ x ≤ 1) := by omega
    simp [h0, h1]
    omega
theorem r_are_goes {g : List (Int × Int)} {modes : Nat} : f_are_goes [.tup (g.map ipd), .int (modes : Nat)] st = .ok (.bl (goesOk modes g)) st := by
  unfold f_are_goes goesOk
  rw [runB_e]
  unfold m_are_goes
  have hq : q_MOST_ANSWERS = .int 12 := rfl
  rw [hq]
  obtain ⟨G, eG⟩ : ∃ G, G = D.tup (g.map ipd) := ⟨_, rfl⟩
  have lG : fLen [G] st = .ok (.int g.length) st := by rw [eG]; simp
  have dG : dSq st G = some (.fix (g.map ipd)) := by rw [eG]; rfl
  rw [← eG]
  have c := ch_le (fa := eC (.int 1)) (fb := eCB fLen (aCons (eVar 0) aNil)) (fc := eC (.int 12)) (τ := [some G, some (.int (modes : Nat)), none, none]) (st := st) (b := g.length) rfl (by simp [lG]) rfl
  have c' : (decide ((1 : Int) ≤ g.length) && decide ((g.length : Int) ≤ 12)) = (decide (1 ≤ g.length) && decide (g.length ≤ 12)) := by
    congr 1 <;> (apply decide_eq_decide.mpr; omega)
  rw [c'] at c
  cases hb : (decide (1 ≤ g.length) && decide (g.length ≤ 12)) with
  | false =>
    rw [hb] at c
    simp [-eChain_e, List.replicate, c]
  | true =>
    rw [hb] at c
    rcases for_all (q := .fix (g.map ipd)) (set := gT 2 (gCs 2 (gCs 3 gNil0))) (u := sIf (tOr (HM.tNot (tBl (eChain oLe oLt (eC (.int 0)) (eVar 2) (eVar 1)))) (tBl (eBin oNotIn (eVar 3) (eTup (aCons (eC (.int 0)) (aCons (eC (.int 1)) aNil)))))) (sRet (eC (.bl false))) sNil) (st := st) rfl ipd (goOk modes) (fun τ => ∃ a b, τ = [some G, some (.int (modes : Nat)), a, b]) g [some G, some (.int (modes : Nat)), none, none] ⟨none, none, rfl⟩ (fun a _ τ hI => by
      obtain ⟨b, b', rfl⟩ := hI
      have c := ch_lt (fa := eC (.int 0)) (fb := eVar 2) (fc := eVar 1) (τ := [some G, some (.int (modes : Nat)), some (.int a.1), some (.int a.2)]) (st := st) rfl rfl rfl
      refine ⟨[some G, some (.int (modes : Nat)), some (.int a.1), some (.int a.2)], rfl, fun hp => ⟨[some G, some (.int (modes : Nat)), some (.int a.1), some (.int a.2)], ?_, _, _, rfl⟩, fun hp => ?_⟩
      · unfold goOk at hp
        rw [Bool.and_eq_true] at hp
        simp [-eChain_e, -dIn_tup, c, hp.1, in01, hp.2]
      · unfold goOk at hp
        cases h1 : (decide (0 ≤ a.1) && decide (a.1 < (modes : Nat))) with
        | false => simp [-eChain_e, c, h1]
        | true =>
          rw [h1, Bool.true_and] at hp
          simp [-eChain_e, -dIn_tup, c, h1, in01, hp]) with ⟨ha, τ', e2, t, t', rfl⟩ | ⟨ha, e2⟩
    · rw [ha]
      simp [-eChain_e, List.replicate, sFor_e, dG, e2, c]
    · rw [ha]
      simp [-eChain_e, List.replicate, sFor_e, dG, e2, c]
end

section
variable {st : Store}
theorem in_words {w : List Nat} : dIn (.str w) (.tup [.str [115, 104, 111, 119, 110], .str [100, 114, 97, 119, 110]]) st = some (decide (w = wShown) || decide (w = wDrawn)) := by
  rw [dIn_flat (ys := [.str [115, 104, 111, 119, 110], .str [100, 114, 97, 119, 110]]) rfl rfl rfl]
  simp [wShown, wDrawn, eq_comm]
  rfl
theorem r_is_question {q : Qn} {states lots modes : Nat} : f_is_question [q.d, .int (states : Nat), .int (lots : Nat), .int (modes : Nat)] st = .ok (.bl (q.ok states lots modes)) st := by
  obtain ⟨w, rows, goes⟩ := q
  unfold f_is_question Qn.ok
  rw [runB_e]
  unfold m_is_question
  simp only
  have z1 := r_are_goes (st := st) (g := goes) (modes := modes)
  obtain ⟨Q, eQ⟩ : ∃ Q, Q = D.tup [.str w, .tup (rows.map itup), .tup (goes.map ipd)] := ⟨_, rfl⟩
  obtain ⟨G, eG⟩ : ∃ G, G = D.tup (goes.map ipd) := ⟨_, rfl⟩
  obtain ⟨R, eR⟩ : ∃ R, R = D.tup (rows.map itup) := ⟨_, rfl⟩
  have lG : fLen [G] st = .ok (.int goes.length) st := by rw [eG]; simp
  have lR : fLen [R] st = .ok (.int rows.length) st := by rw [eR]; simp
  have dR : dSq st R = some (.fix (rows.map itup)) := by rw [eR]; rfl
  rw [← eG] at z1
  have hQ : Qn.d ⟨w, rows, goes⟩ = Q := by rw [eQ]; rfl
  have a1 : ofA (gT 3 (gCs 4 (gCs 5 (gCs 6 gNil0)))) [some Q, some (.int (states : Nat)), some (.int (lots : Nat)), some (.int (modes : Nat)), none, none, none, none] Q st = .nx [some Q, some (.int (states : Nat)), some (.int (lots : Nat)), some (.int (modes : Nat)), some (.str w), some R, some G, none] st := by rw [eQ, eG, eR]; rfl
  rw [hQ]
  cases h1 : (decide (w = wShown) || decide (w = wDrawn)) with
  | false => simp [-dIn_tup, List.replicate, a1, in_words, h1]
  | true =>
  cases h2 : goesOk modes goes with
  | false =>
    rw [h2] at z1
    simp [-dIn_tup, List.replicate, a1, in_words, h1, z1]
  | true =>
  rw [h2] at z1
  by_cases h3 : rows.length = states
  · rcases for_all (q := .fix (rows.map itup)) (set := gN 7) (u := sSeq (sIf (tAnd (tBl (eBin oEq (eVar 4) (eC (.str [115, 104, 111, 119, 110])))) (HM.tNot (tVal (eCall 2 f_is_row (aCons (eVar 7) (aCons (eCB fLen (aCons (eVar 6) aNil)) aNil)))))) (sRet (eC (.bl false))) sNil)
        (sIf (tAnd (tBl (eBin oEq (eVar 4) (eC (.str [100, 114, 97, 119, 110])))) (HM.tNot (tVal (eCall 3 f_is_choice (aCons (eVar 7) (aCons (eVar 2) (aCons (eCB fLen (aCons (eVar 6) aNil)) aNil))))))) (sRet (eC (.bl false))) sNil)) (st := st) rfl itup
        (fun row => if w = wShown then rowOk goes.length row else choiceOk lots goes.length row)
        (fun τ => ∃ a, τ = [some Q, some (.int (states : Nat)), some (.int (lots : Nat)), some (.int (modes : Nat)), some (.str w), some R, some G, a]) rows [some Q, some (.int (states : Nat)), some (.int (lots : Nat)), some (.int (modes : Nat)), some (.str w), some R, some G, none] ⟨none, rfl⟩ (fun row _ τ hI => by
      obtain ⟨b, rfl⟩ := hI
      have z2 := r_is_row (st := st) (row := row) (many := goes.length)
      have z3 := r_is_choice (st := st) (row := row) (lots := lots) (many := goes.length)
      obtain ⟨r, er⟩ : ∃ r, r = itup row := ⟨_, rfl⟩
      rw [← er] at z2 z3 ⊢
      have hw : w = wShown ∨ (w ≠ wShown ∧ w = wDrawn) := by
        by_cases c : w = wShown
        · exact .inl c
        · simp [c] at h1
          exact .inr ⟨c, h1⟩
      refine ⟨[some Q, some (.int (states : Nat)), some (.int (lots : Nat)), some (.int (modes : Nat)), some (.str w), some R, some G, some r], rfl, fun hp => ⟨_, ?_, some r, rfl⟩, fun hp => ?_⟩
      · rcases hw with hw | ⟨hw1, hw⟩
        · rw [if_pos hw] at hp
          rw [hp] at z2
          simp [hw, wShown, lG, z2]
        · rw [if_neg hw1] at hp
          rw [hp] at z3
          simp [hw, wDrawn, lG, z3]
      · rcases hw with hw | ⟨hw1, hw⟩
        · rw [if_pos hw] at hp
          rw [hp] at z2
          simp [hw, wShown, lG, z2]
        · rw [if_neg hw1] at hp
          rw [hp] at z3
          simp [hw, wDrawn, lG, z3]) with ⟨ha, τ', e2, t, rfl⟩ | ⟨ha, e2⟩
    · rw [ha]
      simp [-dIn_tup, List.replicate, sFor_e, a1, in_words, h1, z1, lR, h3, dR, e2]
    · rw [ha]
      simp [-dIn_tup, List.replicate, sFor_e, a1, in_words, h1, z1, lR, h3, dR, e2]
  · have h3' : ¬ (rows.length : Int) = states := by omega
    simp [-dIn_tup, List.replicate, a1, in_words, h1, z1, lR, h3, h3']
theorem r_are_lots {l : List Int} : f_are_lots [itup l] st = .ok (.bl (lotsOk l)) st := by
  have hq : q_MOST_WEIGHT = .int e40 := rfl
  have hq2 : q_MOST_LOTS = .int 5 := rfl
  obtain ⟨B, eB⟩ : ∃ B, B = e40 := ⟨_, rfl⟩
  unfold f_are_lots lotsOk
  rw [runB_e]
  unfold m_are_lots
  rw [hq, hq2, ← eB]
  obtain ⟨G, eG⟩ : ∃ G, G = itup l := ⟨_, rfl⟩
  have lG : fLen [G] st = .ok (.int l.length) st := by rw [eG]; exact ln_itup
  have dG : dSq st G = some (.fix (l.map D.int)) := by rw [eG]; rfl
  rw [← eG]
  have c := ch_le (fa := eC (.int 1)) (fb := eCB fLen (aCons (eVar 0) aNil)) (fc := eC (.int 5)) (τ := [some G, none]) (st := st) (b := l.length) rfl (by simp [lG]) rfl
  have c' : (decide ((1 : Int) ≤ l.length) && decide ((l.length : Int) ≤ 5)) = (decide (1 ≤ l.length) && decide (l.length ≤ 5)) := by
    congr 1 <;> (apply decide_eq_decide.mpr; omega)
  rw [c'] at c
  cases hb : (decide (1 ≤ l.length) && decide (l.length ≤ 5)) with
  | false =>
    rw [hb] at c
    simp [-eChain_e, List.replicate, c]
  | true =>
    rw [hb] at c
    rcases for_all (q := .fix (l.map D.int)) (set := gN 1) (u := sIf (HM.tNot (tBl (eChain oLe oLe (eC (.int 1)) (eVar 1) (eC (.int B))))) (sRet (eC (.bl false))) sNil) (st := st) rfl D.int (fun w => decide (1 ≤ w) && decide (w ≤ B)) (fun τ => ∃ a, τ = [some G, a]) l [some G, none] ⟨none, rfl⟩ (fun a _ τ hI => by
      obtain ⟨b, rfl⟩ := hI
      have c := ch_le (fa := eC (.int 1)) (fb := eVar 1) (fc := eC (.int B)) (τ := [some G, some (.int a)]) (st := st) rfl rfl rfl
      refine ⟨[some G, some (.int a)], rfl, fun hp => ⟨[some G, some (.int a)], ?_, _, rfl⟩, fun hp => ?_⟩
      · simp [-eChain_e, c, hp]
      · simp [-eChain_e, c, hp]) with ⟨ha, τ', e2, t, rfl⟩ | ⟨ha, e2⟩
    · rw [ha]
      simp [-eChain_e, List.replicate, sFor_e, dG, e2, c]
    · rw [ha]
      simp [-eChain_e, List.replicate, sFor_e, dG, e2, c]
theorem r_is_house {h : Hs} : f_is_house [h.d] st = .ok (.bl h.ok) st := by
  obtain ⟨w, rs, near, lots, modes⟩ := h
  unfold f_is_house Hs.ok
  rw [runB_e]
  unfold m_is_house
  simp only
  have hq : q_MOST_MODES = .int 60 := rfl
  have hq2 : q_MOST_QUESTIONS = .int 8 := rfl
  rw [hq, hq2]
  have z1 := r_are_lots (st := st) (l := lots)
  obtain ⟨H, eH⟩ : ∃ H, H = Hs.d ⟨w, rs, near, lots, modes⟩ := ⟨_, rfl⟩
  obtain ⟨L, eL⟩ : ∃ L, L = itup lots := ⟨_, rfl⟩
  obtain ⟨M, eM⟩ : ∃ M, M = D.tup (modes.map qsd) := ⟨_, rfl⟩
  obtain ⟨S, eS⟩ : ∃ S, S = D.tup rs := ⟨_, rfl⟩
  have lL : fLen [L] st = .ok (.int lots.length) st := by rw [eL]; exact ln_itup
  have lM : fLen [M] st = .ok (.int modes.length) st := by rw [eM]; simp
  have lS : fLen [S] st = .ok (.int rs.length) st := by rw [eS]; simp
  have dM : dSq st M = some (.fix (modes.map qsd)) := by rw [eM]; rfl
  have a1 : ofA (gT 5 (gCs 1 (gCs 2 (gCs 3 (gCs 4 (gCs 5 gNil0)))))) [some H, none, none, none, none, none, none, none] H st = .nx [some H, some (.str w), some (.tup [.str [114, 101, 97, 100, 101, 114], S]), some near, some L, some M, none, none] st := by rw [eH, eL, eM, eS]; rfl
  rw [← eH]
  rw [← eL] at z1
  have c := ch_le (fa := eC (.int 1)) (fb := eCB fLen (aCons (eVar 5) aNil)) (fc := eC (.int 60)) (τ := [some H, some (.str w), some (.tup [.str [114, 101, 97, 100, 101, 114], S]), some near, some L, some M, none, none]) (st := st) (b := modes.length) rfl (by simp [lM]) rfl
  have c' : (decide ((1 : Int) ≤ modes.length) && decide ((modes.length : Int) ≤ 60)) = (decide (1 ≤ modes.length) && decide (modes.length ≤ 60)) := by
    congr 1 <;> (apply decide_eq_decide.mpr; omega)
  rw [c'] at c
  by_cases h1 : w = wHouse
  · rw [show decide (w = wHouse) = true from decide_eq_true h1]
    cases h2 : lotsOk lots with
    | false =>
      rw [h2] at z1
      simp [-eChain_e, List.replicate, a1, h1, wHouse, z1]
    | true =>
    rw [h2] at z1
    have h1' : w = [104, 111, 117, 115, 101] := h1
    have t1 : oNe (.str w) (.str [104, 111, 117, 115, 101]) st = .ok (.bl false) st := by rw [h1']; simp
    cases h3 : (decide (1 ≤ modes.length) && decide (modes.length ≤ 60)) with
    | false =>
      rw [h3] at c
      simp [-eChain_e, -oNe_str, List.replicate, a1, t1, z1, c]
    | true =>
      rw [h3] at c
      rcases for_all (q := .fix (modes.map qsd)) (set := gN 6) (u := (sSeq (sIf (tBl (eBin oGt (eCB fLen (aCons (eVar 6) aNil)) (eC (.int 8)))) (sRet (eC (.bl false))) sNil)
          (sFor (iEx (eVar 6)) (gN 7) (sIf (HM.tNot (tVal (eCall 4 f_is_question (aCons (eVar 7) (aCons (eCB fLen (aCons (eBin oIx (eVar 2) (eC (.int 1))) aNil)) (aCons (eCB fLen (aCons (eVar 4) aNil)) (aCons (eCB fLen (aCons (eVar 5) aNil)) aNil))))))) (sRet (eC (.bl false))) sNil)))) (st := st) rfl qsd
          (modeOk rs.length lots.length modes.length) (fun τ => ∃ a b, τ = [some H, some (.str w), some (.tup [.str [114, 101, 97, 100, 101, 114], S]), some near, some L, some M, a, b]) modes _ ⟨none, none, rfl⟩ (fun m _ τ hI => by
        obtain ⟨b, b', rfl⟩ := hI
        refine ⟨[some H, some (.str w), some (.tup [.str [114, 101, 97, 100, 101, 114], S]), some near, some L, some M, some (qsd m), b'], rfl, ?_⟩
        have lm : fLen [qsd m] st = .ok (.int m.length) st := by simp [qsd]
        have dm : dSq st (qsd m) = some (.fix (m.map Qn.d)) := rfl
        unfold modeOk
        by_cases h8 : m.length ≤ 8
        · have h8' : ¬ (8 < m.length) := by omega
          rcases for_all (q := .fix (m.map Qn.d)) (set := gN 7) (u := (sIf (HM.tNot (tVal (eCall 4 f_is_question (aCons (eVar 7) (aCons (eCB fLen (aCons (eBin oIx (eVar 2) (eC (.int 1))) aNil)) (aCons (eCB fLen (aCons (eVar 4) aNil)) (aCons (eCB fLen (aCons (eVar 5) aNil)) aNil))))))) (sRet (eC (.bl false))) sNil)) (st := st) rfl Qn.d
              (fun q => q.ok rs.length lots.length modes.length) (fun τ => ∃ b, τ = [some H, some (.str w), some (.tup [.str [114, 101, 97, 100, 101, 114], S]), some near, some L, some M, some (qsd m), b]) m _ ⟨b', rfl⟩ (fun q _ τ hI => by
            obtain ⟨b, rfl⟩ := hI
            have z4 := r_is_question (st := st) (q := q) (states := rs.length) (lots := lots.length) (modes := modes.length)
            refine ⟨[some H, some (.str w), some (.tup [.str [114, 101, 97, 100, 101, 114], S]), some near, some L, some M, some (qsd m), some q.d], rfl, fun hp => ⟨[some H, some (.str w), some (.tup [.str [114, 101, 97, 100, 101, 114], S]), some near, some L, some M, some (qsd m), some q.d], ?_, _, rfl⟩, fun hp => ?_⟩
            · rw [hp] at z4
              simp [lS, lL, lM, z4]
            · rw [hp] at z4
              simp [lS, lL, lM, z4]) with ⟨ha, τ', e2, t, rfl⟩ | ⟨ha, e2⟩
          · rw [ha]
            refine ⟨fun _ => ⟨[some H, some (.str w), some (.tup [.str [114, 101, 97, 100, 101, 114], S]), some near, some L, some M, some (qsd m), t], ?_, _, _, rfl⟩, fun hp => by simp [h8] at hp⟩
            have h8' : ¬ ((8 : Int) < m.length) := by omega
            simp [lm, oGt, h8', sFor_e, dm, e2]
          · rw [ha]
            refine ⟨fun hp => by simp at hp, fun _ => ?_⟩
            have h8' : ¬ ((8 : Int) < m.length) := by omega
            simp [lm, oGt, h8', sFor_e, dm, e2]
        · refine ⟨fun hp => by simp [h8] at hp, fun _ => ?_⟩
          have h8' : ((8 : Int) < m.length) := by omega
          simp [lm, oGt, h8']) with ⟨ha, τ', e2, t, t', rfl⟩ | ⟨ha, e2⟩
      · rw [ha]
        simp [-eChain_e, -oNe_str, List.replicate, a1, t1, z1, c, sFor_e, dM, e2]
      · rw [ha]
        simp [-eChain_e, -oNe_str, List.replicate, a1, t1, z1, c, sFor_e, dM, e2]
  · have h1' : ¬ w = [104, 111, 117, 115, 101] := h1
    simp [-eChain_e, List.replicate, a1, h1, h1']
end

section
variable {st : Store}
theorem gAllB_map {α : Type} {f : α → Bool} {xs : List α} : gAllB (xs.map fun a => D.bl (f a)) st = .ok (.bl (xs.all f)) st := by
  have := gAllB_bls (bs := xs.map f) (st := st)
  rw [List.map_map, List.all_map] at this
  exact this
structure Qn.sm (q : Qn) : Prop where
  g : q.goes.length ≤ 1000
  r : q.rows.length ≤ 1000
  rr : ∀ r ∈ q.rows, r.length ≤ 1000
theorem p40 : okPow 10 40 = true := by decide
theorem sum_nn : ∀ {xs : List Int}, (∀ x ∈ xs, 0 ≤ x) → 0 ≤ xs.sum
  | [], _ => by decide
  | x :: xs, h => by
    have := h x (List.mem_cons_self ..)
    have := sum_nn fun y hy => h y (List.mem_cons_of_mem _ hy)
    rw [List.sum_cons]
    omega
theorem r_lq {q : Qn} {states lots modes : Nat} (S : q.sm) : f__law_is_question [q.d, .int (states : Nat), .int (lots : Nat), .int (modes : Nat)] st = .ok (.bl (q.ok states lots modes)) st := by
  obtain ⟨w, rows, goes⟩ := q
  obtain ⟨sg, sr, srr⟩ := S
  simp only at sg sr srr
  unfold f__law_is_question Qn.ok
  rw [runB_e]
  unfold m__law_is_question
  simp only
  obtain ⟨Q, eQ⟩ : ∃ Q, Q = D.tup [.str w, .tup (rows.map itup), .tup (goes.map ipd)] := ⟨_, rfl⟩
  obtain ⟨G, eG⟩ : ∃ G, G = D.tup (goes.map ipd) := ⟨_, rfl⟩
  obtain ⟨R, eR⟩ : ∃ R, R = D.tup (rows.map itup) := ⟨_, rfl⟩
  have lG : fLen [G] st = .ok (.int goes.length) st := by rw [eG]; simp
  have lR : fLen [R] st = .ok (.int rows.length) st := by rw [eR]; simp
  have dR : dSq st R = some (.fix (rows.map itup)) := by rw [eR]; rfl
  have dG : dSq st G = some (.fix (goes.map ipd)) := by rw [eG]; rfl
  have hQ : Qn.d ⟨w, rows, goes⟩ = Q := by rw [eQ]; rfl
  have a1 : ofA (gT 3 (gCs 4 (gCs 5 (gCs 6 gNil0)))) [some Q, some (.int (states : Nat)), some (.int (lots : Nat)), some (.int (modes : Nat)), none, none, none, none, none, none, none] Q st = .nx [some Q, some (.int (states : Nat)), some (.int (lots : Nat)), some (.int (modes : Nat)), some (.str w), some R, some G, none, none, none, none] st := by rw [eQ, eG, eR]; rfl
  rw [hQ]
  have c := ch_le (fa := eC (.int 1)) (fb := eCB fLen (aCons (eVar 6) aNil)) (fc := eC (.int 12)) (τ := [some Q, some (.int (states : Nat)), some (.int (lots : Nat)), some (.int (modes : Nat)), some (.str w), some R, some G, none, none, none, none]) (st := st) (b := goes.length) rfl (by simp [lG]) rfl
  have c' : (decide ((1 : Int) ≤ goes.length) && decide ((goes.length : Int) ≤ 12)) = (decide (1 ≤ goes.length) && decide (goes.length ≤ 12)) := by
    congr 1 <;> (apply decide_eq_decide.mpr; omega)
  rw [c'] at c
  have k1 := comp_map (q := .fix (goes.map ipd)) (set := gN 8) (fe := (eAnd (eChain oLe oLt (eC (.int 0)) (eBin oIx (eVar 8) (eC (.int 0))) (eVar 3)) (eChain oLe oLe (eC (.int 0)) (eBin oIx (eVar 8) (eC (.int 1))) (eC (.int 1))))) (τ := [some Q, some (.int (states : Nat)), some (.int (lots : Nat)), some (.int (modes : Nat)), some (.str w), some R, some G, none, none, none, none]) (st := st) rfl ipd (fun p => .bl (goOk modes p)) goes [] (fun p _ => ⟨[some Q, some (.int (states : Nat)), some (.int (lots : Nat)), some (.int (modes : Nat)), some (.str w), some R, some G, none, some (ipd p), none, none], rfl, by
    have c1 := ch_lt (fa := eC (.int 0)) (fb := (eBin oIx (eVar 8) (eC (.int 0)))) (fc := eVar 3) (τ := [some Q, some (.int (states : Nat)), some (.int (lots : Nat)), some (.int (modes : Nat)), some (.str w), some R, some G, none, some (ipd p), none, none]) (st := st) (b := p.1) rfl (by simp [ipd]) rfl
    have c2 := ch_le (fa := eC (.int 0)) (fb := (eBin oIx (eVar 8) (eC (.int 1)))) (fc := eC (.int 1)) (τ := [some Q, some (.int (states : Nat)), some (.int (lots : Nat)), some (.int (modes : Nat)), some (.str w), some R, some G, none, some (ipd p), none, none]) (st := st) (b := p.2) rfl (by simp [ipd]) rfl
    unfold goOk
    cases h : (decide (0 ≤ p.1) && decide (p.1 < (modes : Nat))) with
    | false => rw [h] at c1; simp [-eChain_e, c1]
    | true => rw [h] at c1; simp [-eChain_e, c1, c2]⟩)
  rw [List.nil_append] at k1
  have lg : goes.length ≤ 16777216 := by omega
  have lr : rows.length ≤ 16777216 := by omega
  cases h1 : (decide (w = wShown) || decide (w = wDrawn)) with
  | false => simp [-dIn_tup, List.replicate, a1, in_words, h1]
  | true =>
  unfold goesOk
  cases h2 : (decide (1 ≤ goes.length) && decide (goes.length ≤ 12)) with
  | false =>
    rw [h2] at c
    simp [-dIn_tup, -eChain_e, List.replicate, a1, in_words, h1, c]
  | true =>
  rw [h2] at c
  by_cases h3 : rows.length = states
  case neg =>
    have h3' : ¬ (rows.length : Int) = states := by omega
    simp [-dIn_tup, -eChain_e, List.replicate, a1, in_words, h1, c, lR, h3, h3']
  have k1' : gAllB (goes.map fun p => D.bl (goOk modes p)) st = _ := gAllB_map
  cases h4 : goes.all (goOk modes) with
  | false =>
    rw [h4] at k1'
    simp [-dIn_tup, -eChain_e, List.replicate, a1, in_words, h1, c, lR, h3, lComp_e, lc1, wipeD, dG, lg, k1, k1']
  | true =>
  rw [h4] at k1'
  by_cases hw : w = wDrawn
  · have hw' : w ≠ wShown := by rw [hw]; decide
    have t1 : oEq (.str w) (.str [100, 114, 97, 119, 110]) st = .ok (.bl true) st := by rw [hw]; simp [wDrawn]
    have k2 := comp_map (q := .fix (rows.map itup)) (set := gN 7) (fe := (eAnd (eBin oEq (eCB fLen (aCons (eVar 7) aNil)) (eVar 2)) (eCS gAllB (lComp [9] (iEx (eVar 7)) (gN 9) HM.tYes (eChain oLe oLt (eC (.int 0)) (eVar 9) (eCB fLen (aCons (eVar 6) aNil))))))) (τ := [some Q, some (.int (states : Nat)), some (.int (lots : Nat)), some (.int (modes : Nat)), some (.str w), some R, some G, none, none, none, none]) (st := st) rfl itup (fun r => .bl (choiceOk lots goes.length r)) rows [] (fun r hr => ⟨[some Q, some (.int (states : Nat)), some (.int (lots : Nat)), some (.int (modes : Nat)), some (.str w), some R, some G, some (itup r), none, none, none], rfl, by
      have k3 := comp_map (q := .fix (r.map D.int)) (set := gN 9) (fe := (eChain oLe oLt (eC (.int 0)) (eVar 9) (eCB fLen (aCons (eVar 6) aNil)))) (τ := [some Q, some (.int (states : Nat)), some (.int (lots : Nat)), some (.int (modes : Nat)), some (.str w), some R, some G, some (itup r), none, none, none]) (st := st) rfl D.int (fun a => .bl (decide (0 ≤ a) && decide (a < (goes.length : Nat)))) r [] (fun a _ => ⟨[some Q, some (.int (states : Nat)), some (.int (lots : Nat)), some (.int (modes : Nat)), some (.str w), some R, some G, some (itup r), none, some (.int a), none], rfl,
        ch_lt (fa := eC (.int 0)) (fb := eVar 9) (fc := eCB fLen (aCons (eVar 6) aNil)) (c := goes.length) rfl rfl (by simp [lG])⟩)
      rw [List.nil_append] at k3
      have k3' : gAllB (r.map fun a : Int => D.bl (decide (0 ≤ a) && decide (a < (goes.length : Nat)))) st = _ := gAllB_map
      have lr2 : r.length ≤ 16777216 := by have := srr r hr; omega
      unfold choiceOk
      by_cases hl : r.length = lots
      · simp [-eChain_e, ln_itup, hl, lComp_e, lc1, wipeD, dq_itup, k3, k3']
        omega
      · have hl' : ¬ (r.length : Int) = lots := by omega
        simp [-eChain_e, ln_itup, hl, hl']⟩)
    rw [List.nil_append] at k2
    have k2' : gAllB (rows.map fun r => D.bl (choiceOk lots goes.length r)) st = _ := gAllB_map
    simp [-dIn_tup, -eChain_e, -oEq_str, List.replicate, a1, in_words, h1, c, lR, h3, lComp_e, lc1, wipeD, dG, lg, k1, k1', t1, dR, lr, k2, k2', hw']
    simp [hw, show states ≤ 16777216 by omega]
  · have hw' : w = wShown := by
      simp [hw] at h1
      exact h1
    have t1 : oEq (.str w) (.str [100, 114, 97, 119, 110]) st = .ok (.bl false) st := by
      have : ¬ w = [100, 114, 97, 119, 110] := hw
      simp [this]
    have hq : ∀ τ : Sl, (eBin oPow (eC (.int 10)) (eC (.int 40))) τ st = .ok (.int e40) st := fun τ => by simp [p40, e40]
    obtain ⟨B, eB⟩ : ∃ B, B = e40 := ⟨_, rfl⟩
    rw [← eB] at hq
    rcases for_all (q := .fix (rows.map itup)) (set := gN 7) (u := (sIf (tOr (tBl (eBin oNe (eCB fLen (aCons (eVar 7) aNil)) (eCB fLen (aCons (eVar 6) aNil)))) (tOr (HM.tNot (tVal (eCS gAllB (lComp [10] (iEx (eVar 7)) (gN 10) HM.tYes (eChain oLe oLe (eC (.int 0)) (eVar 10) (eBin oPow (eC (.int 10)) (eC (.int 40)))))))) (tBl (eBin oEq (eCS gSum (sEx (eVar 7))) (eC (.int 0)))))) (sRet (eC (.bl false))) sNil)) (st := st) rfl itup
        (rowOk goes.length)
        (fun τ => ∃ a, τ = [some Q, some (.int (states : Nat)), some (.int (lots : Nat)), some (.int (modes : Nat)), some (.str w), some R, some G, a, none, none, none]) rows [some Q, some (.int (states : Nat)), some (.int (lots : Nat)), some (.int (modes : Nat)), some (.str w), some R, some G, none, none, none, none] ⟨none, rfl⟩ (fun r hr τ hI => by
      obtain ⟨b, rfl⟩ := hI
      have k3 := comp_map (q := .fix (r.map D.int)) (set := gN 10) (fe := (eChain oLe oLe (eC (.int 0)) (eVar 10) (eBin oPow (eC (.int 10)) (eC (.int 40))))) (τ := [some Q, some (.int (states : Nat)), some (.int (lots : Nat)), some (.int (modes : Nat)), some (.str w), some R, some G, some (itup r), none, none, none]) (st := st) rfl D.int (fun a => .bl (decide (0 ≤ a) && decide (a ≤ B))) r [] (fun a _ => ⟨[some Q, some (.int (states : Nat)), some (.int (lots : Nat)), some (.int (modes : Nat)), some (.str w), some R, some G, some (itup r), none, none, some (.int a)], rfl,
        ch_le (fa := eC (.int 0)) (fb := eVar 10) (c := B) rfl rfl (hq _)⟩)
      rw [List.nil_append] at k3
      have k3' : gAllB (r.map fun a : Int => D.bl (decide (0 ≤ a) && decide (a ≤ B))) st = _ := gAllB_map
      have lr2 : r.length ≤ 16777216 := by have := srr r hr; omega
      have gs : gSum (r.map D.int) st = .ok (.int r.sum) st := gSum_ints
      refine ⟨[some Q, some (.int (states : Nat)), some (.int (lots : Nat)), some (.int (modes : Nat)), some (.str w), some R, some G, some (itup r), none, none, none], rfl, ?_⟩
      unfold rowOk
      rw [← eB]
      by_cases hl : r.length = goes.length
      · cases ha : (r.all fun a : Int => decide (0 ≤ a) && decide (a ≤ B)) with
        | false =>
          rw [ha] at k3'
          refine ⟨fun hp => by simp at hp, fun _ => ?_⟩
          simp [-eChain_e, ln_itup, lG, hl, lComp_e, lc1, wipeD, dq_itup, lr2, lg, k3, k3']
        | true =>
          rw [ha] at k3'
          have nn : 0 ≤ r.sum := sum_nn fun x hx => by
            have := List.all_eq_true.mp ha x hx
            simp at this
            exact this.1
          refine ⟨fun hp => ⟨[some Q, some (.int (states : Nat)), some (.int (lots : Nat)), some (.int (modes : Nat)), some (.str w), some R, some G, some (itup r), none, none, none], ?_, some (itup r), rfl⟩, fun hp => ?_⟩
          · have h0 : ¬ r.sum = 0 := by
              simp [hl] at hp
              omega
            simp [-eChain_e, ln_itup, lG, hl, lComp_e, lc1, wipeD, dq_itup, lr2, lg, k3, k3', os_itup, gs, h0]
          · have h0 : r.sum = 0 := by
              simp [hl] at hp
              omega
            simp [-eChain_e, ln_itup, lG, hl, lComp_e, lc1, wipeD, dq_itup, lr2, lg, k3, k3', os_itup, gs, h0]
      · have hl' : ¬ (r.length : Int) = goes.length := by omega
        refine ⟨fun hp => by simp [hl] at hp, fun _ => ?_⟩
        simp [-eChain_e, ln_itup, lG, hl, hl']) with ⟨ha, τ', e2, t, rfl⟩ | ⟨ha, e2⟩
    · have ha' : (rows.all fun row => if w = wShown then rowOk goes.length row else choiceOk lots goes.length row) = true := by simpa [hw'] using ha
      rw [ha']
      simp [-dIn_tup, -eChain_e, -oEq_str, List.replicate, a1, in_words, h1, c, lR, h3, lComp_e, lc1, wipeD, dG, lg, k1, k1', t1, dR, sFor_e, e2]
    · have ha' : (rows.all fun row => if w = wShown then rowOk goes.length row else choiceOk lots goes.length row) = false := by simpa [hw'] using ha
      rw [ha']
      simp [-dIn_tup, -eChain_e, -oEq_str, List.replicate, a1, in_words, h1, c, lR, h3, lComp_e, lc1, wipeD, dG, lg, k1, k1', t1, dR, sFor_e, e2]
structure Hs.sm (h : Hs) : Prop where
  l : h.lots.length ≤ 1000
  m : h.modes.length ≤ 1000
  q : ∀ m ∈ h.modes, m.length ≤ 1000 ∧ ∀ q ∈ m, q.sm
theorem r_lh {h : Hs} (Z : h.sm) : f__law_is_house [h.d] st = .ok (.bl h.ok) st := by
  obtain ⟨w, rs, near, lots, modes⟩ := h
  obtain ⟨zl, zm, zq⟩ := Z
  simp only at zl zm zq
  unfold f__law_is_house Hs.ok
  rw [runB_e]
  unfold m__law_is_house
  simp only
  obtain ⟨H, eH⟩ : ∃ H, H = Hs.d ⟨w, rs, near, lots, modes⟩ := ⟨_, rfl⟩
  obtain ⟨L, eL⟩ : ∃ L, L = itup lots := ⟨_, rfl⟩
  obtain ⟨M, eM⟩ : ∃ M, M = D.tup (modes.map qsd) := ⟨_, rfl⟩
  obtain ⟨S, eS⟩ : ∃ S, S = D.tup rs := ⟨_, rfl⟩
  have lL : fLen [L] st = .ok (.int lots.length) st := by rw [eL]; exact ln_itup
  have lM : fLen [M] st = .ok (.int modes.length) st := by rw [eM]; simp
  have lS : fLen [S] st = .ok (.int rs.length) st := by rw [eS]; simp
  have dM : dSq st M = some (.fix (modes.map qsd)) := by rw [eM]; rfl
  have dL : dSq st L = some (.fix (lots.map D.int)) := by rw [eL]; rfl
  obtain ⟨R, eR⟩ : ∃ R, R = D.tup [.str [114, 101, 97, 100, 101, 114], S] := ⟨_, rfl⟩
  have iR : oIx R (.int 1) st = .ok S st := by rw [eR]; simp
  have a1 : ofA (gT 5 (gCs 1 (gCs 2 (gCs 3 (gCs 4 (gCs 5 gNil0)))))) [some H, none, none, none, none, none, none, none, none] H st = .nx [some H, some (.str w), some R, some near, some L, some M, none, none, none] st := by rw [eH, eL, eM, eR, eS]; rfl
  rw [← eH]
  have cl := ch_le (fa := eC (.int 1)) (fb := eCB fLen (aCons (eVar 4) aNil)) (fc := eC (.int 5)) (τ := [some H, some (.str w), some R, some near, some L, some M, none, none, none]) (st := st) (b := lots.length) rfl (by simp [lL]) rfl
  have cl' : (decide ((1 : Int) ≤ lots.length) && decide ((lots.length : Int) ≤ 5)) = (decide (1 ≤ lots.length) && decide (lots.length ≤ 5)) := by
    congr 1 <;> (apply decide_eq_decide.mpr; omega)
  rw [cl'] at cl
  have c := ch_le (fa := eC (.int 1)) (fb := eCB fLen (aCons (eVar 5) aNil)) (fc := eC (.int 60)) (τ := [some H, some (.str w), some R, some near, some L, some M, none, none, none]) (st := st) (b := modes.length) rfl (by simp [lM]) rfl
  have c' : (decide ((1 : Int) ≤ modes.length) && decide ((modes.length : Int) ≤ 60)) = (decide (1 ≤ modes.length) && decide (modes.length ≤ 60)) := by
    congr 1 <;> (apply decide_eq_decide.mpr; omega)
  rw [c'] at c
  by_cases h1 : w = wHouse
  case neg =>
    have h1' : ¬ w = [104, 111, 117, 115, 101] := h1
    simp [-eChain_e, List.replicate, a1, h1, h1']
  rw [show decide (w = wHouse) = true from decide_eq_true h1]
  unfold lotsOk
  have h1' : w = [104, 111, 117, 115, 101] := h1
  have t1 : oNe (.str w) (.str [104, 111, 117, 115, 101]) st = .ok (.bl false) st := by rw [h1']; simp
  cases h2 : (decide (1 ≤ lots.length) && decide (lots.length ≤ 5)) with
  | false =>
    rw [h2] at cl
    simp [-eChain_e, -oNe_str, List.replicate, a1, t1, cl]
  | true =>
  rw [h2] at cl
  cases h3 : (decide (1 ≤ modes.length) && decide (modes.length ≤ 60)) with
  | false =>
    rw [h3] at c
    simp [-eChain_e, -oNe_str, List.replicate, a1, t1, cl, c]
  | true =>
  rw [h3] at c
  have hq : ∀ τ : Sl, (eBin oPow (eC (.int 10)) (eC (.int 40))) τ st = .ok (.int e40) st := fun τ => by simp [p40, e40]
  obtain ⟨B, eB⟩ : ∃ B, B = e40 := ⟨_, rfl⟩
  rw [← eB] at hq ⊢
  have k3 := comp_map (q := .fix (lots.map D.int)) (set := gN 7) (fe := (eChain oLe oLe (eC (.int 1)) (eVar 7) (eBin oPow (eC (.int 10)) (eC (.int 40))))) (τ := [some H, some (.str w), some R, some near, some L, some M, none, none, none]) (st := st) rfl D.int (fun a => .bl (decide (1 ≤ a) && decide (a ≤ B))) lots [] (fun a _ => ⟨[some H, some (.str w), some R, some near, some L, some M, none, some (.int a), none], rfl,
        ch_le (fa := eC (.int 1)) (fb := eVar 7) (c := B) rfl rfl (hq _)⟩)
  rw [List.nil_append] at k3
  have k3' : gAllB (lots.map fun a : Int => D.bl (decide (1 ≤ a) && decide (a ≤ B))) st = _ := gAllB_map
  have ll : lots.length ≤ 16777216 := by omega
  cases h4 : (lots.all fun a : Int => decide (1 ≤ a) && decide (a ≤ B)) with
  | false =>
    rw [h4] at k3'
    simp [-eChain_e, -oNe_str, List.replicate, a1, t1, cl, c, lComp_e, lc1, wipeD, dL, ll, k3, k3']
  | true =>
  rw [h4] at k3'
  rcases for_all (q := .fix (modes.map qsd)) (set := gN 6) (u := (sSeq (sIf (tBl (eBin oGt (eCB fLen (aCons (eVar 6) aNil)) (eC (.int 8)))) (sRet (eC (.bl false))) sNil)
    (sIf (HM.tNot (tVal (eCS gAllB (lComp [8] (iEx (eVar 6)) (gN 8) HM.tYes (eCall 4 f__law_is_question (aCons (eVar 8) (aCons (eCB fLen (aCons (eBin oIx (eVar 2) (eC (.int 1))) aNil)) (aCons (eCB fLen (aCons (eVar 4) aNil)) (aCons (eCB fLen (aCons (eVar 5) aNil)) aNil))))))))) (sRet (eC (.bl false))) sNil))) (st := st) rfl qsd
          (modeOk rs.length lots.length modes.length) (fun τ => ∃ a, τ = [some H, some (.str w), some R, some near, some L, some M, a, none, none]) modes _ ⟨none, rfl⟩ (fun m hm τ hI => by
    obtain ⟨b, rfl⟩ := hI
    obtain ⟨zm, zz⟩ := zq m hm
    have lm : fLen [qsd m] st = .ok (.int m.length) st := by simp [qsd]
    have dm : dSq st (qsd m) = some (.fix (m.map Qn.d)) := rfl
    obtain ⟨mm, emm⟩ : ∃ mm, mm = qsd m := ⟨_, rfl⟩
    rw [← emm] at lm dm ⊢
    refine ⟨[some H, some (.str w), some R, some near, some L, some M, some mm, none, none], rfl, ?_⟩
    have k4 := comp_map (q := .fix (m.map Qn.d)) (set := gN 8) (fe := (eCall 4 f__law_is_question (aCons (eVar 8) (aCons (eCB fLen (aCons (eBin oIx (eVar 2) (eC (.int 1))) aNil)) (aCons (eCB fLen (aCons (eVar 4) aNil)) (aCons (eCB fLen (aCons (eVar 5) aNil)) aNil)))))) (τ := [some H, some (.str w), some R, some near, some L, some M, some mm, none, none]) (st := st) rfl Qn.d (fun q => .bl (q.ok rs.length lots.length modes.length)) m [] (fun q hq => ⟨[some H, some (.str w), some R, some near, some L, some M, some mm, none, some q.d], rfl, by
      have z := r_lq (st := st) (states := rs.length) (lots := lots.length) (modes := modes.length) (zz q hq)
      simp [iR, lS, lL, lM, z]⟩)
    rw [List.nil_append] at k4
    have k4' : gAllB (m.map fun q => D.bl (q.ok rs.length lots.length modes.length)) st = _ := gAllB_map
    have lm2 : m.length ≤ 16777216 := by omega
    unfold modeOk
    by_cases h8 : m.length ≤ 8
    · have h8' : ¬ ((8 : Int) < m.length) := by omega
      cases ha : (m.all fun q => q.ok rs.length lots.length modes.length) with
      | false =>
        rw [ha] at k4'
        refine ⟨fun hp => by simp at hp, fun _ => ?_⟩
        simp [lm, oGt, h8', lComp_e, lc1, wipeD, dm, lm2, k4, k4']
      | true =>
        rw [ha] at k4'
        refine ⟨fun hp => ⟨[some H, some (.str w), some R, some near, some L, some M, some mm, none, none], ?_, some mm, rfl⟩, fun hp => by simp [h8] at hp⟩
        simp [lm, oGt, h8', lComp_e, lc1, wipeD, dm, lm2, k4, k4']
    · refine ⟨fun hp => by simp [h8] at hp, fun _ => ?_⟩
      have h8' : ((8 : Int) < m.length) := by omega
      simp [lm, oGt, h8']) with ⟨ha, τ', e2, t, rfl⟩ | ⟨ha, e2⟩
  · rw [ha]
    simp [-eChain_e, -oNe_str, List.replicate, a1, t1, cl, c, lComp_e, lc1, wipeD, dL, ll, k3, k3', sFor_e, dM, e2]
  · rw [ha]
    simp [-eChain_e, -oNe_str, List.replicate, a1, t1, cl, c, lComp_e, lc1, wipeD, dL, ll, k3, k3', sFor_e, dM, e2]
theorem r_judged {h : Hs} (Z : h.sm) : f__law_judged [h.d] st = .ok (.bl true) st := by
  have z1 := r_is_house (st := st) (h := h)
  have z2 := r_lh (st := st) Z
  simp [f__law_judged, runB_e, m__law_judged, List.replicate, z1, z2]
end

/-- a draw, as a natural number -/
theorem r_drawN {ns : List Int} {st : Store} {many : Nat} (H : DS ns st) (h0 : 0 < many) (h1 : many < 2 ^ 60) :
    ∃ (v : Nat) (st' : Store), f__law_draw [.ref 1, .int (many : Nat)] st = .ok (.int (v : Nat)) st' ∧ v < many ∧ DS ns st' ∧ Fr st st' := by
  obtain ⟨v, s1, e, v0, v1, D1, F1⟩ := r_draw (many := (many : Nat)) H (by omega) (by
    rw [Int.natAbs_natCast]
    have := log2_le h1
    omega)
  refine ⟨v.toNat, s1, ?_, by omega, D1, F1⟩
  rw [Int.toNat_of_nonneg v0]
  exact e
theorem ixN_of {n j : Nat} (h : j < n) : ixN n (j : Nat) = some j := by
  unfold ixN
  rw [if_pos (by omega), if_pos (by simpa using h)]
  simp
theorem atI_of {xs : List D} {j : Nat} (h : j < xs.length) : atI xs (j : Nat) = some xs[j] := atI_nat (by simp [h])
theorem r_drawZ {ns : List Int} {st : Store} {many : Int} (H : DS ns st) (h0 : 0 < many) (h1 : many ≤ 1000) :
    ∃ v st', f__law_draw [.ref 1, .int many] st = .ok (.int v) st' ∧ 0 ≤ v ∧ v < many ∧ DS ns st' ∧ Fr st st' :=
  r_draw H h0 (Nat.lt_of_le_of_lt (log2_le (k := 10) (by omega)) (by decide))

section
variable {ns : List Int} {st : Store}
theorem pw40 : okPow 10 40 = true := by decide
theorem pw39 : okPow 10 39 = true := by decide
theorem pw20 : okPow 10 20 = true := by decide
theorem r_weight {b : Bool} (H : DS ns st) : ∃ v st', f__law_weight [.ref 1, .bl b] st = .ok (.int v) st' ∧ 1 ≤ v ∧ v ≤ e40 ∧ DS ns st' ∧ Fr st st' := by
  unfold f__law_weight
  rw [runB_e]
  unfold m__law_weight
  have rest : ∀ s, DS ns s → ∃ v st', (eBin oAdd (eC (.int 1)) (eCall 2 f__law_draw (aCons (eVar 0) (aCons (eC (.int 9)) aNil)))) [some (.ref 1), some (.bl b)] s = .ok (.int v) st' ∧ 1 ≤ v ∧ v ≤ e40 ∧ DS ns st' ∧ Fr s st' := fun s DD => by
    obtain ⟨v, s1, e, v0, v1, D1, F1⟩ := r_draw (many := 9) DD (by decide) (by decide)
    exact ⟨1 + v, s1, by simp [e], by omega, by unfold e40; omega, D1, F1⟩
  cases b with
  | false =>
    obtain ⟨v, s1, e, v0, v1, D1, F1⟩ := rest st H
    refine ⟨v, s1, ?_, v0, v1, D1, F1⟩
    simp [-eBin_e, e]
  | true =>
    obtain ⟨x, s1, e, x0, x1, D1, F1⟩ := r_draw (many := 3) H (by decide) (by decide)
    by_cases hx : x = 1
    · obtain ⟨A, eA⟩ : ∃ A : List D, A = [.int 10000000000000000000000000000000000000000, .int 9999999999999999999999999999999999999999, .int 1000000000000000000000000000000000000007, .int 100000000000000000000] := ⟨_, rfl⟩
      obtain ⟨v, s2, e2, hv, D2, F2⟩ := r_pick (st := s1 ++ [.lst A]) (m := s1.length) (xs := A) D1.app lstAt_new (by have := D1.len; omega) (by rw [eA]; decide) (by rw [eA]; decide)
      have : ∃ w : Int, v = .int w ∧ 1 ≤ w ∧ w ≤ e40 := by
        rw [eA] at hv
        simp only [List.mem_cons, List.not_mem_nil, or_false] at hv
        unfold e40
        rcases hv with rfl | rfl | rfl | rfl
        · exact ⟨_, rfl, by decide, by decide⟩
        · exact ⟨_, rfl, by decide, by decide⟩
        · exact ⟨_, rfl, by decide, by decide⟩
        · exact ⟨_, rfl, by decide, by decide⟩
      obtain ⟨w, rfl, w0, w1⟩ := this
      refine ⟨w, s2, ?_, w0, w1, D2, F1.trans (Fr.app.trans F2)⟩
      have lA : A.length ≤ 16777216 := by rw [eA]; decide
      simp [e, hx, pw40, pw39, pw20, ← eA, e2, lA]
    · obtain ⟨v, s2, e2, v0, v1, D2, F2⟩ := rest s1 D1
      refine ⟨v, s2, ?_, v0, v1, D2, F1.trans F2⟩
      simp [-eBin_e, e, hx] at e2 ⊢
      simp at e2 ⊢
      simp [e, hx, e2]
/-- weights, at least one of them positive -/
structure Wts (n : Nat) (ws : List Int) : Prop where
  len : ws.length = n
  bd : ∀ w ∈ ws, 0 ≤ w ∧ w ≤ e40
theorem sum_ge : ∀ {xs : List Int}, (∀ x ∈ xs, 0 ≤ x) → ∀ {a : Int}, a ∈ xs → a ≤ xs.sum
  | [], _, a, h => by simp at h
  | x :: xs, hn, a, h => by
    have h1 := hn x (List.mem_cons_self ..)
    have h2 : 0 ≤ xs.sum := sum_nn fun y hy => hn y (List.mem_cons_of_mem _ hy)
    rw [List.sum_cons]
    rcases List.mem_cons.mp h with rfl | h
    · omega
    · have := sum_ge (fun y hy => hn y (List.mem_cons_of_mem _ hy)) h
      omega
theorem r_weights {n : Nat} {b : Bool} (H : DS ns st) (h0 : 0 < n) (h1 : n ≤ 1000) : ∃ ws st', f__law_weights [.ref 1, .int (n : Nat), .bl b] st = .ok (itup ws) st' ∧ Wts n ws ∧ 0 < ws.sum ∧ DS ns st' ∧ Fr st st' := by
  have hr : ∀ s, rg1 (.int (n : Nat)) s = .ok (.fix (rng 0 n)) s := fun s => rg1_int (by omega)
  have hl : (rng 0 (n : Nat)).length ≤ 16777216 := by rw [rng_len]; omega
  obtain ⟨ys, s1, e1, ws, rfl, W1, D1, F1⟩ := comp_gen (q := .fix (rng 0 n)) (set := gN 4) (ft := HM.tYes) (fe := (eCall 2 f__law_weight (aCons (eVar 0) (aCons (eVar 2) aNil)))) (τ := [some (.ref 1), some (.int (n : Nat)), some (.bl b), none, none])
    (fun k acc s => ∃ ws : List Int, acc = ws.map D.int ∧ Wts k ws ∧ DS ns s ∧ Fr st s) (fun _ _ _ _ => rfl) (rng 0 n) 0 [] st ⟨[], rfl, ⟨rfl, by simp⟩, H, .refl⟩ (by
      intro i d acc s hi hp
      obtain ⟨ws, rfl, W, DD, F⟩ := hp
      obtain ⟨k, hk, rfl⟩ := rng_mem hi
      obtain ⟨v, s3, e3, v0, v1, D3, F3⟩ := r_weight (b := b) DD
      refine ⟨[some (.ref 1), some (.int (n : Nat)), some (.bl b), none, some (.int (k : Nat))], rfl, true, s, rfl, (fun h => nomatch h), fun _ => ⟨.int v, s3, by simp [e3], ws ++ [v], by simp, ⟨by simp [W.len], ?_⟩, D3, F.trans F3⟩⟩
      intro w hw
      rcases List.mem_append.mp hw with q | q
      · exact W.bd w q
      · rw [List.mem_singleton.mp q]
        exact ⟨by omega, v1⟩)
  rw [rng_len, Nat.zero_add] at W1
  have hm : 2 ≤ s1.length := D1.len
  obtain ⟨m, em⟩ : ∃ m, m = s1.length := ⟨_, rfl⟩
  obtain ⟨τ', s4, e4, ws4, ⟨a, rfl⟩, g4, W4, D4, F4⟩ := for_inv (q := .fix (rng 0 n)) (set := gN 4) (u := (sIf (tBl (eBin oEq (eCall 2 f__law_draw (aCons (eVar 0) (aCons (eC (.int 5)) aNil))) (eC (.int 2)))) (sSub (eVar 3) (eVar 4) (eC (.int 0))) sNil))
    (fun k τ s => ∃ ws : List Int, (∃ a, τ = [some (.ref 1), some (.int (n : Nat)), some (.bl b), some (.ref m), a]) ∧ lstAt s m = some (ws.map D.int) ∧ Wts n ws ∧ DS ns s ∧ Fr s1 s) (fun _ _ _ _ => rfl) (rng 0 n) 0 [some (.ref 1), some (.int (n : Nat)), some (.bl b), some (.ref m), none] (s1 ++ [.lst (ws.map D.int)])
    ⟨ws, ⟨none, rfl⟩, by rw [em]; exact lstAt_new, W1, D1.app, .app⟩ (by
      intro i d τ s hi hp
      obtain ⟨ws, ⟨a, rfl⟩, g, W, DD, F⟩ := hp
      obtain ⟨k, hk, rfl⟩ := rng_mem hi
      obtain ⟨v, s3, e3, v0, v1, D3, F3⟩ := r_draw (many := 5) DD (by decide) (by decide)
      have g3 := F3.lst g (by omega)
      refine ⟨[some (.ref 1), some (.int (n : Nat)), some (.bl b), some (.ref m), some (.int (k : Nat))], rfl, ?_⟩
      by_cases hv : v = 2
      · have hk2 : k < (ws.map D.int).length := by simp [W.len, hk]
        have o := oSet_ref (v := .int 0) g3 (ixN_of hk2)
        refine ⟨[some (.ref 1), some (.int (n : Nat)), some (.bl b), some (.ref m), some (.int (k : Nat))], s3.set m (Cell.lst ((ws.map D.int).set k (.int 0))), .inl ?_, ws.set k 0, ⟨_, rfl⟩, by rw [lstAt_set g3]; simp, ⟨by simp [W.len], ?_⟩, D3.put2 (by omega) (by omega), (F.trans F3).put2 (by omega)⟩
        · simp [-oSet, e3, hv, o]
        · intro w hw
          rcases List.mem_or_eq_of_mem_set hw with q | rfl
          · exact W.bd w q
          · exact ⟨by decide, by decide⟩
      · exact ⟨[some (.ref 1), some (.int (n : Nat)), some (.bl b), some (.ref m), some (.int (k : Nat))], s3, .inl (by simp [e3, hv]), ws, ⟨_, rfl⟩, g3, W, D3, F.trans F3⟩)
  unfold f__law_weights
  rw [runB_e]
  unfold m__law_weights
  have gs : gSum (ws4.map D.int) s4 = .ok (.int ws4.sum) s4 := gSum_ints
  have os4 : oSeq (.ref m) s4 = .ok (ws4.map D.int) s4 := by simp [oSeq, dSeq_ref g4]
  have nn : ∀ x ∈ ws4, 0 ≤ x := fun x hx => (W4.bd x hx).1
  by_cases hz : ws4.sum = 0
  · obtain ⟨v, s5, e5, v0, v1, D5, F5⟩ := r_weight (b := b) D4
    obtain ⟨k, s6, e6, k1, D6, F6⟩ := r_drawN (many := n) D5 h0 (by omega)
    have g6 := F6.lst (F5.lst g4 (by omega)) (by omega)
    have hk2 : k < (ws4.map D.int).length := by simp [W4.len, k1]
    have o := oSet_ref (v := .int v) g6 (ixN_of hk2)
    have g7 := lstAt_set (ys := (ws4.map D.int).set k (.int v)) g6
    refine ⟨ws4.set k v, s6.set m (Cell.lst ((ws4.map D.int).set k (.int v))), ?_, ⟨by simp [W4.len], ?_⟩, ?_, D6.put2 (by omega) (by omega), ((F1.trans F4).trans (F5.trans F6)).put2 (by have := F1.len; omega)⟩
    · simp [-oSet, List.replicate, lComp_e, lc1, wipeD, hr, hl, e1, ← em, sFor_e, e4, os4, gs, hz, e5, e6, o, fTuple_ref g7]
      simp [itup]
    · intro w hw
      rcases List.mem_or_eq_of_mem_set hw with q | rfl
      · exact W4.bd w q
      · exact ⟨by omega, v1⟩
    · have hm : v ∈ ws4.set k v := List.mem_set (by simpa using hk2) v
      have := sum_ge (xs := ws4.set k v) (fun x hx => by
        rcases List.mem_or_eq_of_mem_set hx with q | rfl
        · exact nn x q
        · omega) hm
      omega
  · have : 0 ≤ ws4.sum := sum_nn nn
    refine ⟨ws4, s4, ?_, W4, by omega, D4, F1.trans F4⟩
    simp [-oSet, List.replicate, lComp_e, lc1, wipeD, hr, hl, e1, ← em, sFor_e, e4, os4, gs, hz, fTuple_ref g4]
    rfl
end

section
variable {ns : List Int} {st : Store}
theorem r_one_question {sz a b e states many : Nat} {c : D} {wide : Bool} (H : DS ns st) (hz : lstAt st sz = some [.int (a : Nat), .int (b : Nat), c, .int (e : Nat)]) (hz1 : sz ≠ 1)
    (ha : 0 < a) (ha2 : a ≤ 100) (hb : 0 < b) (hb2 : b ≤ 100) (hs : states ≤ 100) (hm : 0 < many) (hm2 : many ≤ 100) :
    ∃ q st', f__law_one_question [.ref 1, .int (states : Nat), .ref sz, .int (many : Nat), .bl wide] st = .ok (Qn.d q) st' ∧ q.sm ∧ (many ≤ 12 → q.ok states a b = true) ∧ DS ns st' ∧ Fr st st' := by
  obtain ⟨Z, eZ⟩ : ∃ Z : List D, Z = [.int (a : Nat), .int (b : Nat), c, .int (e : Nat)] := ⟨_, rfl⟩
  rw [← eZ] at hz
  have z0 : atI Z 0 = some (.int (a : Nat)) := by rw [eZ]; simp
  have z1 : atI Z 1 = some (.int (b : Nat)) := by rw [eZ]; simp
  have hr : ∀ (n : Nat) s, n ≤ 100 → rg1 (.int (n : Nat)) s = .ok (.fix (rng 0 n)) s := fun n s h => rg1_int (by omega)
  have hl : ∀ n : Nat, n ≤ 100 → (rng 0 (n : Nat)).length ≤ 16777216 := fun n h => by rw [rng_len]; omega
  have rm := fun s => hr many s hm2
  have rs := fun s => hr states s hs
  have ra := fun s => hr a s ha2
  have lm := hl many hm2
  have ls := hl states hs
  have la := hl a ha2
  -- the goes
  obtain ⟨ys, s1, e1, gs, rfl, lg, ag, D1, F1⟩ := comp_gen (q := .fix (rng 0 many)) (set := gN 7) (ft := HM.tYes) (fe := (eTup (aCons (eCall 2 f__law_draw (aCons (eVar 0) (aCons (eBin oIx (eVar 2) (eC (.int 1))) aNil))) (aCons (eCall 2 f__law_draw (aCons (eVar 0) (aCons (eC (.int 2)) aNil))) aNil)))) (τ := [some (.ref 1), some (.int (states : Nat)), some (.ref sz), some (.int (many : Nat)), some (.bl wide), none, none, none, none, none])
    (fun k acc s => ∃ gs : List (Int × Int), acc = gs.map ipd ∧ gs.length = k ∧ (∀ g ∈ gs, goOk b g = true) ∧ DS ns s ∧ Fr st s) (fun _ _ _ _ => rfl) (rng 0 many) 0 [] st ⟨[], rfl, rfl, by simp, H, .refl⟩ (by
      intro i d acc s hi hp
      obtain ⟨gs, rfl, lg, ag, DD, F⟩ := hp
      obtain ⟨k, hk, rfl⟩ := rng_mem hi
      obtain ⟨v, s3, e3, v1, D3, F3⟩ := r_drawN (many := b) DD hb (by omega)
      obtain ⟨u, s4, e4, u0, u1, D4, F4⟩ := r_draw (many := 2) D3 (by decide) (by decide)
      have g := F.lst hz hz1
      refine ⟨_, rfl, true, s, rfl, (fun h => nomatch h), fun _ => ⟨ipd ((v : Int), u), s4, ?_, gs ++ [((v : Int), u)], by simp, by simp [lg], ?_, D4, (F.trans F3).trans F4⟩⟩
      · simp [oIx_ref g, z1, e3, e4]
        rfl
      · intro x hx
        rcases List.mem_append.mp hx with q | q
        · exact ag x q
        · rw [List.mem_singleton.mp q]
          simp [goOk]
          omega)
  rw [rng_len, Nat.zero_add] at lg
  obtain ⟨G, eG⟩ : ∃ G, G = gs.map ipd := ⟨_, rfl⟩
  rw [← eG] at e1
  have lG : G.length ≤ 16777216 := by rw [eG, List.length_map]; omega
  obtain ⟨x, s2, e2, x0, x1, D2, F2⟩ := r_draw (many := 2) D1 (by decide) (by decide)
  have hg2 : many ≤ 12 → goesOk b gs = true := fun h => by
    unfold goesOk
    rw [List.all_eq_true.mpr ag]
    simp
    omega
  unfold f__law_one_question
  rw [runB_e]
  unfold m__law_one_question
  by_cases hx : x = 1
  · obtain ⟨ys, s3, e3, R, rfl, lR, aR, D3, F3⟩ := comp_gen (q := .fix (rng 0 states)) (set := gN 8) (ft := HM.tYes) (fe := (eCS gTuple (lComp [9] (iRg1 (eBin oIx (eVar 2) (eC (.int 0)))) (gN 9) HM.tYes (eCall 2 f__law_draw (aCons (eVar 0) (aCons (eVar 3) aNil)))))) (τ := [some (.ref 1), some (.int (states : Nat)), some (.ref sz), some (.int (many : Nat)), some (.bl wide), some (.tup G), none, none, none, none])
      (fun k acc s => ∃ R : List (List Int), acc = R.map itup ∧ R.length = k ∧ (∀ r ∈ R, choiceOk a many r = true) ∧ DS ns s ∧ Fr s2 s) (fun _ _ _ _ => rfl) (rng 0 states) 0 [] s2 ⟨[], rfl, rfl, by simp, D2, .refl⟩ (by
        intro i d acc s hi hp
        obtain ⟨R, rfl, lR, aR, DD, F⟩ := hp
        obtain ⟨k, hk, rfl⟩ := rng_mem hi
        have g := F.lst (F2.lst (F1.lst hz hz1) hz1) hz1
        obtain ⟨ys, s4, e4, r, rfl, lr, ar, D4, F4⟩ := comp_gen (q := .fix (rng 0 a)) (set := gN 9) (ft := HM.tYes) (fe := (eCall 2 f__law_draw (aCons (eVar 0) (aCons (eVar 3) aNil)))) (τ := [some (.ref 1), some (.int (states : Nat)), some (.ref sz), some (.int (many : Nat)), some (.bl wide), some (.tup G), none, none, some (.int (k : Nat)), none])
          (fun k acc s' => ∃ r : List Int, acc = r.map D.int ∧ r.length = k ∧ (∀ x ∈ r, (0 ≤ x ∧ x < (many : Nat))) ∧ DS ns s' ∧ Fr s s') (fun _ _ _ _ => rfl) (rng 0 a) 0 [] s ⟨[], rfl, rfl, by simp, DD, .refl⟩ (by
            intro i d acc s' hi hp
            obtain ⟨r, rfl, lr, ar, D5, F5⟩ := hp
            obtain ⟨k, hk, rfl⟩ := rng_mem hi
            obtain ⟨v, s6, e6, v1, D6, F6⟩ := r_drawN (many := many) D5 hm (by omega)
            refine ⟨_, rfl, true, s', rfl, (fun h => nomatch h), fun _ => ⟨.int (v : Nat), s6, by simp [e6], r ++ [(v : Int)], by simp, by simp [lr], ?_, D6, F5.trans F6⟩⟩
            intro x hx
            rcases List.mem_append.mp hx with q | q
            · exact ar x q
            · rw [List.mem_singleton.mp q]
              omega)
        rw [rng_len, Nat.zero_add] at lr
        refine ⟨_, rfl, true, s, rfl, (fun h => nomatch h), fun _ => ⟨itup r, s4, ?_, R ++ [r], by simp, by simp [lR], ?_, D4, F.trans F4⟩⟩
        · simp [List.replicate, lComp_e, lc1, wipeD, oIx_ref g, z0, ra, la, e4]
          rfl
        · intro y hy
          rcases List.mem_append.mp hy with q | q
          · exact aR y q
          · rw [List.mem_singleton.mp q]
            unfold choiceOk
            simp [lr]
            exact ar)
    rw [rng_len, Nat.zero_add] at lR
    refine ⟨⟨wDrawn, R, gs⟩, s3 ++ [.lst (R.map itup)], ?_, ⟨by simp only; omega, by simp only; omega, ?_⟩, ?_, D3.app, ((F1.trans F2).trans F3).trans .app⟩
    · have g := lstAt_new (a := s3) (xs := R.map itup)
      simp [List.replicate, lComp_e, lc1, wipeD, rm, lm, e1, e2, hx, rs, ls, e3, fTuple_ref g]
      rw [eG]
      rfl
    · intro r hr
      have := aR r hr
      unfold choiceOk at this
      simp at this
      omega
    · intro h
      unfold Qn.ok
      simp only
      rw [hg2 h, show (R.all fun row => if wDrawn = wShown then rowOk gs.length row else choiceOk a gs.length row) = true from List.all_eq_true.mpr fun r hr => by
        rw [if_neg (by decide), lg]
        exact aR r hr]
      simp [lR]
  · obtain ⟨ys, s3, e3, R, rfl, lR, aR, D3, F3⟩ := comp_gen (q := .fix (rng 0 states)) (set := gN 8) (ft := HM.tYes) (fe := (eCall 3 f__law_weights (aCons (eVar 0) (aCons (eVar 3) (aCons (eVar 4) aNil))))) (τ := [some (.ref 1), some (.int (states : Nat)), some (.ref sz), some (.int (many : Nat)), some (.bl wide), some (.tup G), none, none, none, none])
      (fun k acc s => ∃ R : List (List Int), acc = R.map itup ∧ R.length = k ∧ (∀ r ∈ R, rowOk many r = true) ∧ DS ns s ∧ Fr s2 s) (fun _ _ _ _ => rfl) (rng 0 states) 0 [] s2 ⟨[], rfl, rfl, by simp, D2, .refl⟩ (by
        intro i d acc s hi hp
        obtain ⟨R, rfl, lR, aR, DD, F⟩ := hp
        obtain ⟨k, hk, rfl⟩ := rng_mem hi
        obtain ⟨ws, s4, e4, W4, p4, D4, F4⟩ := r_weights (n := many) (b := wide) DD hm (by omega)
        refine ⟨_, rfl, true, s, rfl, (fun h => nomatch h), fun _ => ⟨itup ws, s4, by simp [e4], R ++ [ws], by simp, by simp [lR], ?_, D4, F.trans F4⟩⟩
        intro y hy
        rcases List.mem_append.mp hy with q | q
        · exact aR y q
        · rw [List.mem_singleton.mp q]
          unfold rowOk
          rw [decide_eq_true W4.len, decide_eq_true p4, List.all_eq_true.mpr fun w hw => by rw [decide_eq_true (W4.bd w hw).1, decide_eq_true (W4.bd w hw).2]; rfl]
          rfl)
    rw [rng_len, Nat.zero_add] at lR
    refine ⟨⟨wShown, R, gs⟩, s3, ?_, ⟨by simp only; omega, by simp only; omega, ?_⟩, ?_, D3, (F1.trans F2).trans F3⟩
    · simp [List.replicate, lComp_e, lc1, wipeD, rm, lm, e1, e2, hx, rs, ls, e3]
      rw [eG]
      rfl
    · intro r hr
      have := aR r hr
      unfold rowOk at this
      simp at this
      omega
    · intro h
      unfold Qn.ok
      show ((decide (wShown = wShown) || decide (wShown = wDrawn)) && goesOk b gs && decide (R.length = states) && R.all fun row => if wShown = wShown then rowOk gs.length row else choiceOk a gs.length row) = true
      rw [hg2 h, show (R.all fun row => if wShown = wShown then rowOk gs.length row else choiceOk a gs.length row) = true from List.all_eq_true.mpr fun r hr => by
        rw [if_pos rfl, lg]
        exact aR r hr]
      simp [lR]
end

section
variable {ns : List Int} {st : Store}
theorem r_world {sz a b c e : Nat} {rs : List D} {near : D} {wide : Bool} (H : DS ns st) (hz : lstAt st sz = some [.int (a : Nat), .int (b : Nat), .int (c : Nat), .int (e : Nat)]) (hz1 : sz ≠ 1)
    (ha : 0 < a) (ha2 : a ≤ 100) (hb : 0 < b) (hb2 : b ≤ 100) (hc2 : c ≤ 100) (he : 0 < e) (he2 : e ≤ 100) (hs : rs.length ≤ 100) :
    ∃ h st', f__law_world [.ref 1, rdd rs, near, .ref sz, .bl wide] st = .ok (Hs.d h) st' ∧ h.rs = rs ∧ h.sm ∧ (a ≤ 5 → b ≤ 60 → c ≤ 8 → e ≤ 12 → h.ok = true) ∧ DS ns st' ∧ Fr st st' := by
  obtain ⟨Z, eZ⟩ : ∃ Z : List D, Z = [.int (a : Nat), .int (b : Nat), .int (c : Nat), .int (e : Nat)] := ⟨_, rfl⟩
  rw [← eZ] at hz
  have z0 : atI Z 0 = some (.int (a : Nat)) := by rw [eZ]; simp
  have z1 : atI Z 1 = some (.int (b : Nat)) := by rw [eZ]; simp
  have z2 : atI Z 2 = some (.int (c : Nat)) := by rw [eZ]; simp
  have z3 : atI Z 3 = some (.int (e : Nat)) := by rw [eZ]; simp
  have hr : ∀ (n : Int) s, 0 ≤ n → n ≤ 100 → rg1 (.int n) s = .ok (.fix (rng 0 n)) s := fun n s h1 h2 => rg1_int (by omega)
  obtain ⟨R, eR⟩ : ∃ R, R = rdd rs := ⟨_, rfl⟩
  have iR : ∀ s, oIx R (.int 1) s = .ok (.tup rs) s := fun s => by rw [eR]; simp [rdd]
  rw [← eR]
  obtain ⟨full, s1, e1, f1, D1, F1⟩ := r_drawN (many := b) H hb (by omega)
  have hm2 : 2 ≤ s1.length := D1.len
  obtain ⟨m, em⟩ : ∃ m, m = s1.length := ⟨_, rfl⟩
  obtain ⟨τ', s4, e4, ms, ⟨t8, t9, t10, t11, rfl⟩, g4, l4, q4, D4, F4⟩ := for_inv (q := .fix (rng 0 b)) (set := gN 8) (u := (sSeq (sSet 9 (eLst aNil))
    (sSeq (sFor (iRg1 (eIf (tBl (eBin oEq (eVar 8) (eVar 6))) (eBin oIx (eVar 3) (eC (.int 2))) (eCall 2 f__law_draw (aCons (eVar 0) (aCons (eBin oAdd (eCB fMin2 (aCons (eBin oIx (eVar 3) (eC (.int 2))) (aCons (eC (.int 3)) aNil))) (eC (.int 1))) aNil))))) (gN 10) (sSeq (sSet 11 (eIf (HM.tAnd (tBl (eBin oEq (eVar 8) (eVar 6))) (tBl (eBin oEq (eVar 10) (eC (.int 0))))) (eBin oIx (eVar 3) (eC (.int 3))) (eBin oAdd (eC (.int 1)) (eCall 2 f__law_draw (aCons (eVar 0) (aCons (eCB fMin2 (aCons (eBin oIx (eVar 3) (eC (.int 3))) (aCons (eC (.int 4)) aNil))) aNil))))))
    (sExpr (eM "list" mAppend (eVar 9) (aCons (eCall 5 f__law_one_question (aCons (eVar 0) (aCons (eVar 5) (aCons (eVar 3) (aCons (eVar 11) (aCons (eVar 4) aNil)))))) aNil)))))
    (sExpr (eM "list" mAppend (eVar 7) (aCons (eCB fTuple (aCons (eVar 9) aNil)) aNil))))))
    (fun k τ s => ∃ ms : List (List Qn), (∃ t8 t9 t10 t11, τ = [some (.ref 1), some R, some near, some (.ref sz), some (.bl wide), some (.int (rs.length : Nat)), some (.int (full : Nat)), some (.ref m), t8, t9, t10, t11, none]) ∧ lstAt s m = some (ms.map qsd) ∧ ms.length = k ∧ (∀ q ∈ ms, q.length ≤ c ∧ ∀ x ∈ q, x.sm ∧ (e ≤ 12 → x.ok rs.length a b = true)) ∧ DS ns s ∧ Fr s1 s) (fun _ _ _ _ => rfl) (rng 0 b) 0
      [some (.ref 1), some R, some near, some (.ref sz), some (.bl wide), some (.int (rs.length : Nat)), some (.int (full : Nat)), some (.ref m), none, none, none, none, none] (s1 ++ [.lst []])
    ⟨[], ⟨_, _, _, _, rfl⟩, by rw [em]; exact lstAt_new, rfl, by simp, D1.app, .app⟩ (by
      intro i d τ s hi hp
      obtain ⟨ms, ⟨t8, t9, t10, t11, rfl⟩, g, lms, q, DD, F⟩ := hp
      have hi2 : i < b := by have := (List.getElem?_eq_some_iff.mp hi).1; rwa [rng_len] at this
      obtain ⟨k, hk, rfl⟩ := rng_mem hi
      refine ⟨[some (.ref 1), some R, some near, some (.ref sz), some (.bl wide), some (.int (rs.length : Nat)), some (.int (full : Nat)), some (.ref m), some (.int (k : Nat)), t9, t10, t11, none], rfl, ?_⟩
      have hrl : m < s.length := lstAt_lt g
      obtain ⟨r, er⟩ : ∃ r, r = s.length := ⟨_, rfl⟩
      have hz5 : lstAt (s ++ [.lst []]) sz = some Z := Fr.app.lst (F.lst (F1.lst hz hz1) hz1) hz1
      -- how many questions
      have hn : ∃ (n : Nat) (s5 : Store), (eIf (tBl (eBin oEq (eVar 8) (eVar 6))) (eBin oIx (eVar 3) (eC (.int 2))) (eCall 2 f__law_draw (aCons (eVar 0) (aCons (eBin oAdd (eCB fMin2 (aCons (eBin oIx (eVar 3) (eC (.int 2))) (aCons (eC (.int 3)) aNil))) (eC (.int 1))) aNil)))) [some (.ref 1), some R, some near, some (.ref sz), some (.bl wide), some (.int (rs.length : Nat)), some (.int (full : Nat)), some (.ref m), some (.int (k : Nat)), some (.ref r), t10, t11, none] (s ++ [.lst []]) = .ok (.int (n : Nat)) s5 ∧ n ≤ c ∧ DS ns s5 ∧ Fr (s ++ [.lst []]) s5 := by
        by_cases hf : k = full
        · exact ⟨c, s ++ [.lst []], by simp [hf, oIx_ref hz5, z2], Nat.le_refl _, DD.app, .refl⟩
        · have hf' : ¬ (k : Int) = full := by omega
          obtain ⟨v, s5, e5, v0, v1, D5, F5⟩ := r_drawZ (many := (if (3 : Int) < (c : Int) then (3 : Int) else (c : Int)) + 1) (DD.app (c := .lst [])) (by split <;> omega) (by split <;> omega)
          refine ⟨v.toNat, s5, ?_, ?_, D5, F5⟩
          · rw [Int.toNat_of_nonneg v0]
            simp [hf, hf', oIx_ref hz5, z2, e5]
          · split at v1 <;> omega
      obtain ⟨n, s5, e5, hnc, D5, F5⟩ := hn
      have g5 : lstAt s5 r = some [] := F5.lst (by rw [er]; exact lstAt_new) (by omega)
      obtain ⟨τ6, s6, e6, qs, ⟨t10', t11', rfl⟩, g6, l6, q6, D6, F6⟩ := for_inv (q := .fix (rng 0 n)) (set := gN 10) (u := (sSeq (sSet 11 (eIf (HM.tAnd (tBl (eBin oEq (eVar 8) (eVar 6))) (tBl (eBin oEq (eVar 10) (eC (.int 0))))) (eBin oIx (eVar 3) (eC (.int 3))) (eBin oAdd (eC (.int 1)) (eCall 2 f__law_draw (aCons (eVar 0) (aCons (eCB fMin2 (aCons (eBin oIx (eVar 3) (eC (.int 3))) (aCons (eC (.int 4)) aNil))) aNil))))))
    (sExpr (eM "list" mAppend (eVar 9) (aCons (eCall 5 f__law_one_question (aCons (eVar 0) (aCons (eVar 5) (aCons (eVar 3) (aCons (eVar 11) (aCons (eVar 4) aNil)))))) aNil)))))
        (fun k' τ s' => ∃ qs : List Qn, (∃ t10 t11, τ = [some (.ref 1), some R, some near, some (.ref sz), some (.bl wide), some (.int (rs.length : Nat)), some (.int (full : Nat)), some (.ref m), some (.int (k : Nat)), some (.ref r), t10, t11, none]) ∧ lstAt s' r = some (qs.map Qn.d) ∧ qs.length = k' ∧ (∀ x ∈ qs, x.sm ∧ (e ≤ 12 → x.ok rs.length a b = true)) ∧ DS ns s' ∧ Fr s s') (fun _ _ _ _ => rfl) (rng 0 n) 0
        [some (.ref 1), some R, some near, some (.ref sz), some (.bl wide), some (.int (rs.length : Nat)), some (.int (full : Nat)), some (.ref m), some (.int (k : Nat)), some (.ref r), t10, t11, none] s5
        ⟨[], ⟨_, _, rfl⟩, g5, rfl, by simp, D5, Fr.app.trans F5⟩ (by
          intro i d τ s' hi hp
          obtain ⟨qs, ⟨t10, t11, rfl⟩, g', lqs, q', D', F'⟩ := hp
          have hi3 : i < n := by have := (List.getElem?_eq_some_iff.mp hi).1; rwa [rng_len] at this
          obtain ⟨x, hx, rfl⟩ := rng_mem hi
          refine ⟨[some (.ref 1), some R, some near, some (.ref sz), some (.bl wide), some (.int (rs.length : Nat)), some (.int (full : Nat)), some (.ref m), some (.int (k : Nat)), some (.ref r), some (.int (x : Nat)), t11, none], rfl, ?_⟩
          have hz6 : lstAt s' sz = some Z := F'.lst (F.lst (F1.lst hz hz1) hz1) hz1
          have hmany : ∃ (y : Nat) (s7 : Store), (eIf (HM.tAnd (tBl (eBin oEq (eVar 8) (eVar 6))) (tBl (eBin oEq (eVar 10) (eC (.int 0))))) (eBin oIx (eVar 3) (eC (.int 3))) (eBin oAdd (eC (.int 1)) (eCall 2 f__law_draw (aCons (eVar 0) (aCons (eCB fMin2 (aCons (eBin oIx (eVar 3) (eC (.int 3))) (aCons (eC (.int 4)) aNil))) aNil))))) [some (.ref 1), some R, some near, some (.ref sz), some (.bl wide), some (.int (rs.length : Nat)), some (.int (full : Nat)), some (.ref m), some (.int (k : Nat)), some (.ref r), some (.int (x : Nat)), t11, none] s' = .ok (.int (y : Nat)) s7 ∧ 0 < y ∧ (y ≤ e ∨ y ≤ 4) ∧ DS ns s7 ∧ Fr s' s7 := by
            have nf : ¬ (k = full ∧ x = 0) → ∃ (y : Nat) (s7 : Store), (eBin oAdd (eC (.int 1)) (eCall 2 f__law_draw (aCons (eVar 0) (aCons (eCB fMin2 (aCons (eBin oIx (eVar 3) (eC (.int 3))) (aCons (eC (.int 4)) aNil))) aNil)))) [some (.ref 1), some R, some near, some (.ref sz), some (.bl wide), some (.int (rs.length : Nat)), some (.int (full : Nat)), some (.ref m), some (.int (k : Nat)), some (.ref r), some (.int (x : Nat)), t11, none] s' = .ok (.int (y : Nat)) s7 ∧ 0 < y ∧ (y ≤ e ∨ y ≤ 4) ∧ DS ns s7 ∧ Fr s' s7 := fun _ => by
              obtain ⟨v, s7, e7, v0, v1, D7, F7⟩ := r_drawZ (many := (if (4 : Int) < (e : Int) then (4 : Int) else (e : Int))) D' (by split <;> omega) (by split <;> omega)
              refine ⟨(1 + v).toNat, s7, ?_, by omega, by split at v1 <;> omega, D7, F7⟩
              rw [Int.toNat_of_nonneg (by omega)]
              simp [oIx_ref hz6, z3, e7]
            by_cases hf : k = full
            · by_cases hx0 : x = 0
              · exact ⟨e, s', by simp [hf, hx0, oIx_ref hz6, z3], he, .inl (Nat.le_refl _), D', .refl⟩
              · obtain ⟨y, s7, e7, r7⟩ := nf (fun h => hx0 h.2)
                refine ⟨y, s7, ?_, r7⟩
                simp [-eBin_e] at e7 ⊢
                simp [hf, hx0] at e7 ⊢
                simp [e7]
            · obtain ⟨y, s7, e7, r7⟩ := nf (fun h => hf h.1)
              have hf' : ¬ (k : Int) = full := by omega
              refine ⟨y, s7, ?_, r7⟩
              simp [-eBin_e] at e7 ⊢
              simp [hf, hf'] at e7 ⊢
              simp [e7]
          obtain ⟨y, s7, e7, y0, y1, D7, F7⟩ := hmany
          obtain ⟨qn, s8, e8, sm8, ok8, D8, F8⟩ := r_one_question (states := rs.length) (many := y) (wide := wide) D7 (F7.lst (eZ ▸ hz6) hz1) hz1 ha ha2 hb hb2 hs y0 (by omega)
          have g8 := F8.lst (F7.lst g' (by omega)) (by omega)
          have ap := mAppend_ref (x := Qn.d qn) g8 (by simp; omega)
          refine ⟨[some (.ref 1), some R, some near, some (.ref sz), some (.bl wide), some (.int (rs.length : Nat)), some (.int (full : Nat)), some (.ref m), some (.int (k : Nat)), some (.ref r), some (.int (x : Nat)), some (.int (y : Nat)), none], s8.set r (Cell.lst (qs.map Qn.d ++ [Qn.d qn])), .inl ?_, qs ++ [qn], ⟨_, _, rfl⟩, by rw [lstAt_set g8]; simp, by simp [lqs], ?_, D8.put2 (by omega) (by omega), ((F'.trans F7).trans F8).put2 (by omega)⟩
          · simp [-eIf_e, e7]
            have okr := okT_ref (F7.lst g' (by omega))
            simp [okr, e8, ap]
          · intro z hz'
            rcases List.mem_append.mp hz' with w | w
            · exact q' z w
            · rw [List.mem_singleton.mp w]
              exact ⟨sm8, fun h => ok8 (by omega)⟩)
      rw [rng_len, Nat.zero_add] at l6
      have g7 := F6.lst g (by omega)
      have ap := mAppend_ref (x := .tup (qs.map Qn.d)) g7 (by simp; omega)
      refine ⟨[some (.ref 1), some R, some near, some (.ref sz), some (.bl wide), some (.int (rs.length : Nat)), some (.int (full : Nat)), some (.ref m), some (.int (k : Nat)), some (.ref r), t10', t11', none], s6.set m (Cell.lst (ms.map qsd ++ [.tup (qs.map Qn.d)])), .inl ?_, ms ++ [qs], ⟨_, _, _, _, rfl⟩, by rw [lstAt_set g7]; simp [qsd], by simp [lms], ?_, D6.put2 (by omega) (by omega), (F.trans F6).put2 (by omega)⟩
      · have hrn : rg1 (.int (n : Nat)) s5 = .ok (.fix (rng 0 n)) s5 := hr _ _ (by omega) (by omega)
        simp [-eIf_e, ← er, sFor_e, e5, hrn, e6, okT_ref g7, fTuple_ref g6, ap]
      · intro z hz'
        rcases List.mem_append.mp hz' with w | w
        · exact q z w
        · rw [List.mem_singleton.mp w]
          exact ⟨by omega, q6⟩)
  rw [rng_len, Nat.zero_add] at l4
  have hz9 : lstAt s4 sz = some Z := F4.lst (F1.lst hz hz1) hz1
  obtain ⟨ys, s5, e5, ls, rfl, l5, a5, D5, F5⟩ := comp_gen (q := .fix (rng 0 a)) (set := gN 12) (ft := HM.tYes) (fe := (eCall 2 f__law_weight (aCons (eVar 0) (aCons (eVar 4) aNil)))) (τ := [some (.ref 1), some R, some near, some (.ref sz), some (.bl wide), some (.int (rs.length : Nat)), some (.int (full : Nat)), some (.ref m), t8, t9, t10, t11, none])
    (fun k acc s => ∃ ls : List Int, acc = ls.map D.int ∧ ls.length = k ∧ (∀ w ∈ ls, 1 ≤ w ∧ w ≤ e40) ∧ DS ns s ∧ Fr s4 s) (fun _ _ _ _ => rfl) (rng 0 a) 0 [] s4 ⟨[], rfl, rfl, by simp, D4, .refl⟩ (by
      intro i d acc s hi hp
      obtain ⟨ls, rfl, ll, al, DD, F⟩ := hp
      obtain ⟨k, hk, rfl⟩ := rng_mem hi
      obtain ⟨v, s3, e3, v0, v1, D3, F3⟩ := r_weight (b := wide) DD
      refine ⟨_, rfl, true, s, rfl, (fun h => nomatch h), fun _ => ⟨.int v, s3, by simp [e3], ls ++ [v], by simp, by simp [ll], ?_, D3, F.trans F3⟩⟩
      intro w hw
      rcases List.mem_append.mp hw with q | q
      · exact al w q
      · rw [List.mem_singleton.mp q]
        exact ⟨v0, v1⟩)
  rw [rng_len, Nat.zero_add] at l5
  have g5 := F5.lst g4 (by omega)
  refine ⟨⟨wHouse, rs, near, ls, ms⟩, s5, ?_, rfl, ⟨by simp only; omega, by simp only; omega, fun q hq => ⟨by have := (q4 q hq).1; omega, fun x hx => ((q4 q hq).2 x hx).1⟩⟩, ?_, D5, ((F1.trans F4).trans F5)⟩
  · unfold f__law_world
    rw [runB_e]
    unfold m__law_world
    have hrb : ∀ s, rg1 (.int (b : Nat)) s = .ok (.fix (rng 0 b)) s := fun s => hr _ _ (by omega) (by omega)
    have hra : ∀ s, rg1 (.int (a : Nat)) s = .ok (.fix (rng 0 a)) s := fun s => hr _ _ (by omega) (by omega)
    have la : (rng 0 (a : Nat)).length ≤ 16777216 := by rw [rng_len]; omega
    have hzA : lstAt (s1 ++ [.lst []]) sz = some Z := Fr.app.lst (F1.lst hz hz1) hz1
    simp [-sSeq_e, -eIf_e, List.replicate, iR]
    simp [-eIf_e, List.replicate, iR, oIx_ref hz, z1, e1, ← em, sFor_e, oIx_ref hzA, hrb, e4, lComp_e, lc1, wipeD, oIx_ref hz9, z0, hra, la, e5, fTuple_ref g5]
    unfold Hs.d itup
    rw [eR]
    rfl
  · intro h1 h2 h3 h4
    unfold Hs.ok
    simp only
    rw [show lotsOk ls = true from by
      unfold lotsOk
      rw [List.all_eq_true.mpr fun w hw => by rw [decide_eq_true (a5 w hw).1, decide_eq_true (a5 w hw).2]; rfl]
      simp
      omega]
    rw [show ms.all (modeOk rs.length ls.length ms.length) = true from List.all_eq_true.mpr fun q hq => by
      unfold modeOk
      rw [decide_eq_true (show q.length ≤ 8 by have := (q4 q hq).1; omega), l5, l4]
      exact List.all_eq_true.mpr fun x hx => ((q4 q hq).2 x hx).2 h4]
    simp
    omega
end

section
variable {ns : List Int} {st : Store}
theorem r_reader {n k : Nat} (H : DS ns st) (hn : 0 < n) (hn2 : n ≤ 100) (hk : 0 < k) (hk2 : k ≤ 100) : ∃ rs st', f__law_reader [.ref 1, .int (k : Nat), .int (n : Nat)] st = .ok (rdd rs) st' ∧ rs.length = n ∧ DS ns st' ∧ Fr st st' := by
  have hr : ∀ (n : Nat) s, n ≤ 100 → rg1 (.int (n : Nat)) s = .ok (.fix (rng 0 n)) s := fun n s h => rg1_int (by omega)
  have hl : ∀ n : Nat, n ≤ 100 → (rng 0 (n : Nat)).length ≤ 16777216 := fun n h => by rw [rng_len]; omega
  have rn := fun s => hr n s hn2
  have rk := fun s => hr k s hk2
  have ln := hl n hn2
  have lk := hl k hk2
  obtain ⟨ys, s1, e1, ms, rfl, lm, am, D1, F1⟩ := comp_gen (q := .fix (rng 0 n)) (set := gN 4) (ft := HM.tYes) (fe := (eEl (lComp [6] (iRg1 (eVar 1)) (gN 6) HM.tYes (eCall 2 f__law_draw (aCons (eVar 0) (aCons (eVar 2) aNil)))))) (τ := [some (.ref 1), some (.int (k : Nat)), some (.int (n : Nat)), none, none, none, none, none])
    (fun j acc s => ∃ ms : List Nat, acc = ms.map D.ref ∧ ms.length = j ∧ (∀ m ∈ ms, 2 ≤ m ∧ st.length ≤ m ∧ ∃ xs, lstAt s m = some xs ∧ xs.length = k) ∧ DS ns s ∧ Fr st s) (fun _ _ _ _ => rfl) (rng 0 n) 0 [] st ⟨[], rfl, rfl, by simp, H, .refl⟩ (by
      intro i d acc s hi hp
      obtain ⟨ms, rfl, lm, am, DD, F⟩ := hp
      obtain ⟨x, hx, rfl⟩ := rng_mem hi
      obtain ⟨ys, s3, e3, l3, D3, F3⟩ := comp_gen (q := .fix (rng 0 k)) (set := gN 6) (ft := HM.tYes) (fe := (eCall 2 f__law_draw (aCons (eVar 0) (aCons (eVar 2) aNil)))) (τ := [some (.ref 1), some (.int (k : Nat)), some (.int (n : Nat)), none, some (.int (x : Nat)), none, none, none])
        (fun j acc s' => acc.length = j ∧ DS ns s' ∧ Fr s s') (fun _ _ _ _ => rfl) (rng 0 k) 0 [] s ⟨rfl, DD, .refl⟩ (by
          intro i d acc s' hi hp
          obtain ⟨l5, D5, F5⟩ := hp
          obtain ⟨y, hy, rfl⟩ := rng_mem hi
          obtain ⟨v, s6, e6, v1, D6, F6⟩ := r_drawN (many := n) D5 hn (by omega)
          exact ⟨_, rfl, true, s', rfl, (fun h => nomatch h), fun _ => ⟨.int (v : Nat), s6, by simp [e6], by simp [l5], D6, F5.trans F6⟩⟩)
      rw [rng_len, Nat.zero_add] at l3
      refine ⟨_, rfl, true, s, rfl, (fun h => nomatch h), fun _ => ⟨.ref s3.length, s3 ++ [Cell.lst ys], ?_, ms ++ [s3.length], by simp, by simp [lm], ?_, D3.app, (F.trans F3).trans .app⟩⟩
      · simp [List.replicate, lComp_e, lc1, wipeD, rk, lk, e3]
      · intro m hm
        rcases List.mem_append.mp hm with q | q
        · obtain ⟨a, b, xs, c, d⟩ := am m q
          exact ⟨a, b, xs, Fr.app.lst (F3.lst c (by omega)) (by omega), d⟩
        · rw [List.mem_singleton.mp q]
          exact ⟨D3.len, (F.trans F3).len, ys, lstAt_new, l3⟩)
  rw [rng_len, Nat.zero_add] at lm
  have hm2 : 2 ≤ s1.length := D1.len
  obtain ⟨r, er⟩ : ∃ r, r = s1.length := ⟨_, rfl⟩
  have hr2 : ∀ m ∈ ms, m < r := fun m hm => by
    obtain ⟨_, _, xs, c, _⟩ := am m hm
    rw [er]
    exact lstAt_lt c
  obtain ⟨M, eM⟩ : ∃ M, M = ms.map D.ref := ⟨_, rfl⟩
  have lM : M.length = n := by rw [eM]; simp [lm]
  have rg2' : ∀ s, rg2 (.int 1) (.int (n : Nat)) s = .ok (.fix (rng 1 n)) s := fun s => rg2_int (by decide) (by omega)
  obtain ⟨τ', s4, e4, ⟨t4, t5, rfl⟩, g4, am4, D4, F4⟩ := for_inv (q := .fix (rng 1 n)) (set := gN 4) (u := (sSeq (sSet 5 (eCall 2 f__law_draw (aCons (eVar 0) (aCons (eVar 4) aNil))))
    (sSub (eBin oIx (eVar 3) (eVar 5)) (eCall 2 f__law_draw (aCons (eVar 0) (aCons (eVar 1) aNil))) (eVar 4))))
    (fun _ τ s => (∃ t4 t5, τ = [some (.ref 1), some (.int (k : Nat)), some (.int (n : Nat)), some (.ref r), t4, t5, none, none]) ∧ lstAt s r = some M ∧ (∀ m ∈ ms, ∃ xs, lstAt s m = some xs ∧ xs.length = k) ∧ DS ns s ∧ Fr st s) (fun _ _ _ _ => rfl) (rng 1 n) 0 [some (.ref 1), some (.int (k : Nat)), some (.int (n : Nat)), some (.ref r), none, none, none, none] (s1 ++ [.lst M])
    ⟨⟨_, _, rfl⟩, by rw [er]; exact lstAt_new, fun m hm => by
      obtain ⟨a, b, xs, c, d⟩ := am m hm
      exact ⟨xs, Fr.app.lst c (by omega), d⟩, D1.app, F1.trans .app⟩ (by
      intro i d τ s hi hp
      obtain ⟨⟨t4, t5, rfl⟩, g, am', DD, F⟩ := hp
      obtain ⟨x, hx0, hx1, rfl⟩ : ∃ x : Nat, 0 < x ∧ x < n ∧ d = .int (x : Nat) := by
        unfold rng at hi
        rw [List.getElem?_map] at hi
        cases hz : (List.range ((n : Int) - 1).toNat)[i]? with
        | none => rw [hz] at hi; cases hi
        | some y =>
          rw [hz] at hi
          have := List.mem_range.mp (List.mem_of_getElem? hz)
          refine ⟨1 + y, by omega, by omega, ?_⟩
          have := Option.some.inj hi
          rw [← this]
          congr 1
      refine ⟨[some (.ref 1), some (.int (k : Nat)), some (.int (n : Nat)), some (.ref r), some (.int (x : Nat)), t5, none, none], rfl, ?_⟩
      obtain ⟨t, s5, e5, t1, D5, F5⟩ := r_drawN (many := x) DD hx0 (by omega)
      obtain ⟨j, s6, e6, j1, D6, F6⟩ := r_drawN (many := k) D5 hk (by omega)
      have ht : t < ms.length := by omega
      have hmt : ms[t] ∈ ms := List.getElem_mem ht
      have ix : atI M (t : Nat) = some (.ref ms[t]) := by
        have := atI_of (xs := M) (j := t) (by omega)
        rw [this]
        simp [eM]
      obtain ⟨xs, gx, lx⟩ := am' _ hmt
      obtain ⟨p1, p2, _⟩ := am _ hmt
      have p3 := hr2 _ hmt
      have g5 := F5.lst g (by omega)
      have gx6 := F6.lst (F5.lst gx (by omega)) (by omega)
      have o := oSet_ref (v := .int (x : Nat)) gx6 (ixN_of (j := j) (by omega))
      refine ⟨[some (.ref 1), some (.int (k : Nat)), some (.int (n : Nat)), some (.ref r), some (.int (x : Nat)), some (.int (t : Nat)), none, none], s6.set ms[t] (Cell.lst (xs.set j (.int (x : Nat)))), .inl ?_, ⟨_, _, rfl⟩, ?_, ?_, D6.put2 (by omega) (by omega), ((F.trans F5).trans F6).put2 p2⟩
      · simp [-oSet, e5, oIx_ref g5, ix, e6, o]
      · rw [lstAt_ne (by omega)]
        exact F6.lst g5 (by omega)
      · intro m hm
        by_cases hme : m = ms[t]
        · rw [hme]
          exact ⟨_, lstAt_set gx6, by simp [lx]⟩
        · obtain ⟨ys, gy, ly⟩ := am' m hm
          obtain ⟨q1, _, _⟩ := am m hm
          exact ⟨ys, by rw [lstAt_ne hme]; exact F6.lst (F5.lst gy (by omega)) (by omega), ly⟩)
  have dr : dSq s4 (.ref r) = some (.cell r M) := dSq_ref g4
  obtain ⟨ys, s5, e5, rfl, l5⟩ := comp_gen (q := .cell r M) (set := gN 7) (ft := HM.tYes) (fe := (eCB fTuple (aCons (eVar 7) aNil))) (τ := [some (.ref 1), some (.int (k : Nat)), some (.int (n : Nat)), some (.ref r), t4, t5, none, none])
    (fun j acc s' => s' = s4 ∧ acc.length = j) (fun _ _ _ h => by rw [h.1]; simp [Sq.chk, g4]) M 0 [] s4 ⟨rfl, rfl⟩ (by
      intro i d acc s' hi hp
      obtain ⟨rfl, l5⟩ := hp
      obtain ⟨m, hm, rfl⟩ := map_mem (eM ▸ hi)
      obtain ⟨xs, gx, lx⟩ := am4 m hm
      exact ⟨_, rfl, true, _, rfl, (fun h => nomatch h), fun _ => ⟨.tup xs, _, by simp [fTuple_ref gx], rfl, by simp [l5]⟩⟩)
  refine ⟨ys, s5, ?_, by omega, D4, F4⟩
  have lM2 : M.length ≤ 16777216 := by omega
  unfold f__law_reader
  rw [runB_e]
  unfold m__law_reader
  rw [← eM] at e1
  simp [List.replicate, lComp_e, lc1, wipeD, rn, ln, e1, ← er, sFor_e, rg2', e4, dr, lM2, e5]
  rfl
end

section
variable {ns : List Int} {st : Store}
theorem dCut_tup {xs : List D} {lo hi : Option Int} : dCut (.tup xs) lo hi st = .ok (.tup (cutD xs lo hi)) st := rfl
theorem cut_suc {α : Type} {zs : List α} {b : Nat} : cutD zs (some ((b : Int) + 1)) none = zs.drop (b + 1) := cutD_from (a := b + 1)
theorem r_put {α : Type} (g : α → D) {xs : List α} {i : Nat} {a : α} (hi : i < xs.length) (hl : xs.length ≤ 1000) : ∃ ys : List α, f__law_put [.tup (xs.map g), .int (i : Nat), g a] st = .ok (.tup (ys.map g)) st ∧ ys.length ≤ xs.length ∧ ∀ y ∈ ys, y ∈ xs ∨ y = a := by
  refine ⟨xs.take i ++ [a] ++ xs.drop (i + 1), ?_, by simp; omega, ?_⟩
  · obtain ⟨X, eX⟩ : ∃ X, X = xs.map g := ⟨_, rfl⟩
    have lX : X.length = xs.length := by rw [eX]; simp
    have e : (xs.take i ++ [a] ++ xs.drop (i + 1)).map g = X.take i ++ g a :: X.drop (i + 1) := by rw [eX]; simp
    rw [← eX, e]
    unfold f__law_put
    rw [runB_e]
    unfold m__law_put
    have l1 : (X.take i).length + 1 ≤ 16777216 := by simp; omega
    have l2 : (X.take i).length + 1 + (X.drop (i + 1)).length ≤ 16777216 := by simp; omega
    have l3 : min i X.length + 1 ≤ 16777216 := by omega
    have l4 : min i X.length + 1 + (X.length - (i + 1)) ≤ 16777216 := by omega
    simp [dCut_tup, cutD_to, cut_suc, l3, l4]
  · intro y hy
    rcases List.mem_append.mp hy with q | q
    · rcases List.mem_append.mp q with q | q
      · exact .inl (List.mem_of_mem_take q)
      · exact .inr (List.mem_singleton.mp q)
    · exact .inl (List.mem_of_mem_drop q)
theorem r_longer {α : Type} (g : α → D) {xs : List α} {a : α} (H : DS ns st) (hl : xs.length ≤ 999) : ∃ (ys : List α) (st' : Store), f__law_longer [.ref 1, .tup (xs.map g), g a] st = .ok (.tup (ys.map g)) st' ∧ ys.length ≤ xs.length + 1 ∧ (∀ y ∈ ys, y ∈ xs ∨ y = a) ∧ DS ns st' ∧ Fr st st' := by
  obtain ⟨X, eX⟩ : ∃ X, X = xs.map g := ⟨_, rfl⟩
  have lX : X.length = xs.length := by rw [eX]; simp
  have more : ∀ s, (eBin oAdd (eVar 1) (eTup (aCons (eVar 2) aNil))) [some (.ref 1), some (.tup X), some (g a), none] s = .ok (.tup ((xs ++ [a]).map g)) s := fun s => by
    have l3 : X.length + 1 ≤ 16777216 := by omega
    simp [l3]
    rw [eX]
  have mem1 : ∀ y ∈ xs ++ [a], y ∈ xs ∨ y = a := fun y hy => by simpa using hy
  rw [← eX]
  unfold f__law_longer
  rw [runB_e]
  unfold m__law_longer
  by_cases h0 : 0 < xs.length
  · have hX : X ≠ [] := fun h => by rw [h] at lX; simp at lX; omega
    obtain ⟨v, s1, e1, v0, v1, D1, F1⟩ := r_draw (many := 2) H (by decide) (by decide)
    by_cases hv : v = 1
    · obtain ⟨i, s2, e2, i1, D2, F2⟩ := r_drawN (many := X.length) D1 (by omega) (by omega)
      refine ⟨xs.take i ++ xs.drop (i + 1), s2, ?_, by simp; omega, ?_, D2, F1.trans F2⟩
      · have l4 : min i X.length + (X.length - (i + 1)) ≤ 16777216 := by omega
        have e : (xs.take i ++ xs.drop (i + 1)).map g = X.take i ++ X.drop (i + 1) := by rw [eX]; simp
        rw [e]
        simp [List.replicate, hX, oGt, e1, hv, e2, dCut_tup, cutD_to, cut_suc, l4]
      · intro y hy
        rcases List.mem_append.mp hy with q | q
        · exact .inl (List.mem_of_mem_take q)
        · exact .inl (List.mem_of_mem_drop q)
    · refine ⟨xs ++ [a], s1, ?_, by simp, mem1, D1, F1⟩
      have := more s1
      simp [-eBin_e] at this
      simp [List.replicate, hX, oGt, e1, hv]
      simp at this
      simp [this, hX]
  · have hX : X = [] := List.length_eq_zero_iff.mp (by omega)
    refine ⟨xs ++ [a], st, ?_, by simp, mem1, H, .refl⟩
    have := more st
    simp [List.replicate, hX, oGt]
    simp [hX] at this
    simp [this]
theorem okMul_bits {k l : Nat} {i j : Int} (h1 : i.natAbs < 2 ^ k) (h2 : j.natAbs < 2 ^ l) (h : k + l ≤ 900000) : okMul i j = true := by
  have a := log2_le h1
  have b := log2_le h2
  exact decide_eq_true (.inr (by omega))
theorem pw49 : okPow 10 49 = true := by decide
theorem r_odd {lim : Int} (H : DS ns st) : ∃ v st', f__law_odd_number [.ref 1, .int lim] st = .ok (.int v) st' ∧ DS ns st' ∧ Fr st st' := by
  obtain ⟨A, eA⟩ : ∃ A : List Int, A = [-1, lim, lim + 1, e40, e40 + 1, -e40, 0] := ⟨_, rfl⟩
  have lA : A.length = 7 := by rw [eA]; rfl
  have lA2 : A.length ≤ 16777216 := by omega
  have hm := H.len
  obtain ⟨x, s1, e1, x0, x1, D1, F1⟩ := r_draw (st := st ++ [.lst (A.map D.int)]) (many := 8) H.app (by decide) (by decide)
  have g1 := F1.lst (lstAt_new (a := st) (xs := A.map D.int)) (by omega)
  have ea : [HM.D.int (-1), .int lim, .int (lim + 1), .int 10000000000000000000000000000000000000000, .int 10000000000000000000000000000000000000001, .int (-10000000000000000000000000000000000000000), .int 0] = A.map D.int := by rw [eA]; rfl
  unfold f__law_odd_number
  rw [runB_e]
  unfold m__law_odd_number
  by_cases hx : x = 5
  · obtain ⟨P, eP⟩ : ∃ P : Int, P = 10 ^ 49 := ⟨_, rfl⟩
    have hP : P.natAbs < 2 ^ 163 := by rw [eP]; decide +kernel
    obtain ⟨τ', s4, e4, y, ⟨t, rfl⟩, hy, hs4⟩ := for_inv (q := .fix (rng 0 40)) (set := gN 4) (u := (sSet 3 (eBin oMul (eVar 3) (eBin oPow (eC (.int 10)) (eC (.int 49))))))
      (fun k τ s => ∃ y : Int, (∃ t, τ = [some (.ref 1), some (.int lim), some (.ref st.length), some (.int y), t]) ∧ y.natAbs < 2 ^ (163 * k + 1) ∧ s = s1) (fun _ _ _ _ => rfl) (rng 0 40) 0 [some (.ref 1), some (.int lim), some (.ref st.length), some (.int 1), none] s1
      ⟨1, ⟨none, rfl⟩, by decide, rfl⟩ (by
        intro i d τ s hi hp
        obtain ⟨y, ⟨t, rfl⟩, hy, rfl⟩ := hp
        have hi2 : i < 40 := by have := (List.getElem?_eq_some_iff.mp hi).1; simpa [rng] using this
        have o : okMul y P = true := okMul_bits hy hP (by omega)
        refine ⟨[some (.ref 1), some (.int lim), some (.ref st.length), some (.int y), some d], rfl, [some (.ref 1), some (.int lim), some (.ref st.length), some (.int (y * P)), some d], s, .inl ?_, y * P, ⟨_, rfl⟩, ?_, rfl⟩
        · have pe : (10 : Int) ^ 49 = P := eP.symm
          simp [pw49, pe, o]
        · rw [Int.natAbs_mul, show 163 * (0 + i + 1) + 1 = (163 * (0 + i) + 1) + 163 by omega, Nat.pow_add]
          exact Nat.mul_lt_mul'' hy hP)
    rw [hs4] at e4
    have l40 : (rng 0 40).length = 40 := rng_len (n := 40)
    rw [l40] at hy
    obtain ⟨P2, eP2⟩ : ∃ P : Int, P = 10 ^ 39 := ⟨_, rfl⟩
    have hP2 : P2.natAbs < 2 ^ 163 := by rw [eP2]; decide +kernel
    have o : okMul y P2 = true := okMul_bits hy hP2 (by omega)
    have r40 : rg1 (.int 40) s1 = .ok (.fix (rng 0 40)) s1 := rg1_int (by decide)
    refine ⟨y * P2, s1, ?_, D1, Fr.app.trans F1⟩
    have pe : (10 : Int) ^ 39 = P2 := eP2.symm
    simp [List.replicate, pw40, ea, lA2, hx, e1, sFor_e, r40, e4, pw39, pe, o]
  · obtain ⟨v, s2, e2, hv, D2, F2⟩ := r_pick (xs := A.map D.int) D1 g1 (by omega) (by simp [lA]) (by simp [lA])
    obtain ⟨w, _, rfl⟩ := List.mem_map.mp hv
    refine ⟨w, s2, ?_, D2, Fr.app.trans (F1.trans F2)⟩
    simp [List.replicate, pw40, ea, lA2, hx, e1, e2]
end

section
variable {ns : List Int} {st : Store}
structure Qn.fit (q : Qn) : Prop where
  g : 0 < q.goes.length ∧ q.goes.length ≤ 100
  r : 0 < q.rows.length ∧ q.rows.length ≤ 100
  rr : ∀ r ∈ q.rows, 0 < r.length ∧ r.length ≤ 100
theorem r_changed_rows {q : Qn} {lim : Int} (H : DS ns st) (Z : q.fit) : ∃ q' st', f__law_changed_rows [.ref 1, q.d, .int lim] st = .ok (Qn.d q') st' ∧ q'.sm ∧ DS ns st' ∧ Fr st st' := by
  obtain ⟨w, rows, goes⟩ := q
  obtain ⟨⟨zg0, zg⟩, ⟨zr0, zr⟩, zrr⟩ := Z
  simp only at zg0 zg zr0 zr zrr
  obtain ⟨sty, s1, e1, v0, v1, D1, F1⟩ := r_draw (many := 5) H (by decide) (by decide)
  obtain ⟨i, s2, e2, i1, D2, F2⟩ := r_drawN (many := rows.length) D1 (by omega) (by omega)
  obtain ⟨W, eW⟩ : ∃ W, W = D.str w := ⟨_, rfl⟩
  obtain ⟨G, eG⟩ : ∃ G, G = D.tup (goes.map ipd) := ⟨_, rfl⟩
  obtain ⟨R, eR⟩ : ∃ R, R = D.tup (rows.map itup) := ⟨_, rfl⟩
  have lR : ∀ s, fLen [R] s = .ok (.int rows.length) s := fun s => by rw [eR]; simp
  have a1 : ∀ Q, Q = Qn.d ⟨w, rows, goes⟩ → ofA (gT 3 (gCs 3 (gCs 4 (gCs 5 gNil0)))) [some (.ref 1), some Q, some (.int lim), none, none, none, none, none, none, none] Q st = .nx [some (.ref 1), some Q, some (.int lim), some W, some R, some G, none, none, none, none] st := fun Q hQ => by rw [hQ, eW, eG, eR]; rfl
  obtain ⟨Q, eQ⟩ : ∃ Q, Q = Qn.d ⟨w, rows, goes⟩ := ⟨_, rfl⟩
  have a1 := a1 Q eQ
  have hq : ∀ rows', Qn.d ⟨w, rows', goes⟩ = .tup [W, .tup (rows'.map itup), G] := fun r => by rw [eW, eG]; rfl
  have ri : ∀ s, oIx R (.int (i : Nat)) s = .ok (itup rows[i]) s := fun s => by
    have := atI_of (xs := rows.map itup) (j := i) (by simpa using i1)
    rw [eR]
    simp [this]
  have hm : rows[i] ∈ rows := List.getElem_mem _
  obtain ⟨r, er⟩ : ∃ r, r = rows[i] := ⟨_, rfl⟩
  rw [← er] at ri hm
  obtain ⟨r0, r1⟩ := zrr r hm
  have sm : ∀ rows' : List (List Int), rows'.length ≤ rows.length + 1 → (∀ y ∈ rows', y ∈ rows ∨ y.length ≤ 101) → Qn.sm ⟨w, rows', goes⟩ := fun rows' h1 h2 => ⟨by simp only; omega, by simp only; omega, fun y hy => by
    rcases h2 y hy with q | q
    · have := zrr y q; omega
    · omega⟩
  rw [← eQ]
  unfold f__law_changed_rows
  rw [runB_e]
  unfold m__law_changed_rows
  by_cases c0 : sty = 0
  · obtain ⟨rows', s3, e3, l3, m3, D3, F3⟩ := r_longer itup (xs := rows) (a := r) D2 (by omega)
    rw [← eR] at e3
    refine ⟨⟨w, rows', goes⟩, s3, ?_, sm rows' l3 (fun y hy => (m3 y hy).imp id fun h => by rw [h]; omega), D3, (F1.trans F2).trans F3⟩
    rw [hq]
    simp [List.replicate, a1, e1, lR, e2, c0, ri, e3]
  by_cases c1 : sty = 1
  · obtain ⟨rows', e3, l3, m3⟩ := r_put (st := s2) itup (xs := rows) (i := i) (a := r.map fun _ => (0 : Int)) i1 (by omega)
    rw [← eR] at e3
    have k := comp_map (q := .fix (r.map D.int)) (set := gN 9) (fe := eC (.int 0)) (τ := [some (.ref 1), some Q, some (.int lim), some W, some R, some G, some (.int sty), some (.int (i : Nat)), some (itup r), none]) (st := s2) rfl D.int (fun _ => .int 0) r [] (fun a _ => ⟨[some (.ref 1), some Q, some (.int lim), some W, some R, some G, some (.int sty), some (.int (i : Nat)), some (itup r), some (.int a)], rfl, rfl⟩)
    rw [List.nil_append] at k
    have ez : (.tup (r.map fun _ => D.int 0) : D) = itup (r.map fun _ => (0 : Int)) := by unfold itup; rw [List.map_map]; rfl
    obtain ⟨X, eX⟩ : ∃ X, X = r.map fun _ => D.int 0 := ⟨_, rfl⟩
    rw [← eX] at k ez
    have lr : r.length ≤ 16777216 := by omega
    rw [c1] at k
    refine ⟨⟨w, rows', goes⟩, s2, ?_, sm rows' (by omega) (fun y hy => (m3 y hy).imp id fun h => by rw [h]; simp; omega), D2, F1.trans F2⟩
    rw [hq]
    simp [List.replicate, a1, e1, lR, e2, c1, ri, lComp_e, lc1, wipeD, dq_itup, lr, k, ez, e3]
  by_cases c2 : sty = 2
  · obtain ⟨r', s3, e3, l3, m3, D3, F3⟩ := r_longer D.int (xs := r) (a := 0) D2 (by omega)
    have e3 : f__law_longer [.ref 1, itup r, .int 0] s2 = .ok (itup r') s3 := e3
    obtain ⟨rows', e4, l4, m4⟩ := r_put (st := s3) itup (xs := rows) (i := i) (a := r') i1 (by omega)
    rw [← eR] at e4
    refine ⟨⟨w, rows', goes⟩, s3, ?_, sm rows' (by omega) (fun y hy => (m4 y hy).imp id fun h => by rw [h]; omega), D3, (F1.trans F2).trans F3⟩
    rw [hq]
    simp [List.replicate, a1, e1, lR, e2, c2, ri, e3, e4]
  · obtain ⟨j, s3, e3, j1, D3, F3⟩ := r_drawN (many := r.length) D2 (by omega) (by omega)
    obtain ⟨v, s4, e4, D4, F4⟩ := r_odd (lim := lim) D3
    obtain ⟨r', e5, l5, m5⟩ := r_put (st := s4) D.int (xs := r) (i := j) (a := v) j1 (by omega)
    have e5 : f__law_put [itup r, .int (j : Nat), .int v] s4 = .ok (itup r') s4 := e5
    obtain ⟨rows', e6, l6, m6⟩ := r_put (st := s4) itup (xs := rows) (i := i) (a := r') i1 (by omega)
    rw [← eR] at e6
    refine ⟨⟨w, rows', goes⟩, s4, ?_, sm rows' (by omega) (fun y hy => (m6 y hy).imp id fun h => by rw [h]; omega), D4, ((F1.trans F2).trans F3).trans F4⟩
    rw [hq]
    simp [List.replicate, a1, e1, lR, e2, c0, c1, c2, ri, ln_itup, e3, e4, e5, e6]
theorem r_changed_goes {q : Qn} {md : Nat} (H : DS ns st) (Z : q.fit) : ∃ q' st', f__law_changed_goes [.ref 1, q.d, .int (md : Nat)] st = .ok (Qn.d q') st' ∧ q'.sm ∧ DS ns st' ∧ Fr st st' := by
  obtain ⟨w, rows, goes⟩ := q
  obtain ⟨⟨zg0, zg⟩, ⟨zr0, zr⟩, zrr⟩ := Z
  simp only at zg0 zg zr0 zr zrr
  obtain ⟨sty, s1, e1, v0, v1, D1, F1⟩ := r_draw (many := 5) H (by decide) (by decide)
  obtain ⟨i, s2, e2, i1, D2, F2⟩ := r_drawN (many := goes.length) D1 (by omega) (by omega)
  obtain ⟨W, eW⟩ : ∃ W, W = D.str w := ⟨_, rfl⟩
  obtain ⟨G, eG⟩ : ∃ G, G = D.tup (goes.map ipd) := ⟨_, rfl⟩
  obtain ⟨R, eR⟩ : ∃ R, R = D.tup (rows.map itup) := ⟨_, rfl⟩
  have lG : ∀ s, fLen [G] s = .ok (.int goes.length) s := fun s => by rw [eG]; simp
  have dR : ∀ s, dSq s R = some (.fix (rows.map itup)) := fun s => by rw [eR]; rfl
  obtain ⟨Q, eQ⟩ : ∃ Q, Q = Qn.d ⟨w, rows, goes⟩ := ⟨_, rfl⟩
  have a1 : ofA (gT 3 (gCs 3 (gCs 4 (gCs 5 gNil0)))) [some (.ref 1), some Q, some (.int (md : Nat)), none, none, none, none, none, none] Q st = .nx [some (.ref 1), some Q, some (.int (md : Nat)), some W, some R, some G, none, none, none] st := by rw [eQ, eW, eG, eR]; rfl
  have hq : ∀ goes', Qn.d ⟨w, rows, goes'⟩ = .tup [W, R, .tup (goes'.map ipd)] := fun r => by rw [eW, eR]; rfl
  have gi : ∀ s, oIx G (.int (i : Nat)) s = .ok (ipd goes[i]) s := fun s => by
    have := atI_of (xs := goes.map ipd) (j := i) (by simpa using i1)
    rw [eG]
    simp [this]
  obtain ⟨p, ep⟩ : ∃ p, p = goes[i] := ⟨_, rfl⟩
  rw [← ep] at gi
  have sm : ∀ goes' : List (Int × Int), goes'.length ≤ goes.length + 1 → Qn.sm ⟨w, rows, goes'⟩ := fun goes' h1 => ⟨by simp only; omega, by simp only; omega, fun y hy => by have := zrr y hy; omega⟩
  rw [← eQ]
  unfold f__law_changed_goes
  rw [runB_e]
  unfold m__law_changed_goes
  by_cases c0 : sty = 0
  · obtain ⟨goes', s3, e3, l3, m3, D3, F3⟩ := r_longer ipd (xs := goes) (a := p) D2 (by omega)
    rw [← eG] at e3
    refine ⟨⟨w, rows, goes'⟩, s3, ?_, sm goes' l3, D3, (F1.trans F2).trans F3⟩
    rw [hq]
    simp [List.replicate, a1, e1, lG, e2, c0, gi, e3]
  by_cases c1 : sty = 1
  · have k := comp_map (q := .fix (rows.map itup)) (set := gN 8) (fe := eTup aNil) (τ := [some (.ref 1), some Q, some (.int (md : Nat)), some W, some R, some G, some (.int sty), some (.int (i : Nat)), none]) (st := s2) rfl itup (fun _ => .tup []) rows [] (fun a _ => ⟨[some (.ref 1), some Q, some (.int (md : Nat)), some W, some R, some G, some (.int sty), some (.int (i : Nat)), some (itup a)], rfl, rfl⟩)
    rw [List.nil_append] at k
    have ez : (rows.map fun _ => D.tup []) = (rows.map fun _ => ([] : List Int)).map itup := by rw [List.map_map]; rfl
    obtain ⟨X, eX⟩ : ∃ X, X = rows.map fun _ => D.tup [] := ⟨_, rfl⟩
    rw [← eX] at k ez
    have lr : rows.length ≤ 16777216 := by omega
    rw [c1] at k
    obtain ⟨RE, eRE⟩ : ∃ RE : List (List Int), RE = rows.map fun _ => [] := ⟨_, rfl⟩
    have lRE : RE.length = rows.length := by rw [eRE]; simp
    have mRE : ∀ y ∈ RE, y.length ≤ 1000 := fun y hy => by
      rw [eRE] at hy
      obtain ⟨_, _, rfl⟩ := List.mem_map.mp hy
      simp
    rw [← eRE] at ez
    refine ⟨⟨wShown, RE, []⟩, s2, ?_, ⟨by simp, by simp only; omega, mRE⟩, D2, F1.trans F2⟩
    simp [List.replicate, a1, e1, lG, e2, c1, lComp_e, lc1, wipeD, dR, lr, k, ez]
    rfl
  by_cases c2 : sty = 2
  · obtain ⟨v, s3, e3, hv, D3, F3⟩ := r_pick (st := s2 ++ [.lst [.int 0, .int 1, .int 2, .int (-1)]]) (m := s2.length) D2.app lstAt_new (by have := D2.len; omega) (by decide) (by decide)
    obtain ⟨x, rfl⟩ : ∃ x : Int, v = .int x := by
      simp only [List.mem_cons, List.not_mem_nil, or_false] at hv
      rcases hv with rfl | rfl | rfl | rfl <;> exact ⟨_, rfl⟩
    obtain ⟨goes', e4, l4, m4⟩ := r_put (st := s3) ipd (xs := goes) (i := i) (a := (p.1, x)) i1 (by omega)
    rw [← eG] at e4
    have e4 : f__law_put [G, .int (i : Nat), .tup [.int p.1, .int x]] s3 = .ok (.tup (goes'.map ipd)) s3 := e4
    have p0 : ∀ s, oIx (ipd p) (.int 0) s = .ok (.int p.1) s := fun s => by simp [ipd]
    refine ⟨⟨w, rows, goes'⟩, s3, ?_, sm goes' (by omega), D3, (F1.trans F2).trans (Fr.app.trans F3)⟩
    rw [hq]
    simp [List.replicate, a1, e1, lG, e2, c2, gi, p0, e3, e4]
  · obtain ⟨v, s4, e3, D4, F4⟩ := r_odd (lim := (md : Nat)) D2
    obtain ⟨goes', e4, l4, m4⟩ := r_put (st := s4) ipd (xs := goes) (i := i) (a := (v, p.2)) i1 (by omega)
    rw [← eG] at e4
    have e4 : f__law_put [G, .int (i : Nat), .tup [.int v, .int p.2]] s4 = .ok (.tup (goes'.map ipd)) s4 := e4
    have p0 : ∀ s, oIx (ipd p) (.int 1) s = .ok (.int p.2) s := fun s => by simp [ipd]
    refine ⟨⟨w, rows, goes'⟩, s4, ?_, sm goes' (by omega), D4, (F1.trans F2).trans F4⟩
    rw [hq]
    simp [List.replicate, a1, e1, lG, e2, c0, c1, c2, gi, p0, e3, e4]
end

section
variable {ns : List Int} {st : Store}
structure Hs.fit (h : Hs) : Prop where
  l : 0 < h.lots.length ∧ h.lots.length ≤ 100
  m : h.modes.length ≤ 100
  q : ∀ m ∈ h.modes, m.length ≤ 100 ∧ ∀ q ∈ m, q.fit ∧ q.sm
theorem Hs.fit.sm {h : Hs} (Z : h.fit) : h.sm := ⟨by have := Z.l; omega, by have := Z.m; omega, fun m hm => ⟨by have := (Z.q m hm).1; omega, fun q hq => ((Z.q m hm).2 q hq).2⟩⟩
theorem Hs.fit_of {h : Hs} (Z : h.sm) (ok : h.ok = true) (hs : 0 < h.rs.length) (hs2 : h.rs.length ≤ 100) : h.fit := by
  unfold Hs.ok lotsOk at ok
  simp only [Bool.and_eq_true, decide_eq_true_eq, List.all_eq_true] at ok
  obtain ⟨⟨⟨_, ⟨l1, l2⟩, _⟩, m1, m2⟩, ha⟩ := ok
  refine ⟨⟨by omega, by omega⟩, by omega, fun m hm => ?_⟩
  have := ha m hm
  unfold modeOk at this
  simp only [Bool.and_eq_true, decide_eq_true_eq, List.all_eq_true] at this
  refine ⟨by omega, fun q hq => ⟨?_, (Z.q m hm).2 q hq⟩⟩
  have := this.2 q hq
  unfold Qn.ok goesOk at this
  simp only [Bool.and_eq_true, decide_eq_true_eq, List.all_eq_true] at this
  obtain ⟨⟨⟨_, ⟨g1, g2⟩, _⟩, r1⟩, hr⟩ := this
  refine ⟨⟨by omega, by omega⟩, ⟨by omega, by omega⟩, fun r hr' => ?_⟩
  have := hr r hr'
  split at this
  · unfold rowOk at this
    simp only [Bool.and_eq_true, decide_eq_true_eq] at this
    omega
  · unfold choiceOk at this
    simp only [Bool.and_eq_true, decide_eq_true_eq] at this
    omega
theorem ix_house {h : Hs} {s : Store} : oIx h.d (.int 4) s = .ok (.tup (h.modes.map qsd)) s := by
  unfold Hs.d
  rw [oIx_tup]
  rfl
theorem ix_house3 {h : Hs} {s : Store} : oIx h.d (.int 3) s = .ok (itup h.lots) s := by
  unfold Hs.d
  rw [oIx_tup]
  rfl
theorem ix_modes {ms : List (List Qn)} {i : Nat} {m : List Qn} (h : ms[i]? = some m) {s : Store} : oIx (.tup (ms.map qsd)) (.int (i : Nat)) s = .ok (qsd m) s := by
  rw [oIx_tup]
  have : atI (ms.map qsd) (i : Nat) = some (qsd m) := atI_nat (by rw [List.getElem?_map, h]; rfl)
  rw [this]
  rfl
theorem ix_asks {m : List Qn} {i : Nat} {q : Qn} (h : m[i]? = some q) {s : Store} : oIx (qsd m) (.int (i : Nat)) s = .ok q.d s := by
  unfold qsd
  rw [oIx_tup]
  have : atI (m.map Qn.d) (i : Nat) = some q.d := atI_nat (by rw [List.getElem?_map, h]; rfl)
  rw [this]
  rfl
theorem r_changed_question {h : Hs} {i j : Nat} {m : List Qn} {q : Qn} (H : DS ns st) (hm : h.modes[i]? = some m) (hq : m[j]? = some q) (Z : q.fit) (S : q.sm) :
    ∃ q' st', f__law_changed_question [.ref 1, h.d, .int (i : Nat), .int (j : Nat)] st = .ok (Qn.d q') st' ∧ q'.sm ∧ DS ns st' ∧ Fr st st' := by
  obtain ⟨sty, s1, e1, v0, v1, D1, F1⟩ := r_draw (many := 5) H (by decide) (by decide)
  have i1 := fun s => ix_house (h := h) (s := s)
  have i2 := fun s => ix_modes (s := s) hm
  have i3 := fun s => ix_asks (s := s) hq
  obtain ⟨X, eX⟩ : ∃ X, X = h.d := ⟨_, rfl⟩
  obtain ⟨M, eM⟩ : ∃ M, M = D.tup (h.modes.map qsd) := ⟨_, rfl⟩
  have lM : ∀ s, fLen [M] s = .ok (.int h.modes.length) s := fun s => by rw [eM]; simp
  rw [← eX, ← eM] at i1
  rw [← eM] at i2
  rw [← eX]
  obtain ⟨w, rows, goes⟩ := q
  obtain ⟨Q, eQ⟩ : ∃ Q, Q = Qn.d ⟨w, rows, goes⟩ := ⟨_, rfl⟩
  obtain ⟨G, eG⟩ : ∃ G, G = D.tup (goes.map ipd) := ⟨_, rfl⟩
  obtain ⟨R, eR⟩ : ∃ R, R = D.tup (rows.map itup) := ⟨_, rfl⟩
  have q0 : ∀ s, oIx Q (.int 0) s = .ok (.str w) s := fun s => by rw [eQ]; simp [Qn.d]
  have q1 : ∀ s, oIx Q (.int 1) s = .ok R s := fun s => by rw [eQ, eR]; simp [Qn.d]
  have q2 : ∀ s, oIx Q (.int 2) s = .ok G s := fun s => by rw [eQ, eG]; simp [Qn.d]
  have lG : ∀ s, fLen [G] s = .ok (.int goes.length) s := fun s => by rw [eG]; simp
  rw [← eQ] at i3
  unfold f__law_changed_question
  rw [runB_e]
  unfold m__law_changed_question
  by_cases c0 : sty = 0
  · obtain ⟨WS, eWS⟩ : ∃ WS : List (List Nat), WS = [[115, 104, 111, 119, 110], [100, 114, 97, 119, 110], [116, 111, 108, 100], [], [83, 104, 111, 119, 110], [100, 114, 97, 119, 110, 32]] := ⟨_, rfl⟩
    have ew : [D.str [115, 104, 111, 119, 110], .str [100, 114, 97, 119, 110], .str [116, 111, 108, 100], .str [], .str [83, 104, 111, 119, 110], .str [100, 114, 97, 119, 110, 32]] = WS.map D.str := by rw [eWS]; rfl
    have lW : WS.length = 6 := by rw [eWS]; rfl
    have lW2 : WS.length ≤ 16777216 := by omega
    obtain ⟨v, s3, e3, hv, D3, F3⟩ := r_pick (st := s1 ++ [.lst (WS.map D.str)]) (m := s1.length) D1.app lstAt_new (by have := D1.len; omega) (by simp [lW]) (by simp [lW])
    obtain ⟨x, _, rfl⟩ := List.mem_map.mp hv
    refine ⟨⟨x, rows, goes⟩, s3, ?_, ⟨S.g, S.r, S.rr⟩, D3, F1.trans (Fr.app.trans F3)⟩
    simp [List.replicate, i1, i2, i3, e1, c0, ew, lW2, e3, q1, q2]
    rw [eR, eG]
    rfl
  by_cases c1 : sty < 3
  · by_cases cw : w = wDrawn
    · obtain ⟨q', s3, e3, S3, D3, F3⟩ := r_changed_rows (lim := (goes.length : Nat)) D1 Z
      rw [← eQ] at e3
      refine ⟨q', s3, ?_, S3, D3, F1.trans F3⟩
      have t1 : ∀ s, oEq (.str w) (.str [100, 114, 97, 119, 110]) s = .ok (.bl true) s := fun s => by rw [cw]; simp [wDrawn]
      simp [-oEq_str, List.replicate, i1, i2, i3, e1, c0, c1, q0, t1, q2, lG, e3]
    · obtain ⟨q', s3, e3, S3, D3, F3⟩ := r_changed_rows (lim := e40) D1 Z
      rw [← eQ] at e3
      refine ⟨q', s3, ?_, S3, D3, F1.trans F3⟩
      have t1 : ∀ s, oEq (.str w) (.str [100, 114, 97, 119, 110]) s = .ok (.bl false) s := fun s => by
        have : ¬ w = [100, 114, 97, 119, 110] := cw
        simp [this]
      unfold e40 at e3
      simp [-oEq_str, List.replicate, i1, i2, i3, e1, c0, c1, q0, t1, pw40, e3]
  · obtain ⟨q', s3, e3, S3, D3, F3⟩ := r_changed_goes (md := h.modes.length) D1 Z
    rw [← eQ] at e3
    refine ⟨q', s3, ?_, S3, D3, F1.trans F3⟩
    simp [List.replicate, i1, i2, i3, e1, c0, c1, lM, e3]
def pnd (p : Nat × Nat) : D := .tup [.int (p.1 : Nat), .int (p.2 : Nat)]
theorem r_changed {h : Hs} (H : DS ns st) (Z : h.fit) : ∃ h' st', f__law_changed [.ref 1, h.d] st = .ok (Hs.d h') st' ∧ h'.sm ∧ DS ns st' ∧ Fr st st' := by
  have hm0 : 2 ≤ st.length := H.len
  obtain ⟨w, rs, near, lots, modes⟩ := h
  obtain ⟨⟨zl0, zl⟩, zm, zq⟩ := Z
  simp only at zl0 zl zm zq
  obtain ⟨W, eW⟩ : ∃ W, W = D.str w := ⟨_, rfl⟩
  obtain ⟨R, eR⟩ : ∃ R, R = rdd rs := ⟨_, rfl⟩
  obtain ⟨L, eL⟩ : ∃ L, L = itup lots := ⟨_, rfl⟩
  obtain ⟨M, eMM⟩ : ∃ M, M = D.tup (modes.map qsd) := ⟨_, rfl⟩
  obtain ⟨X, eX⟩ : ∃ X, X = Hs.d ⟨w, rs, near, lots, modes⟩ := ⟨_, rfl⟩
  have eX2 : X = .tup [W, R, near, L, M] := by rw [eX, eW, eR, eL, eMM]; rfl
  have lL : ∀ s, fLen [L] s = .ok (.int lots.length) s := fun s => by rw [eL]; exact ln_itup
  have lM : ∀ s, fLen [M] s = .ok (.int modes.length) s := fun s => by rw [eMM]; simp
  have i4 : ∀ s, oIx X (.int 4) s = .ok M s := fun s => by rw [eX2, oIx_tup]; rfl
  have i3 : ∀ s, oIx X (.int 3) s = .ok L s := fun s => by rw [eX2, oIx_tup]; rfl
  have t4 : ∀ s, dCut X none (some 4) s = .ok (.tup [W, R, near, L]) s := fun s => by rw [eX2]; rfl
  have t3 : ∀ s, dCut X none (some 3) s = .ok (.tup [W, R, near]) s := fun s => by rw [eX2]; rfl
  have f1 : ∀ s, dCut X (some 1) none s = .ok (.tup [R, near, L, M]) s := fun s => by rw [eX2]; rfl
  have f4 : ∀ s, dCut X (some 4) none s = .ok (.tup [M]) s := fun s => by rw [eX2]; rfl
  have im : ∀ {i : Nat} {m : List Qn}, modes[i]? = some m → ∀ s, oIx M (.int (i : Nat)) s = .ok (qsd m) s := fun h s => by rw [eMM]; exact ix_modes h
  rw [← eX]
  have smq : ∀ lots' : List Int, lots'.length ≤ lots.length + 1 → Hs.sm ⟨w, rs, near, lots', modes⟩ := fun lots' h => ⟨by simp only; omega, by simp only; omega, fun m hm => ⟨by have := (zq m hm).1; omega, fun q hq => ((zq m hm).2 q hq).2⟩⟩
  have rm : ∀ s, rg1 (.int (modes.length : Nat)) s = .ok (.fix (rng 0 modes.length)) s := fun s => rg1_int (by omega)
  obtain ⟨r, er⟩ : ∃ r, r = st.length := ⟨_, rfl⟩
  obtain ⟨τ', s1, e1, ps, ⟨t3', rfl⟩, g1, l1, h1, G1⟩ := for_inv (q := .fix (rng 0 modes.length)) (set := gN 3) (u := (sExpr (eM "list" mExtend (eVar 2) (aCons (eEl (lComp [5] (iRg1 (eCB fLen (aCons (eBin oIx (eBin oIx (eVar 1) (eC (.int 4))) (eVar 3)) aNil))) (gN 5) HM.tYes (eTup (aCons (eVar 3) (aCons (eVar 5) aNil))))) aNil))))
    (fun k τ s => ∃ ps : List (Nat × Nat), (∃ t, τ = [some (.ref 1), some X, some (.ref r), t, none, none, none, none]) ∧ lstAt s r = some (ps.map pnd) ∧ ps.length ≤ 100 * k ∧ (∀ p ∈ ps, ∃ m, modes[p.1]? = some m ∧ p.2 < m.length) ∧ Gr st s) (fun _ _ _ _ => rfl) (rng 0 modes.length) 0 [some (.ref 1), some X, some (.ref r), none, none, none, none, none] (st ++ [.lst []])
    ⟨[], ⟨_, rfl⟩, by rw [er]; exact lstAt_new, by simp, by simp, .app⟩ (by
      intro i d τ s hi hp
      obtain ⟨ps, ⟨t, rfl⟩, g, lp, hps, G⟩ := hp
      have hi2 : i < modes.length := by have := (List.getElem?_eq_some_iff.mp hi).1; rwa [rng_len] at this
      obtain ⟨k, hk, rfl⟩ := rng_mem hi
      have hmk : modes[k]? = some modes[k] := by simp [hk]
      obtain ⟨m, em⟩ : ∃ m, m = modes[k] := ⟨_, rfl⟩
      rw [← em] at hmk
      have hml : m.length ≤ 100 := (zq m (List.mem_of_getElem? hmk)).1
      have hr2 : ∀ s, rg1 (.int (m.length : Nat)) s = .ok (.fix (rng 0 m.length)) s := fun s => rg1_int (by omega)
      have hl2 : (rng 0 (m.length : Nat)).length ≤ 16777216 := by rw [rng_len]; omega
      have lq : ∀ s, fLen [qsd m] s = .ok (.int m.length) s := fun s => by simp [qsd]
      obtain ⟨Y, eY⟩ : ∃ Y, Y = qsd m := ⟨_, rfl⟩
      have imk := fun s => im hmk s
      rw [← eY] at lq imk
      have c := comp_map (q := .fix (rng 0 m.length)) (set := gN 5) (fe := (eTup (aCons (eVar 3) (aCons (eVar 5) aNil)))) (τ := [some (.ref 1), some X, some (.ref r), some (.int (k : Nat)), none, none, none, none]) (st := s) rfl (fun x : Nat => D.int x) (fun x : Nat => pnd (k, x)) (List.range m.length) [] (fun x _ => ⟨[some (.ref 1), some X, some (.ref r), some (.int (k : Nat)), none, some (.int (x : Nat)), none, none], rfl, rfl⟩)
      rw [← rng_eq, List.nil_append] at c
      obtain ⟨C, eC⟩ : ∃ C, C = (List.range m.length).map fun x => (k, x) := ⟨_, rfl⟩
      have eC2 : ((List.range m.length).map fun x : Nat => pnd (k, x)) = C.map pnd := by rw [eC, List.map_map]; rfl
      have lC : C.length = m.length := by rw [eC]; simp
      rw [eC2] at c
      have g' : lstAt (s ++ [.lst (C.map pnd)]) r = some (ps.map pnd) := (Gr.app (c := Cell.lst (C.map pnd))).lst g
      have g3 := mExtend_ref g' (lstAt_new (a := s) (xs := C.map pnd)) (by simp; omega)
      rw [← List.map_append] at g3
      refine ⟨[some (.ref 1), some X, some (.ref r), some (.int (k : Nat)), none, none, none, none], rfl, [some (.ref 1), some X, some (.ref r), some (.int (k : Nat)), none, none, none, none], (s ++ [Cell.lst (C.map pnd)]).set r (Cell.lst ((ps ++ C).map pnd)), .inl ?_, ps ++ C, ⟨_, rfl⟩, lstAt_set g', by simp; omega, ?_, (G.trans .app).put (by omega)⟩
      · simp [lComp_e, lc1, wipeD, i4, imk, lq, hr2, hl2, c, okT_ref g, g3]
      · intro p hp
        rcases List.mem_append.mp hp with q | q
        · exact hps p q
        · rw [eC] at q
          obtain ⟨x, hx, rfl⟩ := List.mem_map.mp q
          exact ⟨m, hmk, List.mem_range.mp hx⟩)
  rw [rng_len, Nat.zero_add] at l1
  have D1 := G1.ds H
  obtain ⟨sty, s2, e2, v0, v1, D2, F2⟩ := r_draw (many := 8) D1 (by decide) (by decide)
  have g2 := F2.lst g1 (by omega)
  have F12 := G1.fr.trans F2
  obtain ⟨P, eP⟩ : ∃ P, P = ps.map pnd := ⟨_, rfl⟩
  rw [← eP] at g1 g2
  have lP : P.length = ps.length := by rw [eP]; simp
  unfold f__law_changed
  rw [runB_e]
  unfold m__law_changed
  -- the last way
  have last : ∀ s, DS ns s → ∃ (i : Nat) (v : Int) (s3 s4 : Store) (lots' : List Int), f__law_draw [.ref 1, .int (lots.length : Nat)] s = .ok (.int (i : Nat)) s3 ∧ f__law_odd_number [.ref 1, .int 10000000000000000000000000000000000000000] s3 = .ok (.int v) s4 ∧ f__law_put [L, .int (i : Nat), .int v] s4 = .ok (itup lots') s4 ∧ lots'.length ≤ lots.length + 1 ∧ DS ns s4 ∧ Fr s s4 := fun s DD => by
    obtain ⟨i, s3, e3, i1, D3, F3⟩ := r_drawN (many := lots.length) DD (by omega) (by omega)
    obtain ⟨v, s4, e4, D4, F4⟩ := r_odd (lim := 10000000000000000000000000000000000000000) D3
    obtain ⟨lots', e5, l5, m5⟩ := r_put (st := s4) D.int (xs := lots) (i := i) (a := v) i1 (by omega)
    have e5 : f__law_put [itup lots, .int (i : Nat), .int v] s4 = .ok (itup lots') s4 := e5
    rw [← eL] at e5
    exact ⟨i, v, s3, s4, lots', e3, e4, e5, by omega, D4, F3.trans F4⟩
  by_cases cA : sty < 5 ∧ 0 < ps.length
  · obtain ⟨cA1, cA2⟩ := cA
    have hPn : P ≠ [] := fun h => by rw [h] at lP; simp at lP; omega
    obtain ⟨v, s3, e3, hv, D3, F3⟩ := r_pick D2 g2 (by omega) (by omega) (by omega)
    rw [eP] at hv
    obtain ⟨⟨i, j⟩, hp, rfl⟩ := List.mem_map.mp hv
    obtain ⟨m, hm, hj⟩ := h1 _ hp
    simp only at hm hj
    have hmm := List.mem_of_getElem? hm
    have hi : i < modes.length := (List.getElem?_eq_some_iff.mp hm).1
    have hq : m[j]? = some m[j] := by simp [hj]
    have hqm : m[j] ∈ m := List.getElem_mem _
    obtain ⟨q, eq'⟩ : ∃ q, q = m[j] := ⟨_, rfl⟩
    rw [← eq'] at hq hqm
    obtain ⟨Zq, Sq'⟩ := (zq m hmm).2 q hqm
    obtain ⟨q', s4, e4, S4, D4, F4⟩ := r_changed_question (h := ⟨w, rs, near, lots, modes⟩) D3 hm hq Zq Sq'
    rw [← eX] at e4
    obtain ⟨m', e5, l5, m5⟩ := r_put (st := s4) Qn.d (xs := m) (i := j) (a := q') hj (by have := (zq m hmm).1; omega)
    have e5 : f__law_put [qsd m, .int (j : Nat), q'.d] s4 = .ok (qsd m') s4 := e5
    obtain ⟨modes', e6, l6, m6⟩ := r_put (st := s4) qsd (xs := modes) (i := i) (a := m') hi (by omega)
    rw [← eMM] at e6
    have a1 : ∀ s, ofA (gT 2 (gCs 3 (gCs 5 gNil0))) [some (.ref 1), some X, some (.ref r), t3', some (.int sty), none, none, none] (pnd (i, j)) s = .nx [some (.ref 1), some X, some (.ref r), some (.int (i : Nat)), some (.int sty), some (.int (j : Nat)), none, none] s := fun s => rfl
    refine ⟨⟨w, rs, near, lots, modes'⟩, s4, ?_, ⟨by simp only; omega, by simp only; omega, ?_⟩, D4, (F12.trans F3).trans F4⟩
    · have lps : (0 : Int) < (ps.length : Nat) := by omega
      simp [List.replicate, ← er, i4, lM, sFor_e, rm, e1, e2, cA1, fLen_ref g2, lP, oGt, lps, cA2, e3, a1, im hm, e4, e5, e6, t4]
      rw [eW, eR, eL]
      rfl
    · intro y hy
      rcases m6 y hy with a | a
      · exact ⟨by have := (zq y a).1; omega, fun x hx => ((zq y a).2 x hx).2⟩
      · rw [a]
        refine ⟨by have := (zq m hmm).1; omega, fun x hx => ?_⟩
        rcases m5 x hx with b | b
        · exact ((zq m hmm).2 x b).2
        · rw [b]
          exact S4
  by_cases c5 : sty = 5
  · obtain ⟨v, s3, e3, hv, D3, F3⟩ := r_pick (st := s2 ++ [.lst [.str [104, 111, 117, 115, 101, 115], .str [], .str [72, 111, 117, 115, 101]]]) (m := s2.length) D2.app lstAt_new (by have := D2.len; omega) (by decide) (by decide)
    obtain ⟨x, rfl⟩ : ∃ x : List Nat, v = .str x := by
      simp only [List.mem_cons, List.not_mem_nil, or_false] at hv
      rcases hv with rfl | rfl | rfl <;> exact ⟨_, rfl⟩
    refine ⟨⟨x, rs, near, lots, modes⟩, s3, ?_, ?_, D3, F12.trans (Fr.app.trans F3)⟩
    · subst c5
      simp [List.replicate, ← er, i4, lM, sFor_e, rm, e1, e2, e3, f1]
      rw [eR, eL, eMM]
      rfl
    · have := smq lots (by omega)
      exact ⟨this.l, this.m, this.q⟩
  by_cases c6 : sty = 6
  · obtain ⟨lots', s3, e3, l3, m3, D3, F3⟩ := r_longer D.int (xs := lots) (a := 1) D2 (by omega)
    have e3 : f__law_longer [.ref 1, itup lots, .int 1] s2 = .ok (itup lots') s3 := e3
    rw [← eL] at e3
    refine ⟨⟨w, rs, near, lots', modes⟩, s3, ?_, smq lots' l3, D3, F12.trans F3⟩
    subst c6
    simp [List.replicate, ← er, i4, lM, sFor_e, rm, e1, e2, i3, e3, t3, f4]
    rw [eW, eR, eMM]
    rfl
  by_cases c7 : sty = 7
  · obtain ⟨x, s3, e3, x0, x1, D3, F3⟩ := r_draw (many := 3) D2 (by decide) (by decide)
    by_cases cx : x = 1
    · refine ⟨⟨w, rs, near, lots, []⟩, s3, ?_, ⟨by simp only; omega, by simp, by simp⟩, D3, F12.trans F3⟩
      subst c7
      simp [List.replicate, ← er, i4, lM, sFor_e, rm, e1, e2, e3, cx, t4]
      rw [eW, eR, eL]
      rfl
    · obtain ⟨i, v, s5, s6, lots', e5, e6, e7, l7, D6, F6⟩ := last s3 D3
      refine ⟨⟨w, rs, near, lots', modes⟩, s6, ?_, smq lots' l7, D6, (F12.trans F3).trans F6⟩
      subst c7
      simp [List.replicate, ← er, i4, lM, sFor_e, rm, e1, e2, e3, cx, i3, lL, e5, e6, e7, t3, f4, pw40]
      rw [eW, eR, eMM]
      rfl
  · obtain ⟨i, v, s5, s6, lots', e5, e6, e7, l7, D6, F6⟩ := last s2 D2
    refine ⟨⟨w, rs, near, lots', modes⟩, s6, ?_, smq lots' l7, D6, F12.trans F6⟩
    have cl : sty < 5 := by omega
    have lps : ps.length = 0 := by omega
    simp [List.replicate, ← er, i4, lM, sFor_e, rm, e1, e2, fLen_ref g2, lP, oGt, lps, cl, c5, c6, c7, i3, lL, e5, e6, e7, t3, f4, pw40]
    rw [eW, eR, eMM]
    rfl
end

section
variable {ns : List Int} {st : Store}
theorem put4 {s : Store} {sz a b c e j u : Nat} (hz : lstAt s sz = some [.int (a : Nat), .int (b : Nat), .int (c : Nat), .int (e : Nat)]) (hj : j < 4) (ha : 1 ≤ a ∧ a ≤ 4) (hb : 1 ≤ b ∧ b ≤ 4) (hc : c ≤ 4) (he : 1 ≤ e ∧ e ≤ 4) :
    ∃ x a' b' c' e' : Nat, atI [D.int 5, .int 60, .int 8, .int 12] (j : Nat) = some (.int (x : Nat)) ∧ (∀ y : Int, y = (x : Nat) + (u : Nat) → oSet (.ref sz) (.int (j : Nat)) (.int y) s = some (s.set sz (Cell.lst [.int (a' : Nat), .int (b' : Nat), .int (c' : Nat), .int (e' : Nat)]))) ∧
      (1 ≤ a' ∧ a' ≤ 5 + u) ∧ (1 ≤ b' ∧ b' ≤ 60 + u) ∧ c' ≤ 8 + u ∧ (1 ≤ e' ∧ e' ≤ 12 + u) := by
  have : j = 0 ∨ j = 1 ∨ j = 2 ∨ j = 3 := by omega
  rcases this with rfl | rfl | rfl | rfl
  · exact ⟨5, 5 + u, b, c, e, rfl, fun y hy => by rw [hy]; exact oSet_ref hz (ixN_of (j := 0) (by show _ < 4; decide)), by omega, by omega, by omega, by omega⟩
  · exact ⟨60, a, 60 + u, c, e, rfl, fun y hy => by rw [hy]; exact oSet_ref hz (ixN_of (j := 1) (by show _ < 4; decide)), by omega, by omega, by omega, by omega⟩
  · exact ⟨8, a, b, 8 + u, e, rfl, fun y hy => by rw [hy]; exact oSet_ref hz (ixN_of (j := 2) (by show _ < 4; decide)), by omega, by omega, by omega, by omega⟩
  · exact ⟨12, a, b, c, 12 + u, rfl, fun y hy => by rw [hy]; exact oSet_ref hz (ixN_of (j := 3) (by show _ < 4; decide)), by omega, by omega, by omega, by omega⟩
theorem r_lints {n : Nat} (hn : n ≤ 1000) {s : Store} : f__law_is_ints [.tup (rng 0 n)] s = .ok (.bl true) s := by
  have c := comp_map (q := .fix (rng 0 n)) (set := gN 1) (fe := (eCall 1 f__law_is_int (aCons (eVar 1) aNil))) (τ := [some (.tup (rng 0 n)), none]) (st := s) rfl (fun k : Nat => D.int k) (fun _ : Nat => D.bl true) (List.range n) [] (fun k _ => ⟨[some (.tup (rng 0 n)), some (.int (k : Nat))], rfl, by simp [r_is_int]⟩)
  rw [← rng_eq, List.nil_append] at c
  have ga : gAllB ((List.range n).map fun _ : Nat => D.bl true) s = .ok (.bl true) s := by
    have := gAllB_map (f := fun _ : Nat => true) (xs := List.range n) (st := s)
    rw [this]
    congr 2
    simp
  have hl : (rng 0 (n : Nat)).length ≤ 16777216 := by rw [rng_len]; omega
  obtain ⟨R, eR⟩ : ∃ R, R = rng 0 (n : Nat) := ⟨_, rfl⟩
  rw [← eR] at c hl ⊢
  obtain ⟨A, eA⟩ : ∃ A, A = (List.range n).map fun _ : Nat => D.bl true := ⟨_, rfl⟩
  rw [← eA] at c ga
  simp [f__law_is_ints, runB_e, m__law_is_ints, List.replicate, lComp_e, lc1, wipeD, hl, c, ga]
theorem law_holds : ∀ ns : List Int, ns.length ≤ 63 → ∃ st, f_law [.rol (ns.map D.int)] [] = .ok (.bl true) st := by
  intro ns hns
  obtain ⟨s1, e1, D1, _⟩ := r_begin hns
  obtain ⟨C, eCC⟩ : ∃ C, C = D.rol (ns.map D.int) := ⟨_, rfl⟩
  rw [← eCC] at e1 ⊢
  -- kinds
  have hk : ∃ (k : Nat) (s2 : Store), (eIf (tVal (eCall 2 f__law_rare (aCons (eVar 1) (aCons (eC (.int 9)) aNil)))) (eC (.int 5)) (eBin oAdd (eC (.int 1)) (eCall 2 f__law_draw (aCons (eVar 1) (aCons (eC (.int 3)) aNil))))) [some C, some (.ref 1), none, none, none, none, none, none, none, none, none] s1 = .ok (.int (k : Nat)) s2 ∧ 0 < k ∧ k ≤ 5 ∧ DS ns s2 := by
    obtain ⟨b, s2, e2, D2, F2⟩ := r_rare (many := 9) D1 (by decide) (by decide)
    cases b with
    | true => exact ⟨5, s2, by simp [e2], by decide, by decide, D2⟩
    | false =>
      obtain ⟨v, s3, e3, v1, D3, F3⟩ := r_drawN (many := 3) D2 (by decide) (by decide)
      exact ⟨1 + v, s3, by simp [e2, show f__law_draw [.ref 1, .int 3] s2 = _ from e3], by omega, by omega, D3⟩
  obtain ⟨k, s2, e2, k0, k5, D2⟩ := hk
  have hn : ∃ (n : Nat) (s3 : Store), (eIf (tVal (eCall 2 f__law_rare (aCons (eVar 1) (aCons (eC (.int 25)) aNil)))) (eC (.int 40)) (eBin oAdd (eC (.int 1)) (eCall 2 f__law_draw (aCons (eVar 1) (aCons (eC (.int 4)) aNil))))) [some C, some (.ref 1), some (.int (k : Nat)), none, none, none, none, none, none, none, none] s2 = .ok (.int (n : Nat)) s3 ∧ 0 < n ∧ n ≤ 40 ∧ DS ns s3 := by
    obtain ⟨b, s3, e3, D3, F3⟩ := r_rare (many := 25) D2 (by decide) (by decide)
    cases b with
    | true => exact ⟨40, s3, by simp [e3], by decide, by decide, D3⟩
    | false =>
      obtain ⟨v, s4, e4, v1, D4, F4⟩ := r_drawN (many := 4) D3 (by decide) (by decide)
      exact ⟨1 + v, s4, by simp [e3, show f__law_draw [.ref 1, .int 4] s3 = _ from e4], by omega, by omega, D4⟩
  obtain ⟨n, s3, e3, n0, n40, D3⟩ := hn
  obtain ⟨rs, s4, e4, lrs, D4, F4⟩ := r_reader (n := n) (k := k) D3 n0 (by omega) k0 (by omega)
  obtain ⟨es, s5, e5, les, D5, F5⟩ := r_near (n := k) D4 k0 k5
  obtain ⟨wd, s6, e6, _, _, D6, F6⟩ := r_draw (many := 3) D5 (by decide) (by decide)
  obtain ⟨wide, ewide⟩ : ∃ w : Bool, w = decide (wd = 1) := ⟨_, rfl⟩
  obtain ⟨a, s7, e7, a1, D7, F7⟩ := r_drawN (many := 4) D6 (by decide) (by decide)
  obtain ⟨b, s8, e8, b1, D8, F8⟩ := r_drawN (many := 3) D7 (by decide) (by decide)
  obtain ⟨c, s9, e9, c1, D9, F9⟩ := r_drawN (many := 4) D8 (by decide) (by decide)
  obtain ⟨e, s10, e10, e1', D10, F10⟩ := r_drawN (many := 4) D9 (by decide) (by decide)
  have e7 : f__law_draw [.ref 1, .int 4] s6 = .ok (.int (a : Nat)) s7 := e7
  have e8 : f__law_draw [.ref 1, .int 3] s7 = .ok (.int (b : Nat)) s8 := e8
  have e9 : f__law_draw [.ref 1, .int 4] s8 = .ok (.int (c : Nat)) s9 := e9
  have e10 : f__law_draw [.ref 1, .int 4] s9 = .ok (.int (e : Nat)) s10 := e10
  obtain ⟨sz, esz⟩ : ∃ sz, sz = s10.length := ⟨_, rfl⟩
  have sz2 : 2 ≤ sz := by rw [esz]; exact D10.len
  obtain ⟨s11, es11⟩ : ∃ s11, s11 = s10 ++ [.lst [.int ((1 + a : Nat) : Int), .int ((1 + b : Nat) : Int), .int (c : Nat), .int ((1 + e : Nat) : Int)]] := ⟨_, rfl⟩
  have gz : lstAt s11 sz = some [.int ((1 + a : Nat) : Int), .int ((1 + b : Nat) : Int), .int (c : Nat), .int ((1 + e : Nat) : Int)] := by rw [es11, esz]; exact lstAt_new
  have D11 : DS ns s11 := by rw [es11]; exact D10.app
  have c12 : ∃ (t : Option D) (s12 : Store) (a' b' c' e' : Nat), (sIf (tVal (eCall 2 f__law_rare (aCons (eVar 1) (aCons (eC (.int 9)) aNil)))) (sSeq (sSet 7 (eCall 2 f__law_draw (aCons (eVar 1) (aCons (eC (.int 4)) aNil))))
    (sSub (eVar 6) (eVar 7) (eBin oIx (eLst (aCons (eC (.int 5)) (aCons (eC (.int 60)) (aCons (eC (.int 8)) (aCons (eC (.int 12)) aNil))))) (eVar 7)))) sNil) [some C, some (.ref 1), some (.int (k : Nat)), some (rdd rs), some (eds es), some (.bl wide), some (.ref sz), none, none, none, none] s11 = .nx [some C, some (.ref 1), some (.int (k : Nat)), some (rdd rs), some (eds es), some (.bl wide), some (.ref sz), t, none, none, none] s12 ∧ lstAt s12 sz = some [.int (a' : Nat), .int (b' : Nat), .int (c' : Nat), .int (e' : Nat)] ∧ (1 ≤ a' ∧ a' ≤ 5) ∧ (1 ≤ b' ∧ b' ≤ 60) ∧ c' ≤ 8 ∧ (1 ≤ e' ∧ e' ≤ 12) ∧ DS ns s12 := by
    obtain ⟨bb, s12, e12, D12, F12⟩ := r_rare (many := 9) D11 (by decide) (by decide)
    have gz12 := F12.lst gz (by omega)
    cases bb with
    | false => exact ⟨none, s12, 1 + a, 1 + b, c, 1 + e, by simp [e12], gz12, by omega, by omega, by omega, by omega, D12⟩
    | true =>
      obtain ⟨j, s13, e13, j1, D13, F13⟩ := r_drawN (many := 4) D12 (by decide) (by decide)
      have e13 : f__law_draw [.ref 1, .int 4] s12 = .ok (.int (j : Nat)) s13 := e13
      have gz13 := F13.lst gz12 (by omega)
      have gz14 : lstAt (s13 ++ [.lst [.int 5, .int 60, .int 8, .int 12]]) sz = _ := Fr.app.lst gz13 (by omega)
      have gl : lstAt (s13 ++ [.lst [.int 5, .int 60, .int 8, .int 12]]) s13.length = some [.int 5, .int 60, .int 8, .int 12] := lstAt_new
      obtain ⟨x, a', b', c', e', hx, hs, r1, r2, r3, r4⟩ := put4 (u := 0) gz14 j1 (by omega) (by omega) (by omega) (by omega)
      refine ⟨some (.int (j : Nat)), _, a', b', c', e', ?_, lstAt_set gz14, by omega, by omega, by omega, by omega, D13.app.put2 (by omega) (by omega)⟩
      simp [e12, e13, oIx_ref gl, hx, hs x (by simp)]
  obtain ⟨t, s12, a', b', c', e', e12, gz12, ra, rb, rc, re, D12⟩ := c12
  obtain ⟨h, s13, e13, hrs, hsm, hok, D13, F13⟩ := r_world (rs := rs) (near := eds es) (wide := wide) D12 gz12 (by omega) (by omega) (by omega) (by omega) (by omega) (by omega) (by omega) (by omega) (by omega)
  have hok := hok (by omega) (by omega) (by omega) (by omega)
  have fit := Hs.fit_of hsm hok (by rw [hrs]; omega) (by rw [hrs]; omega)
  have j1 := fun s => r_judged (st := s) hsm
  have j2 : ∀ s, f__law_is_house [h.d] s = .ok (.bl true) s := fun s => by rw [r_lh hsm, hok]
  have hr3 : ∀ s, rg1 (.int 3) s = .ok (.fix (rng 0 3)) s := fun s => rg1_int (by decide)
  obtain ⟨τ', s14, e14, ⟨t9, rfl⟩, D14, F14⟩ := for_inv (q := .fix (rng 0 3)) (set := gN 9) (u := (sIf (HM.tNot (tVal (eCall 1 f__law_judged (aCons (eCall 2 f__law_changed (aCons (eVar 1) (aCons (eVar 8) aNil))) aNil)))) (sRet (eC (.bl false))) sNil))
    (fun _ τ s => (∃ t9, τ = [some C, some (.ref 1), some (.int (k : Nat)), some (rdd rs), some (eds es), some (.bl wide), some (.ref sz), t, some h.d, t9, none]) ∧ DS ns s ∧ Fr s13 s) (fun _ _ _ _ => rfl) (rng 0 3) 0 [some C, some (.ref 1), some (.int (k : Nat)), some (rdd rs), some (eds es), some (.bl wide), some (.ref sz), t, some h.d, none, none] s13
    ⟨⟨_, rfl⟩, D13, .refl⟩ (by
      intro i d τ s hi hp
      obtain ⟨⟨t9, rfl⟩, DD, F⟩ := hp
      obtain ⟨h', s3, e3, S3, D3, F3⟩ := r_changed DD fit
      have j3 := r_judged (st := s3) S3
      exact ⟨[some C, some (.ref 1), some (.int (k : Nat)), some (rdd rs), some (eds es), some (.bl wide), some (.ref sz), t, some h.d, some d, none], rfl, [some C, some (.ref 1), some (.int (k : Nat)), some (rdd rs), some (eds es), some (.bl wide), some (.ref sz), t, some h.d, some d, none], s3, .inl (by simp [e3, j3]), ⟨_, rfl⟩, D3, F.trans F3⟩)
  obtain ⟨at', s15, e15, at1, D15, F15⟩ := r_drawN (many := 4) D14 (by decide) (by decide)
  have e15 : f__law_draw [.ref 1, .int 4] s14 = .ok (.int (at' : Nat)) s15 := e15
  obtain ⟨p, s16, e16, p1, D16, F16⟩ := r_drawN (many := 3) D15 (by decide) (by decide)
  obtain ⟨q, s17, e17, q1, D17, F17⟩ := r_drawN (many := 3) D16 (by decide) (by decide)
  obtain ⟨r, s18, e18, r1, D18, F18⟩ := r_drawN (many := 2) D17 (by decide) (by decide)
  obtain ⟨v, s19, e19, v1, D19, F19⟩ := r_drawN (many := 3) D18 (by decide) (by decide)
  have e16 : f__law_draw [.ref 1, .int 3] s15 = .ok (.int (p : Nat)) s16 := e16
  have e17 : f__law_draw [.ref 1, .int 3] s16 = .ok (.int (q : Nat)) s17 := e17
  have e18 : f__law_draw [.ref 1, .int 2] s17 = .ok (.int (r : Nat)) s18 := e18
  have e19 : f__law_draw [.ref 1, .int 3] s18 = .ok (.int (v : Nat)) s19 := e19
  obtain ⟨sy, esy⟩ : ∃ sy, sy = s19.length := ⟨_, rfl⟩
  have sy2 : 2 ≤ sy := by rw [esy]; exact D19.len
  obtain ⟨s20, es20⟩ : ∃ s20, s20 = s19 ++ [.lst [.int ((1 + p : Nat) : Int), .int ((1 + q : Nat) : Int), .int ((1 + r : Nat) : Int), .int ((1 + v : Nat) : Int)]] := ⟨_, rfl⟩
  have gy : lstAt s20 sy = some [.int ((1 + p : Nat) : Int), .int ((1 + q : Nat) : Int), .int ((1 + r : Nat) : Int), .int ((1 + v : Nat) : Int)] := by rw [es20, esy]; exact lstAt_new
  have D20 : DS ns s20 := by rw [es20]; exact D19.app
  obtain ⟨s21, es21⟩ : ∃ s21, s21 = s20 ++ [Cell.lst [.int 5, .int 60, .int 8, .int 12]] := ⟨_, rfl⟩
  have g21 : lstAt s21 s20.length = some [.int 5, .int 60, .int 8, .int 12] := by rw [es21]; exact lstAt_new
  have D21 : DS ns s21 := by rw [es21]; exact D20.app
  have gy21 : lstAt s21 sy = some [.int ((1 + p : Nat) : Int), .int ((1 + q : Nat) : Int), .int ((1 + r : Nat) : Int), .int ((1 + v : Nat) : Int)] := by rw [es21]; exact Fr.app.lst gy (by omega)
  obtain ⟨u, s22, e22, u1, D22, F22⟩ := r_drawN (many := 2) D21 (by decide) (by decide)
  have e22 : f__law_draw [.ref 1, .int 2] s21 = .ok (.int (u : Nat)) s22 := e22
  have gy22 := F22.lst gy21 (by omega)
  obtain ⟨x, a2, b2, c2, e2', hx, hs2, y1, y2, y3, y4⟩ := put4 (u := u) gy22 at1 (by omega) (by omega) (by omega) (by omega)
  have hs2 := hs2 _ rfl
  obtain ⟨s23, es23⟩ : ∃ s23, s23 = s22.set sy (Cell.lst [.int (a2 : Nat), .int (b2 : Nat), .int (c2 : Nat), .int (e2' : Nat)]) := ⟨_, rfl⟩
  have gy23 : lstAt s23 sy = some [.int (a2 : Nat), .int (b2 : Nat), .int (c2 : Nat), .int (e2' : Nat)] := by rw [es23]; exact lstAt_set gy22
  have D23 : DS ns s23 := by rw [es23]; exact D22.put2 (by omega) (by omega)
  rw [← es23] at hs2
  obtain ⟨h2, s24, e24, _, hsm2, _, D24, F24⟩ := r_world (rs := rs) (near := eds es) (wide := wide) D23 gy23 (by omega) (by omega) (by omega) (by omega) (by omega) (by omega) (by omega) (by omega) (by omega)
  have j4 := fun s => r_judged (st := s) hsm2
  have i3 := fun s => ix_house3 (h := h) (s := s)
  have ll := fit.l
  have kt : ∀ s, HM.kTup 0 (h.lots.length : Nat) s = .ok (.tup (rng 0 (h.lots.length : Nat))) s := fun s => by
    unfold HM.kTup
    rw [if_pos]
    simp [okLen]
    omega
  have al : ∀ s, f_all_lots [h.d] s = .ok (.tup (rng 0 (h.lots.length : Nat))) s := fun s => by
    simp [f_all_lots, runB_e, m_all_lots, List.replicate, i3, ln_itup, kt]
  have li := fun s => r_lints (n := h.lots.length) (by omega) (s := s)
  have pl : (D.tup (rng 0 (h.lots.length : Nat))).plain 60 = true := by
    rw [plain_tup, rng_eq, List.all_eq_true]
    intro x hx
    obtain ⟨y, _, rfl⟩ := List.mem_map.mp hx
    simp
  obtain ⟨HD, eHD⟩ : ∃ X, X = h.d := ⟨_, rfl⟩
  obtain ⟨HD2, eHD2⟩ : ∃ X, X = h2.d := ⟨_, rfl⟩
  obtain ⟨RG, eRG⟩ : ∃ X, X = rng 0 (h.lots.length : Nat) := ⟨_, rfl⟩
  obtain ⟨RD, eRD⟩ : ∃ X, X = rdd rs := ⟨_, rfl⟩
  obtain ⟨ED, eED⟩ : ∃ X, X = eds es := ⟨_, rfl⟩
  rw [← eHD] at e13 j1 j2 e14 i3 al
  rw [← eHD2] at e24 j4
  rw [← eRG] at kt al li pl
  rw [← eRD] at e4 e12 e13 e14 e24
  rw [← eED] at e5 e12 e13 e14 e24
  refine ⟨s24, ?_⟩
  unfold f_law
  rw [runB_e]
  unfold m_law
  simp [-sIf_e, -eIf_e, List.replicate, e1, e2, e3, e4, e5, e6, ← ewide, e7, e8, e9, e10, ← esz]
  have es11' : s10 ++ [Cell.lst [.int (1 + (a : Int)), .int (1 + (b : Int)), .int (c : Int), .int (1 + (e : Int))]] = s11 := by rw [es11]; simp
  have es20' : s19 ++ [Cell.lst [.int (1 + (p : Int)), .int (1 + (q : Int)), .int (1 + (r : Int)), .int (1 + (v : Int))]] = s20 := by rw [es20]; simp
  rw [es11']
  rw [e12]
  simp [-oSet, e13, j1, j2, sFor_e, hr3, e14, e15, e16, e17, e18, e19, ← esy, es20', ← es21, oIx_ref g21, hx, e22, hs2, e24, j4, al, li, i3, ln_itup, kt, pl]
end

/-! ### the head -/
def fn : List He.DefD := [⟨("all_lots", none), "all_lots", "all_lots", defArgs s_all_lots, defBody s_all_lots, defScope s_all_lots, [], []⟩,
  ⟨("is_row", none), "is_row", "is_row", defArgs s_is_row, defBody s_is_row, defScope s_is_row, [], []⟩,
  ⟨("is_choice", none), "is_choice", "is_choice", defArgs s_is_choice, defBody s_is_choice, defScope s_is_choice, [], []⟩,
  ⟨("are_goes", none), "are_goes", "are_goes", defArgs s_are_goes, defBody s_are_goes, defScope s_are_goes, [], []⟩,
  ⟨("is_question", none), "is_question", "is_question", defArgs s_is_question, defBody s_is_question, defScope s_is_question, [], []⟩,
  ⟨("are_lots", none), "are_lots", "are_lots", defArgs s_are_lots, defBody s_are_lots, defScope s_are_lots, [], []⟩,
  ⟨("is_house", none), "is_house", "is_house", defArgs s_is_house, defBody s_is_house, defScope s_is_house, [], []⟩,
  ⟨("_law_begin", none), "_law_begin", "_law_begin", defArgs s__law_begin, defBody s__law_begin, defScope s__law_begin, [], []⟩,
  ⟨("_law_draw", none), "_law_draw", "_law_draw", defArgs s__law_draw, defBody s__law_draw, defScope s__law_draw, [], []⟩,
  ⟨("_law_pick", none), "_law_pick", "_law_pick", defArgs s__law_pick, defBody s__law_pick, defScope s__law_pick, [], []⟩,
  ⟨("_law_rare", none), "_law_rare", "_law_rare", defArgs s__law_rare, defBody s__law_rare, defScope s__law_rare, [], []⟩,
  ⟨("_law_is_int", none), "_law_is_int", "_law_is_int", defArgs s__law_is_int, defBody s__law_is_int, defScope s__law_is_int, [], []⟩,
  ⟨("_law_is_ints", none), "_law_is_ints", "_law_is_ints", defArgs s__law_is_ints, defBody s__law_is_ints, defScope s__law_is_ints, [], []⟩,
  ⟨("_law_all_edits", none), "_law_all_edits", "_law_all_edits", defArgs s__law_all_edits, defBody s__law_all_edits, defScope s__law_all_edits, [], []⟩,
  ⟨("_law_near", none), "_law_near", "_law_near", defArgs s__law_near, defBody s__law_near, defScope s__law_near, [], []⟩,
  ⟨("_law_reader", none), "_law_reader", "_law_reader", defArgs s__law_reader, defBody s__law_reader, defScope s__law_reader, [], []⟩,
  ⟨("_law_put", none), "_law_put", "_law_put", defArgs s__law_put, defBody s__law_put, defScope s__law_put, [], []⟩,
  ⟨("_law_weight", none), "_law_weight", "_law_weight", defArgs s__law_weight, defBody s__law_weight, defScope s__law_weight, [], []⟩,
  ⟨("_law_weights", none), "_law_weights", "_law_weights", defArgs s__law_weights, defBody s__law_weights, defScope s__law_weights, [], []⟩,
  ⟨("_law_one_question", none), "_law_one_question", "_law_one_question", defArgs s__law_one_question, defBody s__law_one_question, defScope s__law_one_question, [], []⟩,
  ⟨("_law_world", none), "_law_world", "_law_world", defArgs s__law_world, defBody s__law_world, defScope s__law_world, [], []⟩,
  ⟨("_law_is_question", none), "_law_is_question", "_law_is_question", defArgs s__law_is_question, defBody s__law_is_question, defScope s__law_is_question, [], []⟩,
  ⟨("_law_is_house", none), "_law_is_house", "_law_is_house", defArgs s__law_is_house, defBody s__law_is_house, defScope s__law_is_house, [], []⟩,
  ⟨("_law_odd_number", none), "_law_odd_number", "_law_odd_number", defArgs s__law_odd_number, defBody s__law_odd_number, defScope s__law_odd_number, [], []⟩,
  ⟨("_law_longer", none), "_law_longer", "_law_longer", defArgs s__law_longer, defBody s__law_longer, defScope s__law_longer, [], []⟩,
  ⟨("_law_changed_rows", none), "_law_changed_rows", "_law_changed_rows", defArgs s__law_changed_rows, defBody s__law_changed_rows, defScope s__law_changed_rows, [], []⟩,
  ⟨("_law_changed_goes", none), "_law_changed_goes", "_law_changed_goes", defArgs s__law_changed_goes, defBody s__law_changed_goes, defScope s__law_changed_goes, [], []⟩,
  ⟨("_law_changed_question", none), "_law_changed_question", "_law_changed_question", defArgs s__law_changed_question, defBody s__law_changed_question, defScope s__law_changed_question, [], []⟩,
  ⟨("_law_changed", none), "_law_changed", "_law_changed", defArgs s__law_changed, defBody s__law_changed, defScope s__law_changed, [], []⟩,
  ⟨("_law_judged", none), "_law_judged", "_law_judged", defArgs s__law_judged, defBody s__law_judged, defScope s__law_judged, [], []⟩,
  ⟨("law", none), "law", "law", defArgs s_law, defBody s_law, defScope s_law, [], []⟩]
def fa : List He.Fa := [.glo "all_lots", .glo "is_row", .glo "is_choice", .glo "are_goes", .glo "is_question", .glo "are_lots", .glo "is_house", .glo "_law_begin", .glo "_law_draw", .glo "_law_pick", .glo "_law_rare", .glo "_law_is_int", .glo "_law_is_ints", .glo "_law_all_edits", .glo "_law_near", .glo "_law_reader", .glo "_law_put", .glo "_law_weight", .glo "_law_weights", .glo "_law_one_question", .glo "_law_world", .glo "_law_is_question", .glo "_law_is_house", .glo "_law_odd_number", .glo "_law_longer", .glo "_law_changed_rows", .glo "_law_changed_goes", .glo "_law_changed_question", .glo "_law_changed", .glo "_law_judged", .glo "law", .free "len", .free "tuple", .free "range", .free "sum", .free "int", .free "abs", .free "isinstance", .free "bool", .free "all", .free "min"]
def fx : List Fx := [.con "MOST_WEIGHT" q_MOST_WEIGHT, .con "MOST_ANSWERS" q_MOST_ANSWERS, .con "MOST_LOTS" q_MOST_LOTS, .con "MOST_MODES" q_MOST_MODES, .con "MOST_QUESTIONS" q_MOST_QUESTIONS]
abbrev hk : PySem.W.Hook := hookM 5 fa fx fn
def ob (s : PySem.W.SharedT) : He.AlD := obsMG 5 fa fx fn (HandSHeadRun.getT s)
theorem ob_eq (s : PySem.W.SharedT) : ob s = hk.obs s.abs := obsMG_eq (HandSHeadRun.getT_eq s)
def nm0 : List PySem.Str := ["MOST_WEIGHT", "MOST_LOTS", "MOST_MODES", "MOST_QUESTIONS", "MOST_ANSWERS", "all_lots", "is_row", "is_choice", "are_goes", "is_question", "are_lots", "is_house", "_law_begin", "_law_draw", "_law_pick", "_law_rare", "_law_is_int", "_law_is_ints", "_law_all_edits", "_law_near", "_law_reader", "_law_put", "_law_weight", "_law_weights", "_law_one_question", "_law_world", "_law_is_question", "_law_is_house", "_law_odd_number", "_law_longer"]
def nm1 : List PySem.Str := ["_law_changed_rows", "_law_changed_goes", "_law_changed_question", "_law_changed", "_law_judged"]
def nms : List PySem.Str := nm0 ++ nm1
theorem run (w : World) : HandSHeadRun.RunEq (PySem.W.OpenLaw.row PySem.Challenge.rw_closedratios_k29_houses_judged) (PySem.W.view (PySem.W.OpenLaw.row PySem.Challenge.rw_closedratios_k29_houses_judged).prog [37]) hk ob 6000 nms w := by
  intro os
  kernel_rfl
theorem facts {P : Program} {w : World} {K : PySem.W.Frag} {h : Heap} {mg : PySem.Str → Option Value} {f : Addr} (X : K.In h) (G : h.Ns mainGlobals mg) (hfa : mg ("law" : PySem.Str) = some (.ref f)) (c : SaysM fa fx fn K) :
    ∃ fd : FuncData, (∀ (s : Shared) (v : Value), BindsTo s fd ⟨[v], []⟩ [("script", v)]) ∧ ∀ base : Heap, K.In base → base.Ns mainGlobals mg → FnM P w K mg base 7 f fd ["script"] f_law := by
  obtain ⟨fd_all_lots, F_all_lots⟩ := c.def_ 0 rfl
  have gx_all_lots := He.glo_ok X G (c.fact 0 (f := .glo "all_lots") rfl)
  obtain ⟨fd_is_row, F_is_row⟩ := c.def_ 1 rfl
  have gx_is_row := He.glo_ok X G (c.fact 1 (f := .glo "is_row") rfl)
  obtain ⟨fd_is_choice, F_is_choice⟩ := c.def_ 2 rfl
  have gx_is_choice := He.glo_ok X G (c.fact 2 (f := .glo "is_choice") rfl)
  obtain ⟨fd_are_goes, F_are_goes⟩ := c.def_ 3 rfl
  have gx_are_goes := He.glo_ok X G (c.fact 3 (f := .glo "are_goes") rfl)
  obtain ⟨fd_is_question, F_is_question⟩ := c.def_ 4 rfl
  have gx_is_question := He.glo_ok X G (c.fact 4 (f := .glo "is_question") rfl)
  obtain ⟨fd_are_lots, F_are_lots⟩ := c.def_ 5 rfl
  have gx_are_lots := He.glo_ok X G (c.fact 5 (f := .glo "are_lots") rfl)
  obtain ⟨fd_is_house, F_is_house⟩ := c.def_ 6 rfl
  have gx_is_house := He.glo_ok X G (c.fact 6 (f := .glo "is_house") rfl)
  obtain ⟨fd__law_begin, F__law_begin⟩ := c.def_ 7 rfl
  have gx__law_begin := He.glo_ok X G (c.fact 7 (f := .glo "_law_begin") rfl)
  obtain ⟨fd__law_draw, F__law_draw⟩ := c.def_ 8 rfl
  have gx__law_draw := He.glo_ok X G (c.fact 8 (f := .glo "_law_draw") rfl)
  obtain ⟨fd__law_pick, F__law_pick⟩ := c.def_ 9 rfl
  have gx__law_pick := He.glo_ok X G (c.fact 9 (f := .glo "_law_pick") rfl)
  obtain ⟨fd__law_rare, F__law_rare⟩ := c.def_ 10 rfl
  have gx__law_rare := He.glo_ok X G (c.fact 10 (f := .glo "_law_rare") rfl)
  obtain ⟨fd__law_is_int, F__law_is_int⟩ := c.def_ 11 rfl
  have gx__law_is_int := He.glo_ok X G (c.fact 11 (f := .glo "_law_is_int") rfl)
  obtain ⟨fd__law_is_ints, F__law_is_ints⟩ := c.def_ 12 rfl
  have gx__law_is_ints := He.glo_ok X G (c.fact 12 (f := .glo "_law_is_ints") rfl)
  obtain ⟨fd__law_all_edits, F__law_all_edits⟩ := c.def_ 13 rfl
  have gx__law_all_edits := He.glo_ok X G (c.fact 13 (f := .glo "_law_all_edits") rfl)
  obtain ⟨fd__law_near, F__law_near⟩ := c.def_ 14 rfl
  have gx__law_near := He.glo_ok X G (c.fact 14 (f := .glo "_law_near") rfl)
  obtain ⟨fd__law_reader, F__law_reader⟩ := c.def_ 15 rfl
  have gx__law_reader := He.glo_ok X G (c.fact 15 (f := .glo "_law_reader") rfl)
  obtain ⟨fd__law_put, F__law_put⟩ := c.def_ 16 rfl
  have gx__law_put := He.glo_ok X G (c.fact 16 (f := .glo "_law_put") rfl)
  obtain ⟨fd__law_weight, F__law_weight⟩ := c.def_ 17 rfl
  have gx__law_weight := He.glo_ok X G (c.fact 17 (f := .glo "_law_weight") rfl)
  obtain ⟨fd__law_weights, F__law_weights⟩ := c.def_ 18 rfl
  have gx__law_weights := He.glo_ok X G (c.fact 18 (f := .glo "_law_weights") rfl)
  obtain ⟨fd__law_one_question, F__law_one_question⟩ := c.def_ 19 rfl
  have gx__law_one_question := He.glo_ok X G (c.fact 19 (f := .glo "_law_one_question") rfl)
  obtain ⟨fd__law_world, F__law_world⟩ := c.def_ 20 rfl
  have gx__law_world := He.glo_ok X G (c.fact 20 (f := .glo "_law_world") rfl)
  obtain ⟨fd__law_is_question, F__law_is_question⟩ := c.def_ 21 rfl
  have gx__law_is_question := He.glo_ok X G (c.fact 21 (f := .glo "_law_is_question") rfl)
  obtain ⟨fd__law_is_house, F__law_is_house⟩ := c.def_ 22 rfl
  have gx__law_is_house := He.glo_ok X G (c.fact 22 (f := .glo "_law_is_house") rfl)
  obtain ⟨fd__law_odd_number, F__law_odd_number⟩ := c.def_ 23 rfl
  have gx__law_odd_number := He.glo_ok X G (c.fact 23 (f := .glo "_law_odd_number") rfl)
  obtain ⟨fd__law_longer, F__law_longer⟩ := c.def_ 24 rfl
  have gx__law_longer := He.glo_ok X G (c.fact 24 (f := .glo "_law_longer") rfl)
  obtain ⟨fd__law_changed_rows, F__law_changed_rows⟩ := c.def_ 25 rfl
  have gx__law_changed_rows := He.glo_ok X G (c.fact 25 (f := .glo "_law_changed_rows") rfl)
  obtain ⟨fd__law_changed_goes, F__law_changed_goes⟩ := c.def_ 26 rfl
  have gx__law_changed_goes := He.glo_ok X G (c.fact 26 (f := .glo "_law_changed_goes") rfl)
  obtain ⟨fd__law_changed_question, F__law_changed_question⟩ := c.def_ 27 rfl
  have gx__law_changed_question := He.glo_ok X G (c.fact 27 (f := .glo "_law_changed_question") rfl)
  obtain ⟨fd__law_changed, F__law_changed⟩ := c.def_ 28 rfl
  have gx__law_changed := He.glo_ok X G (c.fact 28 (f := .glo "_law_changed") rfl)
  obtain ⟨fd__law_judged, F__law_judged⟩ := c.def_ 29 rfl
  have gx__law_judged := He.glo_ok X G (c.fact 29 (f := .glo "_law_judged") rfl)
  obtain ⟨fd_law, F_law⟩ := c.def_ 30 rfl
  have z_len := He.free_ok X G (c.fact 31 (f := .free "len") rfl)
  have z_tuple := He.free_ok X G (c.fact 32 (f := .free "tuple") rfl)
  have z_range := He.free_ok X G (c.fact 33 (f := .free "range") rfl)
  have z_sum := He.free_ok X G (c.fact 34 (f := .free "sum") rfl)
  have z_int := He.free_ok X G (c.fact 35 (f := .free "int") rfl)
  have z_abs := He.free_ok X G (c.fact 36 (f := .free "abs") rfl)
  have z_isinstance := He.free_ok X G (c.fact 37 (f := .free "isinstance") rfl)
  have z_bool := He.free_ok X G (c.fact 38 (f := .free "bool") rfl)
  have z_all := He.free_ok X G (c.fact 39 (f := .free "all") rfl)
  have z_min := He.free_ok X G (c.fact 40 (f := .free "min") rfl)
  have k_MOST_WEIGHT := con_ok X G (c.more 0 (f := .con "MOST_WEIGHT" q_MOST_WEIGHT) rfl)
  have k_MOST_ANSWERS := con_ok X G (c.more 1 (f := .con "MOST_ANSWERS" q_MOST_ANSWERS) rfl)
  have k_MOST_LOTS := con_ok X G (c.more 2 (f := .con "MOST_LOTS" q_MOST_LOTS) rfl)
  have k_MOST_MODES := con_ok X G (c.more 3 (f := .con "MOST_MODES" q_MOST_MODES) rfl)
  have k_MOST_QUESTIONS := con_ok X G (c.more 4 (f := .con "MOST_QUESTIONS" q_MOST_QUESTIONS) rfl)
  have e := hfa.symm.trans (He.glo_ok X G (c.fact 30 (f := .glo "law") rfl))
  cases e
  refine ⟨fd_law, fun s v => FunD.bindsA (ps := ["script"]) F_law (fun _ _ _ _ _ _ us hl => match us, hl with | [_], _ => rfl) s [v] rfl, fun base _ _ => ?_⟩
  have c_all_lots := (ok_all_lots (P := P) (w := w) (base := base) F_all_lots gx_all_lots z_len z_tuple z_range).le le_all_lots
  have c_is_row := (ok_is_row (P := P) (w := w) (base := base) F_is_row gx_is_row k_MOST_WEIGHT z_len z_sum).le le_is_row
  have c_is_choice := (ok_is_choice (P := P) (w := w) (base := base) F_is_choice gx_is_choice z_len).le le_is_choice
  have c_are_goes := (ok_are_goes (P := P) (w := w) (base := base) F_are_goes gx_are_goes k_MOST_ANSWERS z_len).le le_are_goes
  have c_is_question := (ok_is_question (P := P) (w := w) (base := base) F_is_question gx_is_question c_are_goes c_is_row c_is_choice z_len).le le_is_question
  have c_are_lots := (ok_are_lots (P := P) (w := w) (base := base) F_are_lots gx_are_lots k_MOST_LOTS k_MOST_WEIGHT z_len).le le_are_lots
  have c_is_house := (ok_is_house (P := P) (w := w) (base := base) F_is_house gx_is_house c_are_lots c_is_question k_MOST_MODES k_MOST_QUESTIONS z_len).le le_is_house
  have c__law_begin := (ok__law_begin (P := P) (w := w) (base := base) F__law_begin gx__law_begin z_int).le le__law_begin
  have c__law_draw := (ok__law_draw (P := P) (w := w) (base := base) F__law_draw gx__law_draw z_int z_len z_abs).le le__law_draw
  have c__law_pick := (ok__law_pick (P := P) (w := w) (base := base) F__law_pick gx__law_pick c__law_draw z_len).le le__law_pick
  have c__law_rare := (ok__law_rare (P := P) (w := w) (base := base) F__law_rare gx__law_rare c__law_draw).le le__law_rare
  have c__law_is_int := (ok__law_is_int (P := P) (w := w) (base := base) F__law_is_int gx__law_is_int z_int z_isinstance z_bool).le le__law_is_int
  have c__law_is_ints := (ok__law_is_ints (P := P) (w := w) (base := base) F__law_is_ints gx__law_is_ints c__law_is_int z_tuple z_isinstance z_all).le le__law_is_ints
  have c__law_all_edits := (ok__law_all_edits (P := P) (w := w) (base := base) F__law_all_edits gx__law_all_edits z_range z_tuple).le le__law_all_edits
  have c__law_near := (ok__law_near (P := P) (w := w) (base := base) F__law_near gx__law_near c__law_all_edits c__law_draw z_tuple).le le__law_near
  have c__law_reader := (ok__law_reader (P := P) (w := w) (base := base) F__law_reader gx__law_reader c__law_draw z_range z_tuple).le le__law_reader
  have c__law_put := (ok__law_put (P := P) (w := w) (base := base) F__law_put gx__law_put ).le le__law_put
  have c__law_weight := (ok__law_weight (P := P) (w := w) (base := base) F__law_weight gx__law_weight c__law_draw c__law_pick).le le__law_weight
  have c__law_weights := (ok__law_weights (P := P) (w := w) (base := base) F__law_weights gx__law_weights c__law_weight c__law_draw z_range z_sum z_tuple).le le__law_weights
  have c__law_one_question := (ok__law_one_question (P := P) (w := w) (base := base) F__law_one_question gx__law_one_question c__law_draw c__law_weights z_range z_tuple).le le__law_one_question
  have c__law_world := (ok__law_world (P := P) (w := w) (base := base) F__law_world gx__law_world c__law_draw c__law_one_question c__law_weight z_len z_range z_min z_tuple).le le__law_world
  have c__law_is_question := (ok__law_is_question (P := P) (w := w) (base := base) F__law_is_question gx__law_is_question z_len z_all z_sum).le le__law_is_question
  have c__law_is_house := (ok__law_is_house (P := P) (w := w) (base := base) F__law_is_house gx__law_is_house c__law_is_question z_len z_all).le le__law_is_house
  have c__law_odd_number := (ok__law_odd_number (P := P) (w := w) (base := base) F__law_odd_number gx__law_odd_number c__law_draw c__law_pick z_range).le le__law_odd_number
  have c__law_longer := (ok__law_longer (P := P) (w := w) (base := base) F__law_longer gx__law_longer c__law_draw z_len).le le__law_longer
  have c__law_changed_rows := (ok__law_changed_rows (P := P) (w := w) (base := base) F__law_changed_rows gx__law_changed_rows c__law_draw c__law_longer c__law_put c__law_odd_number z_len z_tuple).le le__law_changed_rows
  have c__law_changed_goes := (ok__law_changed_goes (P := P) (w := w) (base := base) F__law_changed_goes gx__law_changed_goes c__law_draw c__law_longer c__law_put c__law_pick c__law_odd_number z_len z_tuple).le le__law_changed_goes
  have c__law_changed_question := (ok__law_changed_question (P := P) (w := w) (base := base) F__law_changed_question gx__law_changed_question c__law_draw c__law_pick c__law_changed_rows c__law_changed_goes z_len).le le__law_changed_question
  have c__law_changed := (ok__law_changed (P := P) (w := w) (base := base) F__law_changed gx__law_changed c__law_draw c__law_pick c__law_put c__law_changed_question c__law_longer c__law_odd_number z_range z_len).le le__law_changed
  have c__law_judged := (ok__law_judged (P := P) (w := w) (base := base) F__law_judged gx__law_judged c_is_house c__law_is_house z_bool z_isinstance).le le__law_judged
  exact (ok_law (P := P) (w := w) (base := base) F_law c__law_begin c__law_rare c__law_draw c__law_reader c__law_near c__law_world c__law_judged c__law_is_house c__law_changed c_all_lots c__law_is_ints z_range z_len z_tuple).le le_law
end K29
open PySem PySem.W PySem.Calls PyProof.Rows
set_option maxHeartbeats 0 in
theorem PySem.Challenge.cw_closedratios_k29_houses_judged_holds : PySem.Challenge.rw_closedratios_k29_houses_judged.Holds := by
  w_on; o_law
  refine HandSHeadRun.head_any (r := OpenLaw.row PySem.Challenge.rw_closedratios_k29_houses_judged) (q := view (OpenLaw.row PySem.Challenge.rw_closedratios_k29_houses_judged).prog [37]) (H := K29.hk) (ob := K29.ob) (M := 6000) (loose := K29.nms) (d := HandSHeadRun.topDef (OpenLaw.row PySem.Challenge.rw_closedratios_k29_houses_judged).prog 37) (kwd := []) K29.ob_eq
    (by kernel_rfl) (fun s => by kernel_rfl) K29.run (by kernel_rfl) (by kernel_rfl) (by kernel_rfl) (by rfl) (by first | assumption | decide +kernel) (by decide +kernel) ⟨rfl, rfl, rfl, rfl, rfl, by decide +kernel⟩ ?hw ?hc
  case hw => w_witness2
  case hc =>
    refine L2.walk_ofE (l := PySem.Challenge.rw_closedratios_k29_houses_judged) (n := 63) (k := 7) (x := "script") (CX := L2.CX0) rfl (by decide) (by kernel_rfl) ⟨rfl, by decide, by decide⟩ ?F (fun _ _ _ _ z => z)
    intro w mg fa h Y G hmg0
    obtain ⟨K, KX, c⟩ := Y
    have hmg : mg ("law" : PySem.Str) = some (.ref fa) := by
      have e : (HandSHeadRun.topDef (OpenLaw.row PySem.Challenge.rw_closedratios_k29_houses_judged).prog 37).name = ("law" : PySem.Str) := by kernel_rfl
      rw [← e]
      exact hmg0
    obtain ⟨fd, hb, hF⟩ := K29.facts (P := (PySem.Challenge.rw_closedratios_k29_houses_judged).prog) (w := w) KX G hmg c
    exact ⟨K, fd, (fun vs H Q _ => HM.spM K 1 K29.f_law vs H Q fun _ _ _ => False), KX, hb, fun H a ns hl ho hS => HM.law_sp (n := 63) K29.law_holds H a ns hl ho hS, fun base h1 h2 => (hF base h1 h2).shut⟩
