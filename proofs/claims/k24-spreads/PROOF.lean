import PyProof.Rows.All
import Wide.All
import OpenK.AllK
import Wide.FinOn
import HandS.ForMost
import HandS.ForExc
import HandS.Wide
import HandS.Gcd
import HandS.Flow
import HandS.IsInst
import HandS.Conv
import HandS.TupAny
import HandS.Zip
import HandS.CallSlots
import HandS.TupLe
import HandS.ExcBuiltin
import HandS.TryOnly
import HandS.Defaults
import HandS.HeadEnd
import HandS.HeadHook1
import HandS.HeadHook2
import KE.KStateDown
import Lean
import HandS.Head0
import HandS.Head1
import HandS.Head2
import HandS.Head3
import HandS.More
import HandS.Deep
import HandS.Text
import KE.KTupSum
import KE.KMathGC
import HandS.Codes
import HandS.TupMul
import PySem.Challenge.RW_closedratios_k24_whole_spreads
set_option Elab.async false
set_option linter.all false
set_option maxRecDepth 100000
set_option maxHeartbeats 4000000
/-! HM: a layer of values over the hand layer. Part 1: values, stores, judgements. -/
namespace HM
open PySem PySem.Spec PyProof.Rows L2

/-! ### values -/
inductive D where
  | non | bl (b : Bool) | int (i : Int) | str (x : List Nat) | tup (xs : List D) | ref (n : Nat) | ty (n : String) | adr (a : Addr) | rol (xs : List D)
mutual
def D.dec : (a b : D) → Decidable (a = b)
  | .non, .non => Decidable.isTrue rfl
  | .bl a, .bl b => if h : a = b then Decidable.isTrue (h ▸ rfl) else Decidable.isFalse (fun e => h (D.bl.inj e))
  | .int a, .int b => if h : a = b then Decidable.isTrue (h ▸ rfl) else Decidable.isFalse (fun e => h (D.int.inj e))
  | .str a, .str b => if h : a = b then Decidable.isTrue (h ▸ rfl) else Decidable.isFalse (fun e => h (D.str.inj e))
  | .ref a, .ref b => if h : a = b then Decidable.isTrue (h ▸ rfl) else Decidable.isFalse (fun e => h (D.ref.inj e))
  | .ty a, .ty b => if h : a = b then Decidable.isTrue (h ▸ rfl) else Decidable.isFalse (fun e => h (D.ty.inj e))
  | .adr a, .adr b => if h : a = b then Decidable.isTrue (h ▸ rfl) else Decidable.isFalse (fun e => h (D.adr.inj e))
  | .tup a, .tup b => match D.decAll a b with
    | .isTrue h => Decidable.isTrue (h ▸ rfl)
    | .isFalse h => Decidable.isFalse (fun e => h (D.tup.inj e))
  | .rol a, .rol b => match D.decAll a b with
    | .isTrue h => Decidable.isTrue (h ▸ rfl)
    | .isFalse h => Decidable.isFalse (fun e => h (D.rol.inj e))
  | .non, .bl _ | .non, .int _ | .non, .str _ | .non, .tup _ | .non, .ref _ | .non, .ty _ | .non, .adr _ | .non, .rol _ => Decidable.isFalse nofun
  | .bl _, .non | .bl _, .int _ | .bl _, .str _ | .bl _, .tup _ | .bl _, .ref _ | .bl _, .ty _ | .bl _, .adr _ | .bl _, .rol _ => Decidable.isFalse nofun
  | .int _, .non | .int _, .bl _ | .int _, .str _ | .int _, .tup _ | .int _, .ref _ | .int _, .ty _ | .int _, .adr _ | .int _, .rol _ => Decidable.isFalse nofun
  | .str _, .non | .str _, .bl _ | .str _, .int _ | .str _, .tup _ | .str _, .ref _ | .str _, .ty _ | .str _, .adr _ | .str _, .rol _ => Decidable.isFalse nofun
  | .tup _, .non | .tup _, .bl _ | .tup _, .int _ | .tup _, .str _ | .tup _, .ref _ | .tup _, .ty _ | .tup _, .adr _ | .tup _, .rol _ => Decidable.isFalse nofun
  | .ref _, .non | .ref _, .bl _ | .ref _, .int _ | .ref _, .str _ | .ref _, .tup _ | .ref _, .ty _ | .ref _, .adr _ | .ref _, .rol _ => Decidable.isFalse nofun
  | .ty _, .non | .ty _, .bl _ | .ty _, .int _ | .ty _, .str _ | .ty _, .tup _ | .ty _, .ref _ | .ty _, .adr _ | .ty _, .rol _ => Decidable.isFalse nofun
  | .rol _, .non | .rol _, .bl _ | .rol _, .int _ | .rol _, .str _ | .rol _, .tup _ | .rol _, .ref _ | .rol _, .ty _ | .rol _, .adr _ => Decidable.isFalse nofun
  | .adr _, .non | .adr _, .bl _ | .adr _, .int _ | .adr _, .str _ | .adr _, .tup _ | .adr _, .ref _ | .adr _, .ty _ | .adr _, .rol _ => Decidable.isFalse nofun
def D.decAll : (a b : List D) → Decidable (a = b)
  | [], [] => Decidable.isTrue rfl
  | [], _ :: _ => Decidable.isFalse nofun
  | _ :: _, [] => Decidable.isFalse nofun
  | x :: xs, y :: ys => match D.dec x y with
    | .isFalse h => Decidable.isFalse (fun e => h (List.cons.inj e).1)
    | .isTrue h => match D.decAll xs ys with
      | .isTrue h2 => Decidable.isTrue (by rw [h, h2])
      | .isFalse h2 => Decidable.isFalse (fun e => h2 (List.cons.inj e).2)
end
instance : DecidableEq D := D.dec
instance : Inhabited D := ⟨.non⟩
/-- what stands in a cell of the store -/
inductive Cell where
  | lst (xs : List D)
  deriving DecidableEq, Inhabited
abbrev Store := List Cell
abbrev Sl := List (Option D)
/-- an exception: its class, its fields -/
structure Xc where
  cls : D
  fs : List (Str × D) := []
/-- what an evaluation gives -/
inductive ER (α : Type) where
  | ok (a : α) (st : Store) | exc (x : Xc) (st : Store) | bad
def ER.bind {α β : Type} (r : ER α) (k : α → Store → ER β) : ER β := match r with
  | .ok a st => k a st
  | .exc x st => .exc x st
  | .bad => .bad
@[simp] theorem ER.bind_ok {α β : Type} (a : α) (st : Store) (k : α → Store → ER β) : (ER.ok a st).bind k = k a st := rfl
@[simp] theorem ER.bind_exc {α β : Type} (x : Xc) (st : Store) (k : α → Store → ER β) : (ER.exc x st : ER α).bind k = .exc x st := rfl
@[simp] theorem ER.bind_bad {α β : Type} (k : α → Store → ER β) : (ER.bad : ER α).bind k = .bad := rfl
/-- what a statement gives -/
inductive SR where
  | nx (τ : Sl) (st : Store) | bk (τ : Sl) (st : Store) | ct (τ : Sl) (st : Store) | rt (d : D) (st : Store) | exc (x : Xc) (τ : Sl) (st : Store) | bad
abbrev EM (α : Type) := Sl → Store → ER α
abbrev SM := Sl → Store → SR

/-! ### how values stand for those of the layer -/
/-- a list that nobody writes -/
def FzL (K : PySem.W.Frag) (H : Hp) (a : Addr) (xs : List V) : Prop :=
  (∃ o, H a = some (.frz o (.lst xs))) ∨
    ∃ (o : Obj) (its : Array Value) (n : Nat), K.lookup a = some o ∧ o.cls = .type "list" ∧ o.dict = none ∧ o.data = .seq its n ∧ its.size ≤ sizeLine ∧ Vals xs its.toList
theorem FzL.sq {K : PySem.W.Frag} {H : Hp} {a : Addr} {xs : List V} (h : FzL K H a xs) : SqL K H a xs := by
  rcases h with ⟨o, h⟩ | h
  · exact .inl (.inr ⟨o, h⟩)
  · exact .inr h
theorem FzL.of {K : PySem.W.Frag} {H : Hp} {a : Addr} {xs : List V} (h : SqL K H a xs) (n : ∀ ys, H a ≠ some (.lst ys)) : FzL K H a xs := by
  rcases h with (h | h) | h
  · exact absurd h (n xs)
  · exact .inl h
  · exact .inr h
theorem FzL.new {K : PySem.W.Frag} {H : Hp} {p : Addr} {o : HO} (h : H p = none) {a : Addr} {vs : List V} (s : FzL K H a vs) : FzL K (upd H p o) a vs := by
  rcases s with ⟨ob, s⟩ | s
  · exact .inl ⟨ob, by rw [upd_ne (ne_of_none s h)]; exact s⟩
  · exact .inr s
mutual
inductive RD (K : PySem.W.Frag) (m : List Addr) (H : Hp) : D → V → Prop
  | non : RD K m H .non .non
  | bl (b : Bool) : RD K m H (.bl b) (.bl b)
  | int (i : Int) : RD K m H (.int i) (.int i)
  | str (x : List Nat) : RD K m H (.str x) (.str ⟨x.toArray⟩)
  | ty (n : String) : RD K m H (.ty n) (.ty n)
  | adr (a : Addr) : RD K m H (.adr a) (.ref a)
  | tup {a : Addr} {vs : List V} {ds : List D} : SqT K H a vs → RDs K m H ds vs → RD K m H (.tup ds) (.ref a)
  | rol {a : Addr} {vs : List V} {ds : List D} : FzL K H a vs → RDs K m H ds vs → RD K m H (.rol ds) (.ref a)
  | ref {n : Nat} {a : Addr} : m[n]? = some a → RD K m H (.ref n) (.ref a)
inductive RDs (K : PySem.W.Frag) (m : List Addr) (H : Hp) : List D → List V → Prop
  | nil : RDs K m H [] []
  | cons {d : D} {v : V} {ds : List D} {vs : List V} : RD K m H d v → RDs K m H ds vs → RDs K m H (d :: ds) (v :: vs)
end
/-- what values lean on is kept -/
structure Kp (K : PySem.W.Frag) (m : List Addr) (H : Hp) (m' : List Addr) (H' : Hp) : Prop where
  pre : ∀ (n : Nat) (a : Addr), m[n]? = some a → m'[n]? = some a
  tup : ∀ (a : Addr) (vs : List V), SqT K H a vs → SqT K H' a vs
  fzl : ∀ (a : Addr) (vs : List V), FzL K H a vs → FzL K H' a vs
/-- all that was is kept, but what the store may change -/
structure Ext (K : PySem.W.Frag) (m : List Addr) (H : Hp) (m' : List Addr) (H' : Hp) : Prop extends Kp K m H m' H' where
  frm : ∀ (a : Addr) (o : HO), a ∉ m → H a = some o → H' a = some o
  new : ∀ a : Addr, a ∈ m' → a ∉ m → H a = none
section
variable {K : PySem.W.Frag} {m m1 m2 m' : List Addr} {H H1 H2 H' : Hp}
theorem Ext.refl : Ext K m H m H := ⟨⟨fun _ _ h => h, fun _ _ h => h, fun _ _ h => h⟩, fun _ _ _ h => h, fun _ h n => absurd h n⟩
theorem Ext.mem (e : Ext K m H m1 H1) {a : Addr} (h : a ∈ m) : a ∈ m1 := by
  obtain ⟨n, q⟩ := List.getElem?_of_mem h
  exact List.mem_of_getElem? (e.pre n a q)
theorem Ext.trans (e : Ext K m H m1 H1) (f : Ext K m1 H1 m2 H2) : Ext K m H m2 H2 where
  pre := fun n a h => f.pre n a (e.pre n a h)
  tup := fun a vs h => f.tup a vs (e.tup a vs h)
  fzl := fun a vs h => f.fzl a vs (e.fzl a vs h)
  frm := fun a o n h => by
    refine f.frm a o (fun q => ?_) (e.frm a o n h)
    rw [e.new a q n] at h
    cases h
  new := fun a h n => by
    by_cases q : a ∈ m1
    · exact e.new a q n
    · have z := f.new a h q
      cases r : H a with
      | none => rfl
      | some o =>
        rw [e.frm a o n r] at z
        cases z
mutual
theorem RD.kp (e : Kp K m H m' H') : ∀ {d : D} {v : V}, RD K m H d v → RD K m' H' d v
  | _, _, .non => .non
  | _, _, .bl b => .bl b
  | _, _, .int i => .int i
  | _, _, .str x => .str x
  | _, _, .ty n => .ty n
  | _, _, .adr a => .adr a
  | _, _, .tup h r => .tup (e.tup _ _ h) (RDs.kp e r)
  | _, _, .rol h r => .rol (e.fzl _ _ h) (RDs.kp e r)
  | _, _, .ref h => .ref (e.pre _ _ h)
theorem RDs.kp (e : Kp K m H m' H') : ∀ {ds : List D} {vs : List V}, RDs K m H ds vs → RDs K m' H' ds vs
  | _, _, .nil => .nil
  | _, _, .cons h r => .cons (RD.kp e h) (RDs.kp e r)
end
theorem RD.mono (e : Ext K m H m' H') {d : D} {v : V} (r : RD K m H d v) : RD K m' H' d v := r.kp e.toKp
theorem RDs.mono (e : Ext K m H m' H') {ds : List D} {vs : List V} (r : RDs K m H ds vs) : RDs K m' H' ds vs := r.kp e.toKp
theorem RDs.len : ∀ {ds : List D} {vs : List V}, RDs K m H ds vs → ds.length = vs.length
  | _, _, .nil => rfl
  | _, _, .cons _ r => congrArg (· + 1) r.len
theorem RDs.get : ∀ {ds : List D} {vs : List V} {i : Nat} {d : D}, RDs K m H ds vs → ds[i]? = some d → ∃ v, vs[i]? = some v ∧ RD K m H d v
  | _, _, _, _, .nil, e => by simp at e
  | _, _, 0, _, .cons h _, e => by
    simp at e
    subst e
    exact ⟨_, rfl, h⟩
  | _, _, i + 1, d, .cons _ r, e => by
    obtain ⟨v, h1, h2⟩ := RDs.get (i := i) (d := d) r (by simpa using e)
    exact ⟨v, by simpa using h1, h2⟩
theorem RDs.append : ∀ {ds es : List D} {vs us : List V}, RDs K m H ds vs → RDs K m H es us → RDs K m H (ds ++ es) (vs ++ us)
  | _, _, _, _, .nil, s => s
  | _, _, _, _, .cons h r, s => .cons h (RDs.append r s)
theorem RDs.take : ∀ {ds : List D} {vs : List V} (n : Nat), RDs K m H ds vs → RDs K m H (ds.take n) (vs.take n)
  | _, _, 0, _ => .nil
  | _, _, _ + 1, .nil => .nil
  | _, _, n + 1, .cons h r => .cons h (RDs.take n r)
theorem RDs.drop : ∀ {ds : List D} {vs : List V} (n : Nat), RDs K m H ds vs → RDs K m H (ds.drop n) (vs.drop n)
  | _, _, 0, r => r
  | _, _, _ + 1, .nil => .nil
  | _, _, n + 1, .cons _ r => RDs.drop n r
theorem RDs.set {d : D} {v : V} (h : RD K m H d v) : ∀ {ds : List D} {vs : List V} (i : Nat), RDs K m H ds vs → RDs K m H (ds.set i d) (vs.set i v)
  | _, _, _, .nil => .nil
  | _, _, 0, .cons _ r => .cons h r
  | _, _, i + 1, .cons g r => .cons g (RDs.set h i r)
theorem RDs.erase : ∀ {ds : List D} {vs : List V} (i : Nat), RDs K m H ds vs → RDs K m H (ds.eraseIdx i) (vs.eraseIdx i)
  | _, _, _, .nil => .nil
  | _, _, 0, .cons _ r => r
  | _, _, i + 1, .cons g r => .cons g (RDs.erase i r)
theorem RDs.dropLast {ds : List D} {vs : List V} (r : RDs K m H ds vs) : RDs K m H ds.dropLast vs.dropLast := by
  rw [List.dropLast_eq_take, List.dropLast_eq_take, r.len]
  exact r.take _
theorem RDs.one {d : D} {vs : List V} (r : RDs K m H [d] vs) : ∃ v, vs = [v] ∧ RD K m H d v := by
  cases r with
  | cons h r =>
    cases r
    exact ⟨_, rfl, h⟩
theorem RDs.two {d e : D} {vs : List V} (r : RDs K m H [d, e] vs) : ∃ v u, vs = [v, u] ∧ RD K m H d v ∧ RD K m H e u := by
  cases r with
  | cons h r =>
    obtain ⟨u, rfl, h2⟩ := r.one
    exact ⟨_, _, rfl, h, h2⟩
theorem RDs.reverse {ds : List D} {vs : List V} (r : RDs K m H ds vs) : RDs K m H ds.reverse vs.reverse := by
  induction ds generalizing vs with
  | nil =>
    cases r
    exact .nil
  | cons d ds ih =>
    cases r with
    | cons h r =>
      rw [List.reverse_cons, List.reverse_cons]
      exact (ih r).append (.cons h .nil)
theorem RDs.ints : ∀ (ns : List Int), RDs K m H (ns.map D.int) (ns.map V.int)
  | [] => .nil
  | n :: r => .cons (.int n) (RDs.ints r)
/-- a cell and what stands at its address -/
def RC (K : PySem.W.Frag) (m : List Addr) (H : Hp) (a : Addr) : Cell → Prop
  | .lst ds => ∃ vs, H a = some (.lst vs) ∧ RDs K m H ds vs
structure SS (K : PySem.W.Frag) (m : List Addr) (st : Store) (H : Hp) : Prop where
  len : m.length = st.length
  nd : m.Nodup
  cel : ∀ (n : Nat) (c : Cell) (a : Addr), st[n]? = some c → m[n]? = some a → RC K m H a c
/-- the slots -/
structure SL (K : PySem.W.Frag) (m : List Addr) (H : Hp) (τ : Sl) (σ : L2.St) : Prop where
  len : τ.length = σ.length
  get : ∀ (i : Nat) (d : D), τ[i]? = some (some d) → ∃ v, σ[i]? = some (some v) ∧ RD K m H d v
theorem SL.mono {τ : Sl} {σ : L2.St} (s : SL K m H τ σ) (e : Ext K m H m' H') : SL K m' H' τ σ :=
  ⟨s.len, fun i d h => let ⟨v, h1, h2⟩ := s.get i d h; ⟨v, h1, h2.mono e⟩⟩
theorem SL.set {τ : Sl} {σ : L2.St} {d : D} {v : V} (s : SL K m H τ σ) (i : Nat) (r : RD K m H d v) : SL K m H (τ.set i (some d)) (σ.set i (some v)) := by
  refine ⟨by simpa using s.len, fun j e h => ?_⟩
  by_cases hj : i = j
  · subst hj
    by_cases hl : i < τ.length
    · rw [List.getElem?_set_self hl] at h
      simp only [Option.some.injEq] at h
      subst h
      exact ⟨v, by rw [List.getElem?_set_self (by rw [← s.len]; exact hl)], r⟩
    · rw [List.getElem?_eq_none (by simpa using hl)] at h
      cases h
  · rw [List.getElem?_set_ne hj] at h
    rw [List.getElem?_set_ne hj]
    exact s.get j e h
theorem SS.at {st : Store} {n : Nat} {c : Cell} (s : SS K m st H) (h : st[n]? = some c) : ∃ a, m[n]? = some a ∧ RC K m H a c := by
  have hl : n < m.length := by
    rw [s.len]
    exact (List.getElem?_eq_some_iff.mp h).1
  exact ⟨m[n], by simp, s.cel n c _ h (by simp)⟩
theorem sqT_new {p : Addr} {o : HO} (h : H p = none) {a : Addr} {vs : List V} (s : SqT K H a vs) : SqT K (upd H p o) a vs := by
  rcases s with (s | ⟨ob, s⟩) | s
  · exact .inl (.inl (by rw [upd_ne (ne_of_none s h)]; exact s))
  · exact .inl (.inr ⟨ob, by rw [upd_ne (ne_of_none s h)]; exact s⟩)
  · exact .inr s
theorem sqL_new {p : Addr} {o : HO} (h : H p = none) {a : Addr} {vs : List V} (s : SqL K H a vs) : SqL K (upd H p o) a vs := by
  rcases s with (s | ⟨ob, s⟩) | s
  · exact .inl (.inl (by rw [upd_ne (ne_of_none s h)]; exact s))
  · exact .inl (.inr ⟨ob, by rw [upd_ne (ne_of_none s h)]; exact s⟩)
  · exact .inr s
theorem sqL_ne {p a : Addr} {o : HO} {vs : List V} (h : a ≠ p) (s : SqL K H a vs) : SqL K (upd H p o) a vs := by
  rcases s with (s | ⟨ob, s⟩) | s
  · exact .inl (.inl (by rw [upd_ne h]; exact s))
  · exact .inl (.inr ⟨ob, by rw [upd_ne h]; exact s⟩)
  · exact .inr s
theorem RC.here {a : Addr} {c : Cell} (r : RC K m H a c) : ∃ o, H a = some o := by
  cases c with
  | lst ds =>
    obtain ⟨vs, h, _⟩ := r
    exact ⟨_, h⟩
/-- a new object that the store does not hold -/
theorem Ext.fresh {p : Addr} {o : HO} (h : H p = none) : Ext K m H m (upd H p o) :=
  ⟨⟨fun _ _ h => h, fun _ _ s => sqT_new h s, fun _ _ s => s.new h⟩, fun a ob _ q => by rw [upd_ne (ne_of_none q h)]; exact q, fun _ q n => absurd q n⟩
theorem RC.fresh {p a : Addr} {o : HO} {c : Cell} (h : H p = none) (r : RC K m H a c) : RC K m (upd H p o) a c := by
  cases c with
  | lst ds =>
    obtain ⟨vs, q, r⟩ := r
    exact ⟨vs, by rw [upd_ne (ne_of_none q h)]; exact q, r.mono (Ext.fresh h)⟩
theorem SS.fresh {p : Addr} {o : HO} {st : Store} (s : SS K m st H) (h : H p = none) : SS K m st (upd H p o) :=
  ⟨s.len, s.nd, fun n c a h1 h2 => (s.cel n c a h1 h2).fresh h⟩
/-- a new object of the store's -/
theorem Ext.app {p : Addr} {o : HO} (h : H p = none) : Ext K m H (m ++ [p]) (upd H p o) where
  pre := fun n a q => by
    rw [List.getElem?_append_left (List.getElem?_eq_some_iff.mp q).1]
    exact q
  tup := fun _ _ s => sqT_new h s
  fzl := fun _ _ s => s.new h
  frm := fun a ob _ q => by rw [upd_ne (ne_of_none q h)]; exact q
  new := fun a q n => by
    rcases List.mem_append.mp q with q | q
    · exact absurd q n
    · have e : a = p := by simpa using q
      rw [e]
      exact h
theorem Ext.grow {p : Addr} : (H p = none) → Ext K m H (m ++ [p]) H := fun h => {
  pre := fun n a q => by
    rw [List.getElem?_append_left (List.getElem?_eq_some_iff.mp q).1]
    exact q
  tup := fun _ _ s => s
  fzl := fun _ _ s => s
  frm := fun a ob _ q => q
  new := fun a q n => by
    rcases List.mem_append.mp q with q | q
    · exact absurd q n
    · have e : a = p := by simpa using q
      rw [e]
      exact h }
theorem RC.kp {a : Addr} {c : Cell} (r : RC K m H a c) (e : Kp K m H m' H') (h : ∀ o, H a = some o → H' a = some o) : RC K m' H' a c := by
  cases c with
  | lst ds =>
    obtain ⟨vs, q, r⟩ := r
    exact ⟨vs, h _ q, r.kp e⟩
theorem Kp.grow {p : Addr} : Kp K m H (m ++ [p]) H := ⟨fun n a q => by
    rw [List.getElem?_append_left (List.getElem?_eq_some_iff.mp q).1]
    exact q, fun _ _ s => s, fun _ _ s => s⟩
/-- an object that is there becomes the store's -/
theorem SS.grow {p : Addr} {c : Cell} {st : Store} (s : SS K m st H) (hp : p ∉ m) (r : RC K (m ++ [p]) H p c) : SS K (m ++ [p]) (st ++ [c]) H where
  len := by simp [s.len]
  nd := by
    rw [List.nodup_append]
    refine ⟨s.nd, by simp, fun a h1 b h2 e => ?_⟩
    have e2 : b = p := by simpa using h2
    rw [e, e2] at h1
    exact hp h1
  cel := fun n d a h1 h2 => by
    by_cases hn : n < st.length
    · rw [List.getElem?_append_left hn] at h1
      rw [List.getElem?_append_left (by rw [s.len]; exact hn)] at h2
      exact (s.cel n d a h1 h2).kp Kp.grow fun _ q => q
    · have hl : n < (st ++ [c]).length := (List.getElem?_eq_some_iff.mp h1).1
      have e : n = st.length := by
        rw [List.length_append, List.length_singleton] at hl
        omega
      subst e
      have e1 : c = d := by simpa using h1
      have e2 : p = a := by
        rw [← s.len] at h2
        simpa using h2
      rw [← e1, ← e2]
      exact r
theorem SS.notin {st : Store} {p : Addr} (s : SS K m st H) (h : H p = none) : p ∉ m := fun q => by
  obtain ⟨n, e⟩ := List.getElem?_of_mem q
  have hl : n < st.length := by
    rw [← s.len]
    exact (List.getElem?_eq_some_iff.mp e).1
  obtain ⟨o, z⟩ := (s.cel n st[n] p (by simp) e).here
  rw [h] at z
  cases z
/-- a list is written -/
theorem Kp.write {p : Addr} {xs : List V} {o : HO} (h : H p = some (.lst xs)) : Kp K m H m (upd H p o) where
  pre := fun _ _ q => q
  tup := fun a vs s => by
    rcases s with (s | ⟨ob, s⟩) | s
    · exact .inl (.inl (by rw [upd_ne (fun e => by rw [e, h] at s; cases s)]; exact s))
    · exact .inl (.inr ⟨ob, by rw [upd_ne (fun e => by rw [e, h] at s; cases s)]; exact s⟩)
    · exact .inr s
  fzl := fun a vs s => by
    rcases s with ⟨ob, s⟩ | s
    · exact .inl ⟨ob, by rw [upd_ne (fun e => by rw [e, h] at s; cases s)]; exact s⟩
    · exact .inr s
/-- a list that is not the store's is written -/
theorem SS.other {st : Store} {p : Addr} {xs : List V} {o : HO} (s : SS K m st H) (h : H p = some (.lst xs)) (hp : p ∉ m) : SS K m st (upd H p o) :=
  ⟨s.len, s.nd, fun n c a h1 h2 => (s.cel n c a h1 h2).kp (Kp.write h) fun ob q => by rw [upd_ne (fun e : a = p => hp (by rw [← e]; exact List.mem_of_getElem? h2))]; exact q⟩
/-- a list of the store's is written -/
theorem Ext.write {n : Nat} {p : Addr} {xs : List V} {o : HO} (h : H p = some (.lst xs)) (hn : m[n]? = some p) : Ext K m H m (upd H p o) :=
  { Kp.write h with
    frm := fun a ob q z => by rw [upd_ne (fun e : a = p => q (by rw [e]; exact List.mem_of_getElem? hn))]; exact z
    new := fun a q n => absurd q n }
theorem SS.write {st : Store} {n : Nat} {p : Addr} {xs ys : List V} {ds : List D} (s : SS K m st H) (h : H p = some (.lst xs)) (hn : m[n]? = some p) (r : RDs K m H ds ys) : SS K m (st.set n (.lst ds)) (upd H p (.lst ys)) where
  len := by rw [List.length_set]; exact s.len
  nd := s.nd
  cel := fun i c a h1 h2 => by
    by_cases hi : n = i
    · subst hi
      rw [hn] at h2
      cases h2
      have hl : n < st.length := by
        rw [← s.len]
        exact (List.getElem?_eq_some_iff.mp hn).1
      rw [List.getElem?_set_self hl] at h1
      cases h1
      exact ⟨ys, upd_same, r.kp (Kp.write h)⟩
    · rw [List.getElem?_set_ne hi] at h1
      refine (s.cel i c a h1 h2).kp (Kp.write h) fun ob q => ?_
      rw [upd_ne fun e => hi ?_]
      · exact q
      · subst e
        obtain ⟨l1, e1⟩ := List.getElem?_eq_some_iff.mp hn
        obtain ⟨l2, e2⟩ := List.getElem?_eq_some_iff.mp h2
        exact (List.getElem_inj s.nd).mp (e1.trans e2.symm)
end
end HM

/-! HM, part 2: what an evaluation promises; expressions. -/
namespace HM
open PySem PySem.Spec PyProof.Rows L2

/-- an exception and how it flies -/
def XR (K : PySem.W.Frag) (m : List Addr) (H : Hp) (x : Xc) (c : Value) (d : Option Addr) : Prop := match x.cls with
  | .ty n => c = .type n ∧ x.fs = []
  | .adr a => c = .ref a ∧ (x.fs = [] ∨ ∃ da vs, d = some da ∧ H da = some (.xd vs) ∧ Paired (fun (p : Str × D) (q : Str × V) => p.1 = q.1 ∧ RD K m H p.2 q.2) x.fs vs)
  | _ => False
/-- behind an evaluation -/
def Pe {α β : Type} (K : PySem.W.Frag) (E : XK) (R : List Addr → Hp → α → β → Prop) (m : List Addr) (H : Hp) (r : ER α) (Q : β → Hp → Prop) : Prop := match r with
  | .ok a st => ∀ m' H' b, Ext K m H m' H' → SS K m' st H' → R m' H' a b → Q b H'
  | .exc x st => ∀ m' H' c d, Ext K m H m' H' → SS K m' st H' → XR K m' H' x c d → E c d H'
  | .bad => False
section
variable {α β γ δ : Type} {K : PySem.W.Frag} {E : XK} {R : List Addr → Hp → α → β → Prop} {S : List Addr → Hp → γ → δ → Prop} {m m1 : List Addr} {H H1 : Hp} {r : ER α} {Q : β → Hp → Prop}
theorem Pe.up (h : Pe K E R m H r Q) (e : Ext K m H m1 H1) : Pe K E R m1 H1 r Q := by
  cases r with
  | ok a st => exact fun m' H' b e' s q => h m' H' b (e.trans e') s q
  | exc x st => exact fun m' H' c d e' s q => h m' H' c d (e.trans e') s q
  | bad => exact h
theorem Pe.bind {k : α → Store → ER γ} {Q' : δ → Hp → Prop} (h : Pe K E S m H (r.bind k) Q')
    (hk : ∀ a st m' H' b, Ext K m H m' H' → SS K m' st H' → R m' H' a b → Pe K E S m' H' (k a st) Q' → Q b H') : Pe K E R m H r Q := by
  cases r with
  | ok a st => exact fun m' H' b e s q => hk a st m' H' b e s q (Pe.up h e)
  | exc x st => exact h
  | bad => exact h
theorem Pe.now {a : α} {st : Store} {b : β} (h : Pe K E R m H (.ok a st) Q) (s : SS K m st H) (q : R m H a b) : Q b H := h m H b .refl s q
theorem Pe.imp {Q' : β → Hp → Prop} (h : Pe K E R m H r Q) (hQ : ∀ b H, Q b H → Q' b H) : Pe K E R m H r Q' := by
  cases r with
  | ok a st => exact fun m' H' b e s q => hQ _ _ (h m' H' b e s q)
  | exc x st => exact h
  | bad => exact h
end
abbrev RB : List Addr → Hp → Bool → Bool → Prop := fun _ _ a b => a = b

/-! ### judgements -/
def wE (X : Cx) (e : Expr) : TE := fun σ H Q => ∀ (pins : List (Addr × Obj)) (s : Shared), Inv X pins σ H s → wpAny (model X.prog X.w) X.A (eval e X.env) (EP X pins σ Q) X.xe s
def wT (X : Cx) (e : Expr) : TT := fun σ H Q => ∀ (pins : List (Addr × Obj)) (s : Shared), Inv X pins σ H s → wpAny (model X.prog X.w) X.A (isTrue e X.env (eval e X.env)) (TP X pins σ Q) X.xe s
def wW (X : Cx) (e : Expr) : TT := fun σ H Q => ∀ (whole : Sem Value) (pins : List (Addr × Obj)) (s : Shared), Inv X pins σ H s → wpAny (model X.prog X.w) X.A (isTrue e X.env whole) (TP X pins σ Q) X.xe s
def wA (X : Cx) (es : List Expr) : TA := fun σ H Q => ∀ (pos : Pos) (pins : List (Addr × Obj)) (s : Shared), Inv X pins σ H s → wpAny (model X.prog X.w) X.A (spliced (backTo pos (starEach es X.env))) (AP X pins σ Q) X.xe s
theorem peW {X : Cx} {e : Expr} : PE X e (wE X e) := ⟨fun pins s σ H Q I h => h pins s I⟩
theorem ptW {X : Cx} {e : Expr} : PT X e (wT X e) := ⟨fun pins s σ H Q I h => h pins s I⟩
theorem pwW {X : Cx} {e : Expr} : PW X e (wW X e) := ⟨fun wh pins s σ H Q I h => h wh pins s I⟩
theorem paW {X : Cx} {es : List Expr} : PA X es (wA X es) := ⟨fun pos pins s σ H Q I h => h pos pins s I⟩
/-- an expression -/
structure Ex (X : Cx) (W : WX) (e : Expr) (f : EM D) : Prop where
  run : ∀ (m : List Addr) (τ : Sl) (st : Store) (σ : L2.St) (H : Hp) (Q : VK), SL X.K m H τ σ → SS X.K m st H → Pe X.K (fun c d H' => W c d σ H') (RD X.K) m H (f τ st) Q → wE X e σ H Q
/-- a test -/
structure Et (X : Cx) (W : WX) (e : Expr) (f : EM Bool) : Prop where
  run : ∀ (m : List Addr) (τ : Sl) (st : Store) (σ : L2.St) (H : Hp) (Q : Bool → Hp → Prop), SL X.K m H τ σ → SS X.K m st H → Pe X.K (fun c d H' => W c d σ H') RB m H (f τ st) Q → wT X e σ H Q
/-- a test whatever its whole is -/
structure Ew (X : Cx) (W : WX) (e : Expr) (f : EM Bool) : Prop where
  run : ∀ (m : List Addr) (τ : Sl) (st : Store) (σ : L2.St) (H : Hp) (Q : Bool → Hp → Prop), SL X.K m H τ σ → SS X.K m st H → Pe X.K (fun c d H' => W c d σ H') RB m H (f τ st) Q → wW X e σ H Q
/-- arguments -/
structure Ea (X : Cx) (W : WX) (es : List Expr) (f : EM (List D)) : Prop where
  run : ∀ (m : List Addr) (τ : Sl) (st : Store) (σ : L2.St) (H : Hp) (Q : List V → Hp → Prop), SL X.K m H τ σ → SS X.K m st H → Pe X.K (fun c d H' => W c d σ H') (RDs X.K) m H (f τ st) Q → wA X es σ H Q
section
variable {X : Cx} {W : WX} {e a b c : Expr} {es rest : List Expr} {pos : Pos} {f fa fb fc : EM D} {fs : EM (List D)} {g : EM Bool}
theorem Ex.le {f' : EM D} (h : Ex X W e f) (hl : ∀ (m : List Addr) (τ : Sl) (st : Store) (H : Hp) (E : XK) (Q : VK), SS X.K m st H → Pe X.K E (RD X.K) m H (f' τ st) Q → Pe X.K E (RD X.K) m H (f τ st) Q) : Ex X W e f' :=
  ⟨fun m τ st σ H Q hL hS hP => h.run m τ st σ H Q hL hS (hl m τ st H _ Q hS hP)⟩

/-! ### names, constants -/
def eVar (i : Nat) : EM D := fun τ st => match τ[i]? with
  | some (some d) => .ok d st
  | _ => .bad
theorem ex_var {i : Nat} {x : Str} (hN : X.N[i]? = some x) (hv : Vis X.env.scope x) (hd : (x == ("__debug__" : Str)) = false := by decide) (hcd : (x == ("__classdict__" : Str)) = false := by decide) : Ex X W (.Name x pos) (eVar i) := by
  refine ⟨fun m τ st σ H Q hL hS hP pins s I => ?_⟩
  refine (pe_var hN hv hd hcd).run pins s σ H Q I ?_
  unfold eVar at hP
  split at hP
  · rename_i d hd
    obtain ⟨v, h1, h2⟩ := hL.get i d hd
    exact ⟨v, h1, hP.now hS h2⟩
  · exact hP.elim
theorem xv (i : Nat) {x : Str} (hN : X.N[i]? = some x := by rfl) (hv : Vis X.env.scope x := by first | exact Or.inl rfl | exact Or.inr (Or.inl rfl) | exact Or.inr (Or.inr rfl)) (hd : (x == ("__debug__" : Str)) = false := by decide)
    (hcd : (x == ("__classdict__" : Str)) = false := by decide) : Ex X W (.Name x pos) (eVar i) := ex_var hN hv hd hcd
def eC (d : D) : EM D := fun _ st => .ok d st
theorem ex_c {t : TE} {d : D} {v : V} (h : PE X e t) (ht : ∀ σ H Q, Q v H → t σ H Q) (r : ∀ m H, RD X.K m H d v) : Ex X W e (eC d) :=
  ⟨fun m τ st σ H Q hL hS hP pins s I => h.run pins s σ H Q I (ht _ _ _ (hP.now hS (r m H)))⟩
theorem ex_int {i j} : Ex X W (.Constant (.int i) j pos) (eC (.int i)) := ex_c pe_int (fun _ _ _ h => h) fun _ _ => .int i
theorem ex_bl {i j} : Ex X W (.Constant (.bool i) j pos) (eC (.bl i)) := ex_c pe_bl (fun _ _ _ h => h) fun _ _ => .bl i
theorem ex_non {j} : Ex X W (.Constant .none j pos) (eC .non) := ex_c pe_non (fun _ _ _ h => h) fun _ _ => .non
theorem ex_str {x : Str} {j} : Ex X W (.Constant (.str x) j pos) (eC (.str x.cps.toList)) := ex_c pe_str (fun _ _ _ h => h) fun _ _ => by
  have e : x = ⟨x.cps.toList.toArray⟩ := by simp
  exact e ▸ .str x.cps.toList
theorem ex_strc {x : Str} {j} (l : List Nat) (h : x.cps.toList = l) : Ex X W (.Constant (.str x) j pos) (eC (.str l)) := by
  subst h
  exact ex_str
/-- a module's constant -/
theorem ex_glob {x : Str} {v : V} {u : Value} {d : D} (hg : Gl X x) (hm : X.mg x = some u) (r : RelV v u) (rd : ∀ m H, RD X.K m H d v) (hd : (x == ("__debug__" : Str)) = false := by decide) : Ex X W (.Name x pos) (eC d) :=
  ex_c (pe_glob hg hm r hd) (fun _ _ _ h => h) rd
theorem ex_bltn {x : Str} {v : V} {u : Value} {d : D} (hg : Gl X x) (hm : X.mg x = none) (hv : bootBuiltins x = some u) (r : RelV v u) (rd : ∀ m H, RD X.K m H d v) (hn : x ≠ "__name__" := by decide) (hd : (x == ("__debug__" : Str)) = false := by decide) : Ex X W (.Name x pos) (eC d) :=
  ex_c (pe_bltn hg hm hv r hn hd) (fun _ _ _ h => h) rd

/-! ### operators -/
abbrev O1 := D → Store → ER D
abbrev O2 := D → D → Store → ER D
/-- a rule by values -/
def OpM (X : Cx) (W : WX) (f : Value → Value → Sem Value) (g : O2) : Prop :=
  ∀ (m : List Addr) (st : Store) (σ : L2.St) (H : Hp) (dx dy : D) (x y : V) (Q : VK), SS X.K m st H → RD X.K m H dx x → RD X.K m H dy y → Pe X.K (fun c d H' => W c d σ H') (RD X.K) m H (g dx dy st) Q →
    ∀ (pins : List (Addr × Obj)) (s : Shared) (v u : Value), Inv X pins σ H s → RelV x v → RelV y u → wpAny (model X.prog X.w) X.A (f v u) (EP X pins σ Q) X.xe s
theorem OpM.opr {F : Value → Value → Sem Value} {g : O2} (h : OpM X W F g) : OpR X F (fun x y H Q => ∀ (pins : List (Addr × Obj)) (s : Shared) (σ : L2.St) (v u : Value), Inv X pins σ H s → RelV x v → RelV y u → wpAny (model X.prog X.w) X.A (F v u) (EP X pins σ Q) X.xe s) :=
  fun pins s σ H x y v u Q I rx ry z => z pins s σ v u I rx ry
def eBin (g : O2) (fa fb : EM D) : EM D := fun τ st => (fa τ st).bind fun x s1 => (fb τ s1).bind fun y s2 => g x y s2
def wR2 (X : Cx) (f : Value → Value → Sem Value) (σ : L2.St) : R2 := fun x y H Q => ∀ (pins : List (Addr × Obj)) (s : Shared) (v u : Value), Inv X pins σ H s → RelV x v → RelV y u → wpAny (model X.prog X.w) X.A (f v u) (EP X pins σ Q) X.xe s
/-- two expressions in a row -/
theorem two {g : D → D → Store → ER α} {α' : Type} {RA : List Addr → Hp → α → α' → Prop} {Q : α' → Hp → Prop} (ha : Ex X W a fa) (hb : Ex X W b fb) {m : List Addr} {τ : Sl} {st : Store} {σ : L2.St} {H : Hp} (hL : SL X.K m H τ σ) (hS : SS X.K m st H)
    (hP : Pe X.K (fun c d H' => W c d σ H') RA m H ((fa τ st).bind fun x s1 => (fb τ s1).bind fun y s2 => g x y s2) Q) {R : V → V → Hp → Prop}
    (hk : ∀ (m2 : List Addr) (st2 : Store) (H2 : Hp) (dx dy : D) (x y : V), Ext X.K m H m2 H2 → SS X.K m2 st2 H2 → RD X.K m2 H2 dx x → RD X.K m2 H2 dy y → Pe X.K (fun c d H' => W c d σ H') RA m2 H2 (g dx dy st2) Q → R x y H2) :
    wE X a σ H fun x H1 => wE X b σ H1 fun y H2 => R x y H2 :=
  ha.run m τ st σ H _ hL hS (hP.bind fun dx s1 m1 H1 x e1 hS1 r1 hP1 => hb.run m1 τ s1 σ H1 _ (hL.mono e1) hS1 (hP1.bind fun dy s2 m2 H2 y e2 hS2 r2 hP2 => hk m2 s2 H2 dx dy x y (e1.trans e2) hS2 (r1.mono e2) r2 hP2))
theorem ex_op {op : Operator} {g : O2} (ho : OpM X W (binaryOp op) g) (ha : Ex X W a fa) (hb : Ex X W b fb) : Ex X W (.BinOp a op b pos) (eBin g fa fb) := by
  refine ⟨fun m τ st σ H Q hL hS hP pins s I => ?_⟩
  refine wpAny_BinOp (binT peW peW I (R := fun x y H2 => wR2 X (binaryOp op) σ x y H2 Q) (two ha hb hL hS hP fun m2 st2 H2 dx dy x y e2 hS2 r1 r2 hP2 pins s v u I rx ry => ho m2 st2 σ H2 dx dy x y Q hS2 r1 r2 hP2 pins s v u I rx ry) fun v u s2 x y H2 I2 rx ry q => q pins s2 v u I2 rx ry)
end
end HM

/-! HM, part 3: operators by values. -/
namespace HM
open PySem PySem.Spec PyProof.Rows L2
section
variable {X : Cx} {W : WX}
theorem opm_of {f : Value → Value → Sem Value} {r : R2} {g : O2} (hr : OpR X f r) (h : ∀ (m : List Addr) (st : Store) (H : Hp) (dx dy : D) (x y : V) (E : XK) (Q : VK), SS X.K m st H → RD X.K m H dx x → RD X.K m H dy y → Pe X.K E (RD X.K) m H (g dx dy st) Q → r x y H Q) : OpM X W f g :=
  fun m st σ H dx dy x y Q hS r1 r2 hP pins s v u I rx ry => hr pins s σ H x y v u Q I rx ry (h m st H dx dy x y _ Q hS r1 r2 hP)
end
section
variable {K : PySem.W.Frag} {E : XK} {m : List Addr} {st : Store} {H : Hp} {Q : VK}
/-- a new tuple -/
theorem Pe.tup {ds : List D} {vs : List V} (h : Pe K E (RD K) m H (.ok (.tup ds) st) Q) (s : SS K m st H) (r : RDs K m H ds vs) : ∀ p, H p = none → Q (.ref p) (upd H p (.tup vs)) := fun p hp =>
  h m _ _ (Ext.fresh hp) (s.fresh hp) (.tup (SqT.of upd_same) (r.mono (Ext.fresh hp)))
/-- a new list of the store's -/
theorem SS.app {c : Cell} {p : Addr} {o : HO} (s : SS K m st H) (hp : H p = none) (r : RC K (m ++ [p]) (upd H p o) p c) : SS K (m ++ [p]) (st ++ [c]) (upd H p o) :=
  (s.fresh hp).grow (s.notin hp) r
theorem Pe.lst {ds : List D} {vs : List V} (h : Pe K E (RD K) m H (.ok (.ref st.length) (st ++ [.lst ds])) Q) (s : SS K m st H) (r : RDs K m H ds vs) : ∀ p, H p = none → Q (.ref p) (upd H p (.lst vs)) := fun p hp => by
  refine h (m ++ [p]) _ _ (Ext.app hp) (s.app hp ⟨vs, upd_same, r.mono (Ext.app hp)⟩) (.ref ?_)
  rw [← s.len]
  simp
end
/-- the items of a list -/
def lstAt (st : Store) (n : Nat) : Option (List D) := match st[n]? with
  | some (.lst xs) => some xs
  | none => none
@[simp] theorem lstAt_app {st : Store} {xs : List D} : lstAt (st ++ [.lst xs]) st.length = some xs := by simp [lstAt]
theorem lstAt_left {st more : Store} {n : Nat} (h : n < st.length) : lstAt (st ++ more) n = lstAt st n := by
  unfold lstAt
  rw [List.getElem?_append_left h]
theorem SS.list {K : PySem.W.Frag} {m : List Addr} {st : Store} {H : Hp} {n : Nat} {xs : List D} {a : Addr} (s : SS K m st H) (h : lstAt st n = some xs) (e : m[n]? = some a) : ∃ vs, H a = some (.lst vs) ∧ RDs K m H xs vs := by
  unfold lstAt at h
  split at h
  · rename_i ys q
    cases h
    exact s.cel n _ a q e
  · cases h
theorem lstAt_lt {st : Store} {n : Nat} {xs : List D} (h : lstAt st n = some xs) : n < st.length := by
  unfold lstAt at h
  split at h
  · rename_i q
    exact (List.getElem?_eq_some_iff.mp q).1
  · cases h

/-! ### arithmetic -/
def oAdd : O2 := fun x y st => match x, y with
  | .int i, .int j => .ok (.int (i + j)) st
  | .str a, .str b => if a.length + b.length ≤ 16777216 then .ok (.str (a ++ b)) st else .bad
  | .tup a, .tup b => if a.length + b.length ≤ 16777216 then .ok (.tup (a ++ b)) st else .bad
  | .ref a, .ref b => match lstAt st a, lstAt st b with
    | some xs, some ys => if xs.length + ys.length ≤ 16777216 then .ok (.ref st.length) (st ++ [.lst (xs ++ ys)]) else .bad
    | _, _ => .bad
  | _, _ => .bad
def oInt (g : Int → Int → Int) : O2 := fun x y st => match x, y with
  | .int i, .int j => .ok (.int (g i j)) st
  | _, _ => .bad
def oIntC (C : Int → Int → Bool) (g : Int → Int → Int) : O2 := fun x y st => match x, y with
  | .int i, .int j => if C i j then .ok (.int (g i j)) st else .bad
  | _, _ => .bad
abbrev oSub : O2 := oInt fun i j => i - j
def oIAdd : O2 := fun x y st => match x, y with
  | .int i, .int j => .ok (.int (i + j)) st
  | .str a, .str b => if a.length + b.length ≤ 16777216 then .ok (.str (a ++ b)) st else .bad
  | _, _ => .bad
def okMul (i j : Int) : Bool := decide ((i.natAbs < 18446744073709551616 ∨ j.natAbs < 18446744073709551616) ∨ i.natAbs.log2 + j.natAbs.log2 < 1000000)
def okDiv (_ j : Int) : Bool := decide (j ≠ 0 ∧ j.natAbs.log2 < 9000)
def okMod (_ j : Int) : Bool := decide (j ≠ 0)
def okPow (i j : Int) : Bool := decide (0 ≤ j ∧ j ≤ 1000000 ∧ i.natAbs < 18446744073709551616)
def okShr (_ j : Int) : Bool := decide (0 ≤ j)
abbrev oMulI : O2 := oIntC okMul fun i j => i * j
abbrev oDiv : O2 := oIntC okDiv fun i j => i.fdiv j
abbrev oMod : O2 := oIntC okMod fun i j => i.fmod j
abbrev oPow : O2 := oIntC okPow fun i j => i ^ j.toNat
abbrev oShl : O2 := oIntC okPow fun i j => i * 2 ^ j.toNat
abbrev oShr : O2 := oIntC okShr fun i j => i / 2 ^ j.toNat
abbrev oAnd : O2 := oInt Builtin.bitAnd
section
variable {X : Cx} {W : WX}
theorem line_of {n : Nat} (h : n ≤ 16777216) : n ≤ sizeLine := by
  rw [PySem.sizeLine_eq]
  exact h
theorem op_add_all : OpR X (binaryOp .Add) (fun x y H Q => (rI0 (fun i j => .int (i + j)) x y H Q ∨ (∃ i j, x = .str i ∧ y = .str j ∧ i.length + j.length ≤ sizeLine ∧ Q (.str (i ++ j)) H)) ∨ (rCatA X.K x y H Q ∨ rCat x y H Q)) :=
  (op_add.or op_add_str).or (op_catA.or op_cat)
theorem m_add : OpM X W (binaryOp .Add) oAdd := opm_of op_add_all fun m st H dx dy x y E Q hS r1 r2 hP => by
  unfold oAdd at hP
  split at hP
  · cases r1
    cases r2
    exact .inl (.inl ⟨_, _, rfl, rfl, hP.now hS (.int _)⟩)
  · split at hP
    · rename_i hl
      cases r1
      cases r2
      refine .inl (.inr ⟨_, _, rfl, rfl, line_of hl, ?_⟩)
      have q := hP.now hS (.str _)
      have e : ∀ a b : List Nat, (⟨(a ++ b).toArray⟩ : PySem.Str) = (⟨a.toArray⟩ : PySem.Str) ++ (⟨b.toArray⟩ : PySem.Str) := fun a b => by
        show (⟨(a ++ b).toArray⟩ : PySem.Str) = ⟨a.toArray ++ b.toArray⟩
        simp
      rw [e] at q
      exact q
    · exact hP.elim
  · split at hP
    · rename_i a b hl
      cases r1 with
      | tup s1 h1 =>
        rename_i va
        cases r2 with
        | tup s2 h2 =>
          rename_i vb
          refine .inr (.inl ⟨_, _, _, _, rfl, rfl, s1, s2, line_of (by rw [← h1.len, ← h2.len]; exact hl), fun e => ?_, fun _ e => ?_, fun _ _ => ?_⟩)
          · subst e
            cases h1
            exact hP.now hS (.tup s2 h2)
          · subst e
            cases h2
            rw [List.append_nil] at hP
            exact hP.now hS (.tup s1 h1)
          · exact hP.tup hS (h1.append h2)
    · exact hP.elim
  · rename_i a b
    split at hP
    · rename_i xs ys ex ey
      split at hP
      · rename_i hl
        cases r1 with
        | ref e1 =>
          cases r2 with
          | ref e2 =>
            obtain ⟨va, ha, ra⟩ := hS.list ex e1
            obtain ⟨vb, hb, rb⟩ := hS.list ey e2
            exact .inr (.inr ⟨_, _, va, vb, rfl, rfl, ha, hb, line_of (by rw [← ra.len, ← rb.len]; exact hl), hP.lst hS (ra.append rb)⟩)
      · exact hP.elim
    · exact hP.elim
  · exact hP.elim
theorem m_int {f : Value → Value → Sem Value} {g : Int → Int → Int} (h : OpR X f (rI0 fun i j => .int (g i j))) : OpM X W f (oInt g) := opm_of h fun m st H dx dy x y E Q hS r1 r2 hP => by
  unfold oInt at hP
  split at hP
  · cases r1
    cases r2
    exact ⟨_, _, rfl, rfl, hP.now hS (.int _)⟩
  · exact hP.elim
theorem m_intC {f : Value → Value → Sem Value} {C : Int → Int → Bool} {C' : Int → Int → Prop} {g : Int → Int → Int} (h : OpR X f (rI C' fun i j => .int (g i j))) (hC : ∀ i j, C i j = true → C' i j) : OpM X W f (oIntC C g) := opm_of h fun m st H dx dy x y E Q hS r1 r2 hP => by
  unfold oIntC at hP
  split at hP
  · split at hP
    · rename_i hc
      cases r1
      cases r2
      exact ⟨_, _, rfl, rfl, hC _ _ hc, hP.now hS (.int _)⟩
    · exact hP.elim
  · exact hP.elim
theorem m_sub : OpM X W (binaryOp .Sub) oSub := m_int op_sub
theorem op_mulAny : OpR X (binaryOp .Mult) (rI IntMulOk fun i j => .int (i * j)) := opI fun _ _ _ _ _ _ _ hc q => mul_int q hc
theorem m_mulI : OpM X W (binaryOp .Mult) oMulI := m_intC op_mulAny fun i j h => by
  have q : (i.natAbs < 18446744073709551616 ∨ j.natAbs < 18446744073709551616) ∨ i.natAbs.log2 + j.natAbs.log2 < 1000000 := of_decide_eq_true h
  rcases q with (q | q) | q
  · exact CMul.ok (.inl (by omega))
  · exact CMul.ok (.inr (by omega))
  · exact CMulW.ok q
theorem op_fdivAny : OpR X (binaryOp .FloorDiv) (rI (fun _ j => j ≠ 0 ∧ j.natAbs.log2 < 9000) fun i j => .int (i.fdiv j)) := opI fun _ _ _ _ _ _ _ hc q => floordiv_int hc.1 q (.inl (PyProof.noPylong_of_log2 hc.2))
theorem m_div : OpM X W (binaryOp .FloorDiv) oDiv := m_intC op_fdivAny fun i j h => of_decide_eq_true h
theorem m_mod : OpM X W (binaryOp .Mod) oMod := m_intC op_modN fun i j h => of_decide_eq_true h
theorem ok_pow {i j : Int} (h : okPow i j = true) : CPow i j := by
  have q : 0 ≤ j ∧ j ≤ 1000000 ∧ i.natAbs < 18446744073709551616 := of_decide_eq_true h
  exact q
theorem m_pow : OpM X W (binaryOp .Pow) oPow := m_intC op_pow fun i j h => ok_pow h
theorem m_shl : OpM X W (binaryOp .LShift) oShl := m_intC op_shl fun i j h => ok_pow h
theorem m_shr : OpM X W (binaryOp .RShift) oShr := m_intC op_shr fun i j h => of_decide_eq_true h
theorem m_and : OpM X W (binaryOp .BitAnd) oAnd := m_int op_and
/-- in place -/
theorem mi_add : OpM X W (inplaceOp .Add) oIAdd := opm_of (iop_add.or iop_add_str) fun m st H dx dy x y E Q hS r1 r2 hP => by
  unfold oIAdd at hP
  split at hP
  · cases r1
    cases r2
    exact .inl ⟨_, _, rfl, rfl, hP.now hS (.int _)⟩
  · split at hP
    · rename_i hl
      cases r1
      cases r2
      refine .inr ⟨_, _, rfl, rfl, line_of hl, ?_⟩
      have q := hP.now hS (.str _)
      have e : ∀ a b : List Nat, (⟨(a ++ b).toArray⟩ : PySem.Str) = (⟨a.toArray⟩ : PySem.Str) ++ (⟨b.toArray⟩ : PySem.Str) := fun a b => by
        show (⟨(a ++ b).toArray⟩ : PySem.Str) = ⟨a.toArray ++ b.toArray⟩
        simp
      rw [e] at q
      exact q
    · exact hP.elim
  · exact hP.elim
theorem mi_sub : OpM X W (inplaceOp .Sub) oSub := m_int iop_sub
end

/-! ### == by what is data -/
def D.plain : Nat → D → Bool
  | _, .non => true
  | _, .int _ => true
  | _, .str x => x.all fun c => decide (c < 1114112)
  | 0, .tup _ => false
  | n + 1, .tup xs => xs.all (D.plain n)
  | _, _ => false
def D.toP : Nat → D → PyData
  | _, .int i => .int i
  | _, .str x => .str ⟨x.toArray⟩
  | n + 1, .tup xs => .tuple (xs.map (D.toP n))
  | _, .bl b => .bool b
  | _, _ => .none
theorem plain_all {K : PySem.W.Frag} {m : List Addr} {H : Hp} {n : Nat} (ih : ∀ (d : D) (v : V), d.plain n = true → RD K m H d v → Dp K H v (d.toP n) ∧ (d.toP n).canLay0 = true ∧ (d.toP n).depth ≤ n) : ∀ (ds : List D) (vs : List V), ds.all (D.plain n) = true → RDs K m H ds vs →
    DpAll K H vs (ds.map (D.toP n)) ∧ PyData.canLayAll0 (ds.map (D.toP n)) = true ∧ PyData.depthAll (ds.map (D.toP n)) ≤ n
  | [], _, _, r => by
    cases r
    exact ⟨.nil, by simp [PyData.canLayAll0], by simp [PyData.depthAll]⟩
  | d :: ds, _, h, r => by
    cases r with
    | cons r1 r2 =>
      rw [List.all_cons, Bool.and_eq_true] at h
      obtain ⟨a1, a2, a3⟩ := ih d _ h.1 r1
      obtain ⟨b1, b2, b3⟩ := plain_all ih ds _ h.2 r2
      refine ⟨.cons a1 b1, ?_, ?_⟩
      · simp only [List.map_cons, PyData.canLayAll0, a2, b2, Bool.and_self]
      · simp only [List.map_cons, PyData.depthAll]
        omega
theorem str_ok {x : List Nat} {n : Nat} (h : (x.all fun c => decide (c < 1114112)) = true) : ((D.str x).toP n).canLay0 = true := by
  have e : (D.str x).toP n = .str ⟨x.toArray⟩ := by cases n <;> rfl
  rw [e]
  simp only [PyData.canLay0, PyData.strOk]
  simpa using h
theorem plain_dp {K : PySem.W.Frag} {m : List Addr} {H : Hp} : ∀ (n : Nat) (d : D) (v : V), d.plain n = true → RD K m H d v → Dp K H v (d.toP n) ∧ (d.toP n).canLay0 = true ∧ (d.toP n).depth ≤ n := by
  intro n
  induction n with
  | zero =>
    intro d v h r
    cases r <;> simp [D.plain] at h
    · exact ⟨.non, by simp [D.toP, PyData.canLay0], by simp [D.toP, PyData.depth]⟩
    · exact ⟨.int _, by simp [D.toP, PyData.canLay0], by simp [D.toP, PyData.depth]⟩
    · exact ⟨.str _, str_ok (by simpa using h), by simp [D.toP, PyData.depth]⟩
  | succ n ih =>
    intro d v h r
    cases r with
    | non => exact ⟨.non, by simp [D.toP, PyData.canLay0], by simp [D.toP, PyData.depth]⟩
    | int i => exact ⟨.int _, by simp [D.toP, PyData.canLay0], by simp [D.toP, PyData.depth]⟩
    | str x => exact ⟨.str _, str_ok h, by simp [D.toP, PyData.depth]⟩
    | tup s rs =>
      rename_i a vs ds
      obtain ⟨b1, b2, b3⟩ := plain_all ih ds vs h rs
      refine ⟨.tup s b1, by simpa only [D.toP, PyData.canLay0] using b2, ?_⟩
      simp only [D.toP, PyData.depth]
      omega
    | _ => simp [D.plain] at h
theorem eqvAll_map {n : Nat} (ih : ∀ x y : D, x.plain n = true → y.plain n = true → PyData.eqv (x.toP n) (y.toP n) = decide (x = y)) : ∀ xs ys : List D, xs.all (D.plain n) = true → ys.all (D.plain n) = true → PyData.eqvAll (xs.map (D.toP n)) (ys.map (D.toP n)) = decide (xs = ys)
  | [], [], _, _ => by simp [PyData.eqvAll]
  | [], _ :: _, _, _ => by simp [PyData.eqvAll]
  | _ :: _, [], _, _ => by simp [PyData.eqvAll]
  | x :: xs, y :: ys, h1, h2 => by
    rw [List.all_cons, Bool.and_eq_true] at h1 h2
    simp only [List.map_cons, PyData.eqvAll, ih x y h1.1 h2.1, eqvAll_map ih xs ys h1.2 h2.2, List.cons.injEq, Bool.decide_and]
theorem eqv_plain : ∀ (n : Nat) (x y : D), x.plain n = true → y.plain n = true → PyData.eqv (x.toP n) (y.toP n) = decide (x = y) := by
  intro n
  induction n with
  | zero =>
    intro x y h1 h2
    cases x <;> simp [D.plain] at h1 <;> cases y <;> simp [D.plain] at h2 <;> simp [D.toP, PyData.eqv]
    all_goals first | rfl | (rw [Bool.eq_iff_iff]; simp)
  | succ n ih =>
    intro x y h1 h2
    cases x <;> simp only [D.plain, Bool.false_eq_true] at h1 <;> cases y <;> simp only [D.plain, Bool.false_eq_true] at h2 <;> first
      | (simp only [D.toP, PyData.eqv, D.tup.injEq]; exact eqvAll_map ih _ _ h1 h2)
      | (simp only [D.toP, PyData.eqv]; first | rfl | (rw [Bool.eq_iff_iff]; simp))
/-- a value as data that == compares: one by itself, or a list -/
def D.pd (st : Store) (d : D) : Option (D ⊕ List D) := match d with
  | .ref n => match lstAt st n with
    | some xs => if xs.all (D.plain 59) then some (.inr xs) else none
    | none => none
  | .rol xs => if xs.all (D.plain 59) then some (.inr xs) else none
  | d => if d.plain 60 then some (.inl d) else none
def pdP : D ⊕ List D → PyData
  | .inl d => d.toP 60
  | .inr xs => .list (xs.map (D.toP 59))
theorem pd_dp {K : PySem.W.Frag} {m : List Addr} {st : Store} {H : Hp} {d : D} {v : V} {p : D ⊕ List D} (s : SS K m st H) (h : d.pd st = some p) (r : RD K m H d v) : Dp K H v (pdP p) ∧ SeqAt.shaped (pdP p) = true := by
  have fin : ∀ {q : PyData}, q.canLay0 = true → q.depth ≤ 60 → SeqAt.shaped q = true := fun {q} h1 h2 => by
    unfold SeqAt.shaped
    rw [h1, Bool.true_and, decide_eq_true_eq]
    omega
  have one : ∀ {d : D}, RD K m H d v → d.plain 60 = true → Dp K H v (d.toP 60) ∧ SeqAt.shaped (d.toP 60) = true := fun {d} r h => by
    obtain ⟨a, b, c⟩ := plain_dp 60 d v h r
    exact ⟨a, fin b c⟩
  have lst : ∀ {xs : List D} {vs : List V} {a : Addr}, SqL K H a vs → RDs K m H xs vs → xs.all (D.plain 59) = true → Dp K H (.ref a) (.list (xs.map (D.toP 59))) ∧ SeqAt.shaped (.list (xs.map (D.toP 59))) = true := fun {xs vs a} hl rs h => by
    obtain ⟨a, b, c⟩ := plain_all (plain_dp 59) xs vs h rs
    refine ⟨.lst hl a, fin (by simpa only [PyData.canLay0] using b) ?_⟩
    simp only [PyData.depth]
    omega
  unfold D.pd at h
  split at h
  · split at h
    · split at h
      · rename_i n _ xs e ha
        cases h
        cases r with
        | ref q =>
          obtain ⟨vs, h1, h2⟩ := s.list e q
          exact lst (SqL.of h1) h2 ha
      · cases h
    · cases h
  · split at h
    · rename_i ha
      cases h
      cases r with
      | rol q rs => exact lst q.sq rs ha
    · cases h
  · split at h
    · rename_i ha
      cases h
      exact one r ha
    · cases h
theorem pd_ok {st : Store} {d : D} {p : D ⊕ List D} (h : d.pd st = some p) : (∃ e : D, p = .inl e ∧ e.plain 60 = true) ∨ ∃ xs : List D, p = .inr xs ∧ xs.all (D.plain 59) = true := by
  unfold D.pd at h
  split at h
  · split at h
    · split at h
      · cases h
        exact .inr ⟨_, rfl, by assumption⟩
      · cases h
    · cases h
  · split at h
    · cases h
      exact .inr ⟨_, rfl, by assumption⟩
    · cases h
  · split at h
    · cases h
      exact .inl ⟨_, rfl, by assumption⟩
    · cases h
theorem pd_eqv {st st' : Store} {d e : D} {p q : D ⊕ List D} (h : d.pd st = some p) (h' : e.pd st' = some q) : PyData.eqv (pdP p) (pdP q) = decide (p = q) := by
  rcases pd_ok h with ⟨x, rfl, hx⟩ | ⟨xs, rfl, hx⟩
  · rcases pd_ok h' with ⟨y, rfl, hy⟩ | ⟨ys, rfl, hy⟩
    · show PyData.eqv (x.toP 60) (y.toP 60) = _
      rw [eqv_plain 60 x y hx hy]
      simp
    · show PyData.eqv (x.toP 60) _ = _
      cases x <;> simp [D.plain] at hx <;> simp [D.toP, pdP, PyData.eqv]
  · rcases pd_ok h' with ⟨y, rfl, hy⟩ | ⟨ys, rfl, hy⟩
    · show PyData.eqv _ (y.toP 60) = _
      cases y <;> simp [D.plain] at hy <;> simp [D.toP, pdP, PyData.eqv]
    · show PyData.eqvAll (xs.map (D.toP 59)) (ys.map (D.toP 59)) = _
      rw [eqvAll_map (eqv_plain 59) xs ys hx hy]
      simp
def dEq (x y : D) (st : Store) : Option Bool := match x, y with
  | .str a, .str b => some (decide (a = b))
  | .bl a, .bl b => some (decide (a = b))
  | .int a, .int b => some (decide (a = b))
  | .bl a, .int b => some (decide ((if a then 1 else 0) = b))
  | .int a, .bl b => some (decide (a = (if b then 1 else 0)))
  | x, y => match x.pd st, y.pd st with
    | some p, some q => some (decide (p = q))
    | _, _ => none
def oEq : O2 := fun x y st => match dEq x y st with
  | some b => .ok (.bl b) st
  | none => .bad
def oNe : O2 := fun x y st => match dEq x y st with
  | some b => .ok (.bl !b) st
  | none => .bad
section
variable {X : Cx} {W : WX}
theorem m_eqB {op : CmpOp} {neg : Bool → Bool} {r1 r2 : R2} (h1 : OpR X (compareOp op) r1) (h2 : OpR X (compareOp op) r2) (s1 : ∀ x y H Q, scal x y = true → Q (.bl (neg (decide (x = y)))) H → r1 x y H Q)
    (s2 : ∀ x y H Q d e, Dp X.K H x d → Dp X.K H y e → SeqAt.shaped d = true → SeqAt.shaped e = true → Q (.bl (neg (PyData.eqv d e))) H → r2 x y H Q) : OpM X W (compareOp op) (fun x y st => match dEq x y st with
    | some b => .ok (.bl (neg b)) st
    | none => .bad) := opm_of (h1.or h2) fun m st H dx dy x y E Q hS ra rb hP => by
  split at hP
  · rename_i b hb
    have q := hP.now hS (.bl _)
    unfold dEq at hb
    split at hb
    · cases ra
      cases rb
      cases hb
      refine .inl (s1 _ _ _ _ rfl ?_)
      simpa using q
    · cases ra
      cases rb
      cases hb
      refine .inl (s1 _ _ _ _ rfl ?_)
      simpa using q
    · cases ra
      cases rb
      cases hb
      refine .inl (s1 _ _ _ _ rfl ?_)
      simpa using q
    · cases ra
      cases rb
      cases hb
      refine .inr (s2 _ _ _ _ _ _ (.bl _) (.int _) rfl rfl ?_)
      simpa [PyData.eqv, Bool.beq_eq_decide_eq] using q
    · cases ra
      cases rb
      cases hb
      refine .inr (s2 _ _ _ _ _ _ (.int _) (.bl _) rfl rfl ?_)
      simpa [PyData.eqv, Bool.beq_eq_decide_eq] using q
    · split at hb
      · rename_i p q' e1 e2
        cases hb
        obtain ⟨a1, a2⟩ := pd_dp hS e1 ra
        obtain ⟨b1, b2⟩ := pd_dp hS e2 rb
        refine .inr (s2 _ _ _ _ _ _ a1 b1 a2 b2 ?_)
        rw [pd_eqv e1 e2]
        exact q
      · cases hb
  · exact hP.elim
theorem m_eq (hu : X.A.units + 64 < cLine) : OpM X W (compareOp .Eq) oEq := m_eqB (neg := id) op_eq (op_eqD hu) (fun x y H Q h q => ⟨h, q⟩) fun x y H Q d e h1 h2 h3 h4 q => ⟨d, e, h1, h2, h3, h4, q⟩
theorem m_ne (hu : X.A.units + 64 < cLine) : OpM X W (compareOp .NotEq) oNe := m_eqB (neg := Bool.not) op_ne (op_neD hu) (fun x y H Q h q => ⟨h, q⟩) fun x y H Q d e h1 h2 h3 h4 q => ⟨d, e, h1, h2, h3, h4, q⟩
/-! ### order of ints, is -/
def oCmp (g : Int → Int → Bool) : O2 := fun x y st => match x, y with
  | .int i, .int j => .ok (.bl (g i j)) st
  | _, _ => .bad
theorem m_cmp {f : Value → Value → Sem Value} {g : Int → Int → Bool} (h : OpR X f (rI0 fun i j => .bl (g i j))) : OpM X W f (oCmp g) := opm_of h fun m st H dx dy x y E Q hS r1 r2 hP => by
  unfold oCmp at hP
  split at hP
  · cases r1
    cases r2
    exact ⟨_, _, rfl, rfl, hP.now hS (.bl _)⟩
  · exact hP.elim
abbrev oLt : O2 := oCmp fun i j => decide (i < j)
abbrev oLe : O2 := oCmp fun i j => decide (i ≤ j)
abbrev oGt : O2 := oCmp fun i j => decide (j < i)
abbrev oGe : O2 := oCmp fun i j => decide (j ≤ i)
theorem m_lt : OpM X W (compareOp .Lt) oLt := m_cmp op_lt
theorem m_le : OpM X W (compareOp .LtE) oLe := m_cmp op_le
theorem m_gt : OpM X W (compareOp .Gt) oGt := m_cmp op_gt
theorem m_ge : OpM X W (compareOp .GtE) oGe := m_cmp op_ge
def dIs (x y : D) : Option Bool := match x, y with
  | .non, .non => some true
  | .bl _, .non | .int _, .non | .str _, .non | .tup _, .non | .ref _, .non | .rol _, .non => some false
  | .bl a, .bl b => some (decide (a = b))
  | _, _ => none
def oIs : O2 := fun x y st => match dIs x y with
  | some b => .ok (.bl b) st
  | none => .bad
def oIsNot : O2 := fun x y st => match dIs x y with
  | some b => .ok (.bl !b) st
  | none => .bad
theorem m_isB {op : CmpOp} {neg : Bool → Bool} {r1 r2 : R2} (h1 : OpR X (compareOp op) r1) (h2 : OpR X (compareOp op) r2) (s1 : ∀ x H (Q : VK), Q (.bl (neg (decide (x = .non)))) H → r1 x .non H Q)
    (s2 : ∀ a b H (Q : VK), Q (.bl (neg (decide (a = b)))) H → r2 (.bl a) (.bl b) H Q) : OpM X W (compareOp op) (fun x y st => match dIs x y with
    | some b => .ok (.bl (neg b)) st
    | none => .bad) := opm_of (h1.or h2) fun m st H dx dy x y E Q hS ra rb hP => by
  split at hP
  · rename_i b hb
    have q := hP.now hS (.bl _)
    unfold dIs at hb
    split at hb <;> cases hb <;> cases ra <;> cases rb <;> first | exact .inl (s1 _ _ _ q) | exact .inr (s2 _ _ _ _ q)
  · exact hP.elim
theorem m_is : OpM X W (compareOp .Is) oIs := m_isB (neg := id) op_isN op_is_bl (fun x H Q q => ⟨rfl, q⟩) fun a b H Q q => ⟨_, _, rfl, rfl, q⟩
theorem m_isnot : OpM X W (compareOp .IsNot) oIsNot := m_isB (neg := Bool.not) op_notN op_isnot_bl (fun x H Q q => ⟨rfl, q⟩) fun a b H Q q => ⟨_, _, rfl, rfl, q⟩
end
end HM

/-! HM, part 4: expressions. -/
namespace HM
open PySem PySem.Spec PyProof.Rows L2
section
variable {X : Cx} {W : WX} {e a b c : Expr} {es rest : List Expr} {pos : Pos} {f fa fb fc : EM D} {fs : EM (List D)} {g ga gb : EM Bool}

/-! ### unary, comparisons -/
def eUn (o : O1) (fa : EM D) : EM D := fun τ st => (fa τ st).bind o
def UnM (X : Cx) (W : WX) (F : Value → Sem Value) (g : O1) : Prop :=
  ∀ (m : List Addr) (st : Store) (σ : L2.St) (H : Hp) (dx : D) (x : V) (Q : VK), SS X.K m st H → RD X.K m H dx x → Pe X.K (fun c d H' => W c d σ H') (RD X.K) m H (g dx st) Q →
    ∀ (pins : List (Addr × Obj)) (s : Shared) (v : Value), Inv X pins σ H s → RelV x v → wpAny (model X.prog X.w) X.A (F v) (EP X pins σ Q) X.xe s
theorem ex_un {op : UnaryOp} {o : O1} (ho : UnM X W (unaryOp op) o) (ha : Ex X W a fa) : Ex X W (.UnaryOp op a pos) (eUn o fa) := by
  refine ⟨fun m τ st σ H Q hL hS hP pins s I => ?_⟩
  refine UnaryOp_ (thn (ha.run m τ st σ H (fun x H1 => ∀ (pins : List (Addr × Obj)) (s : Shared) (v : Value), Inv X pins σ H1 s → RelV x v → wpAny (model X.prog X.w) X.A (unaryOp op v) (EP X pins σ Q) X.xe s) hL hS (hP.bind fun dx s1 m1 H1 x e1 hS1 r1 hP1 pins s v I rx => ho m1 s1 σ H1 dx x Q hS1 r1 hP1 pins s v I rx) pins s I) fun v s1 ⟨x, H1, I1, r1, q1⟩ => q1 pins s1 v I1 r1)
def oNeg : O1 := fun x st => match x with
  | .int i => .ok (.int (-i)) st
  | _ => .bad
theorem m_neg : UnM X W (unaryOp .USub) oNeg := fun m st σ H dx x Q hS r hP pins s v I rx => by
  unfold oNeg at hP
  split at hP
  · cases r
    exact un_neg pins s σ H _ v Q I rx ⟨_, rfl, hP.now hS (.int _)⟩
  · exact hP.elim
theorem ex_cmp {op : CmpOp} {o : O2} (ho : OpM X W (compareOp op) o) (ha : Ex X W a fa) (hb : Ex X W b fb) (hm : behindInMarks op b = false) : Ex X W (.Compare a [op] [b] pos) (eBin o fa fb) := by
  refine ⟨fun m τ st σ H Q hL hS hP pins s I => ?_⟩
  exact wpAny_Compare1 (binT peW peW I (R := fun x y H2 => wR2 X (compareOp op) σ x y H2 Q) (two ha hb hL hS hP fun m2 st2 H2 dx dy x y e2 hS2 r1 r2 hP2 pins s v u I rx ry => ho m2 st2 σ H2 dx dy x y Q hS2 r1 r2 hP2 pins s v u I rx ry) fun v u s2 x y H2 I2 rx ry q => q pins s2 v u I2 rx ry) hm
/-- a bool as a test -/
def dBl (x : D) (st : Store) : ER Bool := match x with
  | .bl b => .ok b st
  | _ => .bad
def tBl (fa : EM D) : EM Bool := fun τ st => (fa τ st).bind dBl
theorem bl_post {K : PySem.W.Frag} {E : XK} {m : List Addr} {H : Hp} {dx : D} {s1 : Store} {x : V} {Q : Bool → Hp → Prop} (hS : SS K m s1 H) (r : RD K m H dx x) (hP : Pe K E RB m H (dBl dx s1) Q) : ∃ k, x = .bl k ∧ Q k H := by
  unfold dBl at hP
  split at hP
  · cases r
    exact ⟨_, rfl, hP.now hS rfl⟩
  · exact hP.elim
theorem et_cmp {op : CmpOp} {o : O2} (ho : OpM X W (compareOp op) o) (ha : Ex X W a fa) (hb : Ex X W b fb) (hm : behindInMarks op b = false) : Et X W (.Compare a [op] [b] pos) (tBl (eBin o fa fb)) := by
  refine ⟨fun m τ st σ H Q hL hS hP pins s I => ?_⟩
  have q : wE X (.Compare a [op] [b] pos) σ H fun x H1 => ∃ k, x = .bl k ∧ Q k H1 := (ex_cmp ho ha hb hm).run m τ st σ H _ hL hS (hP.bind fun dx s1 m1 H1 x e1 hS1 r1 hP1 => bl_post hS1 r1 hP1)
  refine wpAny_isTrue_Compare1 (binT peW peW I (R := fun x y H2 => wR2 X (compareOp op) σ x y H2 fun x H1 => ∃ k, x = .bl k ∧ Q k H1) ?_ fun v u s2 x y H2 I2 rx ry q => thn (q pins s2 v u I2 rx ry) fun c s3 ⟨x, H1, I1, r1, q1⟩ => ?_) hm
  · have hP' : Pe X.K (fun c d H' => W c d σ H') (RD X.K) m H (eBin o fa fb τ st) fun x H1 => ∃ k, x = .bl k ∧ Q k H1 := hP.bind fun dx s1 m1 H1 x e1 hS1 r1 hP1 => bl_post hS1 r1 hP1
    exact two ha hb hL hS hP' fun m2 st2 H2 dx dy x y e2 hS2 r1 r2 hP2 pins s v u I rx ry => ho m2 st2 σ H2 dx dy x y _ hS2 r1 r2 hP2 pins s v u I rx ry
  · obtain ⟨k, rfl, q1⟩ := q1
    cases r1
    exact wpAny_truthy_bool ⟨H1, I1, q1⟩
/-- a chain of two comparisons -/
def eChain (o o' : O2) (fa fb fc : EM D) : EM D := fun τ st => (fa τ st).bind fun x s1 => (fb τ s1).bind fun y s2 => (o x y s2).bind fun z s3 => match z with
  | .bl true => (fc τ s3).bind fun w s4 => o' y w s4
  | .bl false => .ok (.bl false) s3
  | _ => .bad
theorem chain_read {op op' : CmpOp} {o o' : O2} (ho : OpM X W (compareOp op) o) (ho' : OpM X W (compareOp op') o') (ha : Ex X W a fa) (hb : Ex X W b fb) (hc : Ex X W c fc) {m : List Addr} {τ : Sl} {st : Store} {σ : L2.St} {H : Hp} {Q : VK} (hL : SL X.K m H τ σ) (hS : SS X.K m st H)
    (hP : Pe X.K (fun c d H' => W c d σ H') (RD X.K) m H (eChain o o' fa fb fc τ st) Q) : tChain (fun x y H Q => wR2 X (compareOp op) σ x y H Q) (fun x y H Q => wR2 X (compareOp op') σ x y H Q) (wE X a) (wE X b) (wE X c) σ H Q := by
  refine two ha hb hL hS hP fun m2 st2 H2 dx dy x y e2 hS2 r1 r2 hP2 pins s v u I rx ry => ?_
  refine ho m2 st2 σ H2 dx dy x y _ hS2 r1 r2 (hP2.bind fun dz s3 m3 H3 z e3 hS3 r3 hP3 => ?_) pins s v u I rx ry
  split at hP3
  · cases r3
    refine ⟨true, rfl, ?_⟩
    rw [if_pos rfl]
    exact hc.run m3 τ s3 σ H3 _ (hL.mono (e2.trans e3)) hS3 (hP3.bind fun dw s4 m4 H4 w e4 hS4 r4 hP4 pins s v u I rx ry => ho' m4 s4 σ H4 dy dw y w Q hS4 ((r2.mono e3).mono e4) r4 hP4 pins s v u I rx ry)
  · cases r3
    refine ⟨false, rfl, ?_⟩
    rw [if_neg Bool.false_ne_true]
    exact hP3.now hS3 (.bl _)
  · exact hP3.elim
/-- a rule of the layer's whose premises may speak of the slots at hand -/
theorem oprS {F : Value → Value → Sem Value} {σ : L2.St} : ∀ (pins : List (Addr × Obj)) (s : Shared) (H : Hp) (x y : V) (v u : Value) (Q : VK), Inv X pins σ H s → RelV x v → RelV y u → wR2 X F σ x y H Q → wpAny (model X.prog X.w) X.A (F v u) (EP X pins σ Q) X.xe s :=
  fun pins s H x y v u Q I rx ry q => q pins s v u I rx ry
theorem ex_chain {op op' : CmpOp} {o o' : O2} (ho : OpM X W (compareOp op) o) (ho' : OpM X W (compareOp op') o') (ha : Ex X W a fa) (hb : Ex X W b fb) (hc : Ex X W c fc) (hm : lastMarks [op, op'] [b, c] = false := by with_unfolding_all rfl) : Ex X W (.Compare a [op, op'] [b, c] pos) (eChain o o' fa fb fc) := by
  refine ⟨fun m τ st σ H Q hL hS hP pins s I => ?_⟩
  have h := chain_read ho ho' ha hb hc hL hS hP
  refine Compare_chain (thn (peW.run pins s σ H _ I h) fun v s1 ⟨x, H1, I1, r1, q1⟩ => chain_link (thn (peW.run pins s1 σ H1 _ I1 q1) fun u s2 ⟨y, H2, I2, r2, q2⟩ =>
    thn (q2 pins s2 v u I2 r1 r2) fun d s3 ⟨z, H3, I3, r3, k, e, q3⟩ => ?_)) hm
  subst e
  cases r3
  refine wpAny_truthy_bool ?_
  cases k with
  | false => exact ite_ff ⟨.bl false, H3, I3, rfl, q3⟩
  | true => exact ite_tt (chain_last (thn (peW.run pins s3 σ H3 _ I3 q3) fun w' s4 ⟨z', H4, I4, r4, q4⟩ => q4 pins s4 u w' I4 r2 r4))
theorem et_chain {op op' : CmpOp} {o o' : O2} (ho : OpM X W (compareOp op) o) (ho' : OpM X W (compareOp op') o') (ha : Ex X W a fa) (hb : Ex X W b fb) (hc : Ex X W c fc) (hm : lastMarks [op, op'] [b, c] = false := by with_unfolding_all rfl) : Et X W (.Compare a [op, op'] [b, c] pos) (tBl (eChain o o' fa fb fc)) := by
  refine ⟨fun m τ st σ H Q hL hS hP pins s I => ?_⟩
  have hP' : Pe X.K (fun c d H' => W c d σ H') (RD X.K) m H (eChain o o' fa fb fc τ st) fun x H1 => ∃ k, x = .bl k ∧ Q k H1 := hP.bind fun dx s1 m1 H1 x e1 hS1 r1 hP1 => bl_post hS1 r1 hP1
  have h := chain_read ho ho' ha hb hc hL hS hP'
  refine isTrue_chain (thn (peW.run pins s σ H _ I h) fun v s1 ⟨x, H1, I1, r1, q1⟩ => test_link (thn (peW.run pins s1 σ H1 _ I1 q1) fun u s2 ⟨y, H2, I2, r2, q2⟩ =>
    thn (q2 pins s2 v u I2 r1 r2) fun d s3 ⟨z, H3, I3, r3, k, e, q3⟩ => ?_)) hm
  subst e
  cases r3
  refine wpAny_truthy_bool ?_
  cases k with
  | false =>
    obtain ⟨k', e', q'⟩ := q3
    cases e'
    exact ite_ff ⟨H3, I3, q'⟩
  | true =>
    refine ite_tt (test_last (thn (peW.run pins s3 σ H3 _ I3 q3) fun w' s4 ⟨z', H4, I4, r4, q4⟩ => thn (q4 pins s4 u w' I4 r2 r4) fun d' s5 ⟨z2, H5, I5, r5, k2, e2, q5⟩ => ?_))
    subst e2
    cases r5
    exact wpAny_truthy_bool ⟨H5, I5, q5⟩

/-! ### tests -/
/-- a value's truth -/
def dTru (st : Store) : D → Option Bool
  | .non => some false
  | .bl b => some b
  | .int i => some (i != 0)
  | .str x => if x.length ≤ 16777216 then some (!x.isEmpty) else none
  | .tup xs => some (!xs.isEmpty)
  | .rol xs => some (!xs.isEmpty)
  | .ref n => (lstAt st n).map fun xs => !xs.isEmpty
  | _ => none
def tVal (fa : EM D) : EM Bool := fun τ st => (fa τ st).bind fun x s1 => match dTru s1 x with
  | some b => .ok b s1
  | none => .bad
theorem empty_of {K : PySem.W.Frag} {m : List Addr} {H : Hp} {ds : List D} {vs : List V} (r : RDs K m H ds vs) : ds.isEmpty = vs.isEmpty := by
  cases r <;> rfl
theorem tru_read {K : PySem.W.Frag} {m : List Addr} {st : Store} {H : Hp} {d : D} {v : V} {b : Bool} (s : SS K m st H) (h : dTru st d = some b) (r : RD K m H d v) : TruV K v H b := by
  cases r with
  | non =>
    cases h
    exact rfl
  | bl b =>
    cases h
    exact rfl
  | int i =>
    cases h
    exact rfl
  | str x =>
    have h : (if x.length ≤ 16777216 then some (!x.isEmpty) else none) = some b := h
    split at h
    · rename_i hl
      cases h
      refine ⟨line_of (by simpa [PySem.Str.length] using hl), ?_⟩
      cases x with
      | nil => rfl
      | cons c x =>
        have e : ((⟨(c :: x).toArray⟩ : PySem.Str).length : Int) ≠ 0 := by
          show (((c :: x).toArray.size : Nat) : Int) ≠ 0
          rw [List.size_toArray, List.length_cons]
          omega
        simp [PySem.Str.length]
        omega
    · cases h
  | tup q rs =>
    cases h
    exact .inr (.inl ⟨_, q, by rw [empty_of rs]⟩)
  | rol q rs =>
    cases h
    exact .inl ⟨_, q.sq, by rw [empty_of rs]⟩
  | ref q =>
    unfold dTru at h
    simp only [Option.map_eq_some_iff] at h
    obtain ⟨xs, e, rfl⟩ := h
    obtain ⟨vs, h1, h2⟩ := s.list e q
    exact .inl ⟨vs, SqL.of h1, by rw [empty_of h2]⟩
  | _ => cases h
theorem et_val (ha : Ex X W a fa) (he : ∀ whole, isTrue a X.env whole = (do let v ← whole; standAt a.pos; holding [v] (truthy v)) := by intro _; rfl) : Et X W a (tVal fa) := by
  refine ⟨fun m τ st σ H Q hL hS hP pins s I => ?_⟩
  refine isTrue_plain (thn (ha.run m τ st σ H (fun x H' => ∃ k, TruV X.K x H' k ∧ Q k H') hL hS (hP.bind fun dx s1 m1 H1 x e1 hS1 r1 hP1 => ?_) pins s I) fun v s1 ⟨x, H1, I1, r1, q1⟩ => tru_ok pins s1 σ H1 x v Q I1 r1 q1) (he _)
  split at hP1
  · rename_i k hk
    exact ⟨k, tru_read hS1 hk r1, hP1.now hS1 rfl⟩
  · exact hP1.elim
def tAnd (ga gb : EM Bool) : EM Bool := fun τ st => (ga τ st).bind fun x s1 => if x then gb τ s1 else .ok false s1
def tOr (ga gb : EM Bool) : EM Bool := fun τ st => (ga τ st).bind fun x s1 => if x then .ok true s1 else gb τ s1
def tNot (ga : EM Bool) : EM Bool := fun τ st => (ga τ st).bind fun x s1 => .ok (!x) s1
theorem Ew.et (h : Ew X W e g) : Et X W e g := ⟨fun m τ st σ H Q hL hS hP pins s I => h.run m τ st σ H Q hL hS hP _ pins s I⟩
theorem ew_and1 (ha : Et X W a ga) : Ew X W (.BoolOp .And [a] pos) ga := ⟨fun m τ st σ H Q hL hS hP wh pins s I => (pw_and1 ptW).run wh pins s σ H Q I (ha.run m τ st σ H Q hL hS hP)⟩
theorem ew_or1 (ha : Et X W a ga) : Ew X W (.BoolOp .Or [a] pos) ga := ⟨fun m τ st σ H Q hL hS hP wh pins s I => (pw_or1 ptW).run wh pins s σ H Q I (ha.run m τ st σ H Q hL hS hP)⟩
theorem ew_and (ha : Et X W a ga) (hb : Ew X W (.BoolOp .And (b :: rest) pos) gb) : Ew X W (.BoolOp .And (a :: b :: rest) pos) (tAnd ga gb) := by
  refine ⟨fun m τ st σ H Q hL hS hP wh pins s I => (pw_and ptW pwW).run wh pins s σ H Q I ?_⟩
  refine ha.run m τ st σ H _ hL hS (hP.bind fun dx s1 m1 H1 x e1 hS1 r1 hP1 => ?_)
  subst r1
  cases dx with
  | true => exact iteT (hb.run m1 τ s1 σ H1 Q (hL.mono e1) hS1 hP1)
  | false => exact iteF (hP1.now hS1 rfl)
theorem ew_or (ha : Et X W a ga) (hb : Ew X W (.BoolOp .Or (b :: rest) pos) gb) : Ew X W (.BoolOp .Or (a :: b :: rest) pos) (tOr ga gb) := by
  refine ⟨fun m τ st σ H Q hL hS hP wh pins s I => (pw_or ptW pwW).run wh pins s σ H Q I ?_⟩
  refine ha.run m τ st σ H _ hL hS (hP.bind fun dx s1 m1 H1 x e1 hS1 r1 hP1 => ?_)
  subst r1
  cases dx with
  | true => exact iteT (hP1.now hS1 rfl)
  | false => exact iteF (hb.run m1 τ s1 σ H1 Q (hL.mono e1) hS1 hP1)
theorem et_not (ha : Et X W a ga) : Et X W (.UnaryOp .Not a pos) (tNot ga) := by
  refine ⟨fun m τ st σ H Q hL hS hP pins s I => (pt_not ptW).run pins s σ H Q I ?_⟩
  refine ha.run m τ st σ H _ hL hS (hP.bind fun dx s1 m1 H1 x e1 hS1 r1 hP1 => ?_)
  subst r1
  exact hP1.now hS1 rfl
/-! ### and, or, not as values -/
def eAnd (fa fb : EM D) : EM D := fun τ st => (fa τ st).bind fun x s1 => match dTru s1 x with
  | some true => fb τ s1
  | some false => .ok x s1
  | none => .bad
def eOr (fa fb : EM D) : EM D := fun τ st => (fa τ st).bind fun x s1 => match dTru s1 x with
  | some true => .ok x s1
  | some false => fb τ s1
  | none => .bad
def eNot (fa : EM D) : EM D := fun τ st => (fa τ st).bind fun x s1 => match dTru s1 x with
  | some b => .ok (.bl !b) s1
  | none => .bad
theorem ex_one {op} (h : Ex X W a fa) : Ex X W (.BoolOp op [a] pos) fa := ⟨fun m τ st σ H Q hL hS hP pins s I => BoolOp_one (h.run m τ st σ H Q hL hS hP pins s I)⟩
theorem ex_and (ha : Ex X W a fa) (hb : Ex X W (.BoolOp .And (b :: rest) pos) fb) : Ex X W (.BoolOp .And (a :: b :: rest) pos) (eAnd fa fb) := by
  refine ⟨fun m τ st σ H Q hL hS hP pins s I => (pe_andT peW peW).run pins s σ H Q I ?_⟩
  refine ha.run m τ st σ H _ hL hS (hP.bind fun dx s1 m1 H1 x e1 hS1 r1 hP1 => ?_)
  split at hP1
  · rename_i hk
    exact ⟨true, tru_read hS1 hk r1, iteT (hb.run m1 τ s1 σ H1 Q (hL.mono e1) hS1 hP1)⟩
  · rename_i hk
    exact ⟨false, tru_read hS1 hk r1, iteF (hP1.now hS1 r1)⟩
  · exact hP1.elim
theorem ex_or (ha : Ex X W a fa) (hb : Ex X W (.BoolOp .Or (b :: rest) pos) fb) : Ex X W (.BoolOp .Or (a :: b :: rest) pos) (eOr fa fb) := by
  refine ⟨fun m τ st σ H Q hL hS hP pins s I => (pe_orT peW peW).run pins s σ H Q I ?_⟩
  refine ha.run m τ st σ H _ hL hS (hP.bind fun dx s1 m1 H1 x e1 hS1 r1 hP1 => ?_)
  split at hP1
  · rename_i hk
    exact ⟨true, tru_read hS1 hk r1, iteT (hP1.now hS1 r1)⟩
  · rename_i hk
    exact ⟨false, tru_read hS1 hk r1, iteF (hb.run m1 τ s1 σ H1 Q (hL.mono e1) hS1 hP1)⟩
  · exact hP1.elim
theorem ex_not (ha : Ex X W a fa) : Ex X W (.UnaryOp .Not a pos) (eNot fa) := by
  refine ⟨fun m τ st σ H Q hL hS hP pins s I => (pe_notT peW).run pins s σ H Q I ?_⟩
  refine ha.run m τ st σ H _ hL hS (hP.bind fun dx s1 m1 H1 x e1 hS1 r1 hP1 => ?_)
  split at hP1
  · rename_i k hk
    exact ⟨k, tru_read hS1 hk r1, hP1.now hS1 (.bl _)⟩
  · exact hP1.elim
def eIf (g : EM Bool) (fa fb : EM D) : EM D := fun τ st => (g τ st).bind fun x s1 => if x then fa τ s1 else fb τ s1
theorem ex_if {c : Expr} (hc : Et X W c g) (ha : Ex X W a fa) (hb : Ex X W b fb) : Ex X W (.IfExp c a b pos) (eIf g fa fb) := by
  refine ⟨fun m τ st σ H Q hL hS hP pins s I => (pe_ifExp ptW peW peW).run pins s σ H Q I ?_⟩
  refine hc.run m τ st σ H _ hL hS (hP.bind fun dx s1 m1 H1 x e1 hS1 r1 hP1 => ?_)
  subst r1
  cases dx with
  | true => exact iteT (ha.run m1 τ s1 σ H1 Q (hL.mono e1) hS1 hP1)
  | false => exact iteF (hb.run m1 τ s1 σ H1 Q (hL.mono e1) hS1 hP1)

/-! ### arguments, displays -/
def aNil : EM (List D) := fun _ st => .ok [] st
def aCons (f : EM D) (fs : EM (List D)) : EM (List D) := fun τ st => (f τ st).bind fun x s1 => (fs τ s1).bind fun xs s2 => .ok (x :: xs) s2
theorem ea_nil : Ea X W [] aNil := ⟨fun m τ st σ H Q hL hS hP pos pins s I => pa_nil.run pos pins s σ H Q I (hP.now hS .nil)⟩
theorem ea_cons (ha : Ex X W e f) (hr : Ea X W es fs) (hs : starEach (e :: es) X.env = (false, eval e X.env) :: starEach es X.env := by rfl) : Ea X W (e :: es) (aCons f fs) := by
  refine ⟨fun m τ st σ H Q hL hS hP pos pins s I => (pa_cons peW paW hs).run pos pins s σ H Q I ?_⟩
  refine ha.run m τ st σ H _ hL hS (hP.bind fun dx s1 m1 H1 x e1 hS1 r1 hP1 => ?_)
  exact hr.run m1 τ s1 σ H1 _ (hL.mono e1) hS1 (hP1.bind fun ds s2 m2 H2 xs e2 hS2 r2 hP2 => hP2.now hS2 (.cons (r1.mono e2) r2))
def eTup (fs : EM (List D)) : EM D := fun τ st => (fs τ st).bind fun xs s1 => if xs.length ≤ 16777216 then .ok (.tup xs) s1 else .bad
def eLst (fs : EM (List D)) : EM D := fun τ st => (fs τ st).bind fun xs s1 => if xs.length ≤ 16777216 then .ok (.ref s1.length) (s1 ++ [.lst xs]) else .bad
theorem ex_tup {x1} (h : Ea X W es fs) : Ex X W (.Tuple es x1 pos) (eTup fs) := by
  refine ⟨fun m τ st σ H Q hL hS hP pins s I => (pe_tup paW).run pins s σ H Q I ?_⟩
  refine h.run m τ st σ H _ hL hS (hP.bind fun ds s1 m1 H1 vs e1 hS1 r1 hP1 => ?_)
  split at hP1
  · rename_i hl
    exact ⟨line_of (by rw [← r1.len]; exact hl), hP1.tup hS1 r1⟩
  · exact hP1.elim
theorem ex_lst (h : Ea X W es fs) : Ex X W (.List es pos) (eLst fs) := by
  refine ⟨fun m τ st σ H Q hL hS hP pins s I => (pe_lst paW).run pins s σ H Q I ?_⟩
  refine h.run m τ st σ H _ hL hS (hP.bind fun ds s1 m1 H1 vs e1 hS1 r1 hP1 => ?_)
  split at hP1
  · rename_i hl
    exact ⟨line_of (by rw [← r1.len]; exact hl), hP1.lst hS1 r1⟩
  · exact hP1.elim

/-! ### subscripts -/
def IxM (X : Cx) (W : WX) (g : O2) : Prop :=
  ∃ r : R2, IxR X r ∧ ∀ (m : List Addr) (st : Store) (H : Hp) (dx dy : D) (x y : V) (E : XK) (Q : VK), SS X.K m st H → RD X.K m H dx x → RD X.K m H dy y → Pe X.K E (RD X.K) m H (g dx dy st) Q → r x y H Q
theorem ex_ix {o : O2} (ho : IxM X W o) (ha : Ex X W a fa) (hb : Ex X W b fb) (hs : PlainIx b := by exact fun _ _ => rfl) : Ex X W (.Subscript a b pos) (eBin o fa fb) := by
  obtain ⟨r, hr, h⟩ := ho
  refine ⟨fun m τ st σ H Q hL hS hP pins s I => (pe_ix hr peW peW hs).run pins s σ H Q I ?_⟩
  exact two ha hb hL hS hP fun m2 st2 H2 dx dy x y e2 hS2 r1 r2 hP2 => h m2 st2 H2 dx dy x y _ Q hS2 r1 r2 hP2
def oIx : O2 := fun x y st => match x, y with
  | .tup xs, .int i => match atI xs i with
    | some d => .ok d st
    | none => .bad
  | .rol xs, .int i => match atI xs i with
    | some d => .ok d st
    | none => .bad
  | .ref n, .int i => match lstAt st n with
    | some xs => match atI xs i with
      | some d => .ok d st
      | none => .bad
    | none => .bad
  | .str x, .int i => if x.length ≤ 16777216 then match atI x i with
      | some c => .ok (.str [c]) st
      | none => .bad
    else .bad
  | _, _ => .bad
theorem atI_rds {K : PySem.W.Frag} {m : List Addr} {H : Hp} {ds : List D} {vs : List V} {i : Int} {d : D} (r : RDs K m H ds vs) (h : atI ds i = some d) : ∃ v, atI vs i = some v ∧ RD K m H d v := by
  unfold atI at h ⊢
  rw [← r.len]
  cases e : ixN ds.length i with
  | none =>
    rw [e] at h
    cases h
  | some j =>
    rw [e] at h
    exact r.get h
theorem m_ix : IxM X W oIx := ⟨_, ix_seq, fun m st H dx dy x y E Q hS r1 r2 hP => by
  unfold oIx at hP
  split at hP
  · split at hP
    · rename_i d e
      cases r1 with
      | tup q rs =>
        cases r2
        obtain ⟨v, h1, h2⟩ := atI_rds rs e
        exact .inr (.inl ⟨_, _, _, v, rfl, rfl, q, h1, hP.now hS h2⟩)
    · exact hP.elim
  · split at hP
    · rename_i d e
      cases r1 with
      | rol q rs =>
        cases r2
        obtain ⟨v, h1, h2⟩ := atI_rds rs e
        exact .inl ⟨_, _, _, v, rfl, rfl, q.sq, h1, hP.now hS h2⟩
    · exact hP.elim
  · split at hP
    · split at hP
      · rename_i ex _ _ e
        cases r1 with
        | ref q =>
          cases r2
          obtain ⟨vs, h1, h2⟩ := hS.list ex q
          obtain ⟨v, h3, h4⟩ := atI_rds h2 e
          exact .inl ⟨_, _, _, v, rfl, rfl, SqL.of h1, h3, hP.now hS h4⟩
      · exact hP.elim
    · exact hP.elim
  · split at hP
    · split at hP
      · rename_i hl _ c e
        cases r1
        cases r2
        exact .inr (.inr ⟨_, _, c, rfl, rfl, line_of (by simpa [PySem.Str.length] using hl), by simpa using e, hP.now hS (.str [c])⟩)
      · exact hP.elim
    · exact hP.elim
  · exact hP.elim⟩
end
end HM

/-! HM, part 5: calls, what is walked, comprehensions. -/
namespace HM
open PySem PySem.Spec PyProof.Rows L2

/-! ### defs -/
abbrev FM := List D → Store → ER D
/-- a def's promise by its mirror -/
def spM (K : PySem.W.Frag) (n : Nat) (mf : FM) : Sp := fun vs H Q E => ∃ (m : List Addr) (st : Store) (ds : List D), ds.length = n ∧ SS K m st H ∧ RDs K m H ds vs ∧ Pe K E (RD K) m H (mf ds st) Q
/-- the def f keeps the mirror -/
abbrev FnM (P : Program) (w : World) (K : PySem.W.Frag) (mg : Str → Option Value) (base : Heap) (k : Nat) (f : Addr) (fd : FuncData) (ps : List Str) (mf : FM) : Prop :=
  FnOk P w K mg base (L2.CX P w) k f fd ps (spM K ps.length mf)
section
variable {X : Cx} {W : WX} {e a b c : Expr} {es rest : List Expr} {pos p : Pos} {f fa fb fc : EM D} {fs : EM (List D)} {g ga gb : EM Bool}
def eCall (n : Nat) (mf : FM) (fs : EM (List D)) : EM D := fun τ st => (fs τ st).bind fun ds s1 => if ds.length = n then mf ds s1 else .bad
theorem ex_call {k : Nat} {fa : Addr} {fd : FuncData} {ps : List Str} {mf : FM} {x : Str} (tk : Takes X W) (F : FnM X.prog X.w X.K X.mg X.base k fa fd ps mf) (hr : Room k X.A) (hg : Gl X x) (hm : X.mg x = some (.ref fa)) (hk : PySem.W.keepIn X.K (.ref fa) = true) (hb : Binds X.K fd ps [])
    (ha : Ea X W (e :: es) fs) (hdb : (x == ("__debug__" : Str)) = false := by decide) (he : starEach (e :: es) X.env = (false, eval e X.env) :: starEach es X.env := by rfl) (hpl : (backTo pos (starEach es X.env)).any (·.1) = false := by rfl) :
    Ex X W (.Call (.Name x p) (e :: es) [] pos) (eCall ps.length mf fs) := by
  refine ⟨fun m τ st σ H Q hL hS hP pins s I => ?_⟩
  refine wpAny_Call_Name_kw (ld_glob I hg hm ?_ hdb)
  have q : wA X (e :: es) σ H fun vs H1 => spM X.K ps.length mf (vs ++ []) H1 Q (WE W σ) := ha.run m τ st σ H _ hL hS (hP.bind fun ds s1 m1 H1 vs e1 hS1 r1 hP1 => by
    split at hP1
    · rename_i hl
      rw [List.append_nil]
      exact ⟨m1, s1, ds, hl, hS1, r1, hP1⟩
    · exact hP1.elim)
  refine PySem.W.callWith_K (h₀ := X.base) I.ok.mod.kin hk (thn (q pos pins s I) fun us s1 ⟨vs, H1, I1, r, q⟩ => ⟨I1.kIn, ?_⟩) he hpl
  exact run_fnSD (E := WE W) F hr hb .nil (passAt tk σ) I1 r q
theorem ex_call0 {k : Nat} {fa : Addr} {fd : FuncData} {ps : List Str} {mf : FM} {x : Str} (tk : Takes X W) (F : FnM X.prog X.w X.K X.mg X.base k fa fd ps mf) (hr : Room k X.A) (hg : Gl X x) (hm : X.mg x = some (.ref fa)) (hk : PySem.W.keepIn X.K (.ref fa) = true) (hb : Binds X.K fd ps [])
    (hdb : (x == ("__debug__" : Str)) = false := by decide) : Ex X W (.Call (.Name x p) [] [] pos) (eCall ps.length mf aNil) := by
  refine ⟨fun m τ st σ H Q hL hS hP pins s I => ?_⟩
  refine wpAny_Call_Name_kw (ld_glob I hg hm ?_ hdb)
  refine PySem.W.callWith_K0 I.kIn hk (run_fnSD (E := WE W) (us := []) (vs := []) F hr hb .nil (passAt tk σ) I .nil ?_)
  have hP : Pe X.K (fun c d H' => W c d σ H') (RD X.K) m H (if ([] : List D).length = ps.length then mf [] st else .bad) Q := hP
  split at hP
  · rename_i hl
    exact ⟨m, st, [], hl, hS, .nil, hP⟩
  · exact hP.elim

/-! ### built-ins by values -/
def CallM (X : Cx) (fv : Value) (g : FM) : Prop :=
  ∃ r, CallR X fv r ∧ ∀ (m : List Addr) (st : Store) (H : Hp) (ds : List D) (vs : List V) (E : XK) (Q : VK), SS X.K m st H → RDs X.K m H ds vs → Pe X.K E (RD X.K) m H (g ds st) Q → r vs H Q
def eCB (mf : FM) (fs : EM (List D)) : EM D := fun τ st => (fs τ st).bind mf
theorem ex_callB {x : Str} {id : String} {mf : FM} (hc : CallM X (.builtin id) mf) (hg : Gl X x) (hm : X.mg x = none) (hv : bootBuiltins x = some (.builtin id)) (ha : Ea X W (e :: es) fs) (hn : x ≠ "__name__" := by decide) (hdb : (x == ("__debug__" : Str)) = false := by decide)
    (he : starEach (e :: es) X.env = (false, eval e X.env) :: starEach es X.env := by rfl) (hpl : (backTo pos (starEach es X.env)).any (·.1) = false := by rfl) : Ex X W (.Call (.Name x p) (e :: es) [] pos) (eCB mf fs) := by
  obtain ⟨r, hr, h⟩ := hc
  refine ⟨fun m τ st σ H Q hL hS hP pins s I => (pe_callB hr hg hm hv paW hn hdb he hpl).run pins s σ H Q I ?_⟩
  exact ha.run m τ st σ H _ hL hS (hP.bind fun ds s1 m1 H1 vs e1 hS1 r1 hP1 => h m1 s1 H1 ds vs _ Q hS1 r1 hP1)
theorem ex_callT {x : Str} {T : String} {mf : FM} (hc : CallM X (.type T) mf) (hg : Gl X x) (hm : X.mg x = none) (hv : bootBuiltins x = some (.type T)) (ha : Ea X W (e :: es) fs) (hn : x ≠ "__name__" := by decide) (hdb : (x == ("__debug__" : Str)) = false := by decide)
    (he : starEach (e :: es) X.env = (false, eval e X.env) :: starEach es X.env := by rfl) (hpl : (backTo pos (starEach es X.env)).any (·.1) = false := by rfl) : Ex X W (.Call (.Name x p) (e :: es) [] pos) (eCB mf fs) := by
  obtain ⟨r, hr, h⟩ := hc
  refine ⟨fun m τ st σ H Q hL hS hP pins s I => (pe_callTy hr hg hm hv paW hn hdb he hpl).run pins s σ H Q I ?_⟩
  exact ha.run m τ st σ H _ hL hS (hP.bind fun ds s1 m1 H1 vs e1 hS1 r1 hP1 => h m1 s1 H1 ds vs _ Q hS1 r1 hP1)
theorem ex_callF {x : Str} {id : String} {mf : FM} (hc : CallM X (.builtin id) mf) (hg : Gl X x) (hm : X.mg x = some (.builtin id)) (ha : Ea X W (e :: es) fs) (hdb : (x == ("__debug__" : Str)) = false := by decide)
    (he : starEach (e :: es) X.env = (false, eval e X.env) :: starEach es X.env := by rfl) (hpl : (backTo pos (starEach es X.env)).any (·.1) = false := by rfl) : Ex X W (.Call (.Name x p) (e :: es) [] pos) (eCB mf fs) := by
  obtain ⟨r, hr, h⟩ := hc
  refine ⟨fun m τ st σ H Q hL hS hP pins s I => (pe_callBfun hr hg hm paW hdb he hpl).run pins s σ H Q I ?_⟩
  exact ha.run m τ st σ H _ hL hS (hP.bind fun ds s1 m1 H1 vs e1 hS1 r1 hP1 => h m1 s1 H1 ds vs _ Q hS1 r1 hP1)
/-- the items of what is a list or a tuple -/
def dSeq (st : Store) : D → Option (List D)
  | .tup xs => some xs
  | .rol xs => some xs
  | .ref n => lstAt st n
  | _ => none
def SqV (K : PySem.W.Frag) (m : List Addr) (H : Hp) (ds : List D) (v : V) : Prop := ∃ a vs, v = .ref a ∧ (SqL K H a vs ∨ SqT K H a vs) ∧ RDs K m H ds vs
theorem dSeq_read {K : PySem.W.Frag} {m : List Addr} {st : Store} {H : Hp} {d : D} {v : V} {xs : List D} (s : SS K m st H) (h : dSeq st d = some xs) (r : RD K m H d v) : SqV K m H xs v := by
  cases r with
  | tup q rs =>
    cases h
    exact ⟨_, _, rfl, .inr q, rs⟩
  | rol q rs =>
    cases h
    exact ⟨_, _, rfl, .inl q.sq, rs⟩
  | ref q =>
    obtain ⟨vs, h1, h2⟩ := s.list h q
    exact ⟨_, vs, rfl, .inl (SqL.of h1), h2⟩
  | _ => cases h
def fLen : FM := fun ds st => match ds with
  | [.str x] => if x.length ≤ 16777216 then .ok (.int x.length) st else .bad
  | [d] => match dSeq st d with
    | some xs => .ok (.int xs.length) st
    | none => .bad
  | _ => .bad
theorem c_len : CallM X (.builtin "len") fLen := ⟨_, call_len_seq.or call_len_str, fun m st H ds vs E Q hS r hP => by
  unfold fLen at hP
  split at hP
  · split at hP
    · rename_i x hl
      obtain ⟨v, rfl, r1⟩ := r.one
      cases r1
      refine .inr ⟨_, rfl, line_of (by simpa [PySem.Str.length] using hl), ?_⟩
      have e : (((⟨x.toArray⟩ : PySem.Str).length : Nat) : Int) = (x.length : Int) := by simp [PySem.Str.length]
      rw [e]
      exact hP.now hS (.int _)
    · exact hP.elim
  · split at hP
    · rename_i xs hx
      obtain ⟨v, rfl, r1⟩ := r.one
      obtain ⟨a, vs, rfl, q, rs⟩ := dSeq_read hS hx r1
      refine .inl ⟨a, vs, rfl, q, ?_⟩
      rw [← rs.len]
      exact hP.now hS (.int _)
    · exact hP.elim
  · exact hP.elim⟩
def fInt : FM := fun ds st => match ds with
  | [.int i] => .ok (.int i) st
  | [.bl b] => .ok (.int (if b then 1 else 0)) st
  | _ => .bad
theorem c_int : CallM X (.type "int") fInt := ⟨_, call_int1, fun m st H ds vs E Q hS r hP => by
  unfold fInt at hP
  split at hP
  · obtain ⟨v, rfl, r1⟩ := r.one
    cases r1
    exact .inl ⟨_, rfl, hP.now hS (.int _)⟩
  · obtain ⟨v, rfl, r1⟩ := r.one
    cases r1
    exact .inr ⟨_, rfl, hP.now hS (.int _)⟩
  · exact hP.elim⟩
def fAbs : FM := fun ds st => match ds with
  | [.int i] => .ok (.int (i.natAbs : Nat)) st
  | _ => .bad
theorem c_abs : CallM X (.builtin "abs") fAbs := ⟨_, call_abs, fun m st H ds vs E Q hS r hP => by
  unfold fAbs at hP
  split at hP
  · rename_i i
    obtain ⟨v, rfl, r1⟩ := r.one
    cases r1
    refine ⟨_, rfl, ?_⟩
    have e : (if i < 0 then -i else i) = ((i.natAbs : Nat) : Int) := by split <;> omega
    rw [e]
    exact hP.now hS (.int _)
  · exact hP.elim⟩
def fGcd : FM := fun ds st => match ds with
  | [.int i, .int j] => .ok (.int (Nat.gcd i.natAbs j.natAbs : Nat)) st
  | _ => .bad
theorem c_gcd : CallM X (.builtin "math.gcd") fGcd := ⟨_, cr_gcd, fun m st H ds vs E Q hS r hP => by
  unfold fGcd at hP
  split at hP
  · obtain ⟨v, u, rfl, r1, r2⟩ := r.two
    cases r1
    cases r2
    exact ⟨_, _, rfl, hP.now hS (.int _)⟩
  · exact hP.elim⟩
def fTuple : FM := fun ds st => match ds with
  | [d] => match dSeq st d with
    | some xs => .ok (.tup xs) st
    | none => .bad
  | _ => .bad
theorem c_tuple : CallM X (.type "tuple") fTuple := ⟨_, call_tuple_of, fun m st H ds vs E Q hS r hP => by
  unfold fTuple at hP
  split at hP
  · split at hP
    · rename_i xs hx
      obtain ⟨v, rfl, r1⟩ := r.one
      obtain ⟨a, vs, rfl, q, rs⟩ := dSeq_read hS hx r1
      rcases q with q | q
      · exact ⟨a, vs, rfl, .inl ⟨q, hP.tup hS rs⟩⟩
      · exact ⟨a, vs, rfl, .inr ⟨q, hP.now hS (.tup q rs)⟩⟩
    · exact hP.elim
  · exact hP.elim⟩
def fList : FM := fun ds st => match ds with
  | [d] => match dSeq st d with
    | some xs => .ok (.ref st.length) (st ++ [.lst xs])
    | none => .bad
  | _ => .bad
theorem c_list : CallM X (.type "list") fList := ⟨_, call_list_of, fun m st H ds vs E Q hS r hP => by
  unfold fList at hP
  split at hP
  · split at hP
    · rename_i xs hx
      obtain ⟨v, rfl, r1⟩ := r.one
      obtain ⟨a, vs, rfl, q, rs⟩ := dSeq_read hS hx r1
      exact ⟨a, vs, rfl, q, hP.lst hS rs⟩
    · exact hP.elim
  · exact hP.elim⟩
def fMin2 : FM := fun ds st => match ds with
  | [.int i, .int j] => .ok (.int (if j < i then j else i)) st
  | _ => .bad
theorem c_min2 (hc : X.calm = true) : CallM X (.builtin "min") fMin2 := ⟨_, call_min2 hc, fun m st H ds vs E Q hS r hP => by
  unfold fMin2 at hP
  split at hP
  · obtain ⟨v, u, rfl, r1, r2⟩ := r.two
    cases r1
    cases r2
    exact ⟨_, _, rfl, hP.now hS (.int _)⟩
  · exact hP.elim⟩
def fMax2 : FM := fun ds st => match ds with
  | [.int i, .int j] => .ok (.int (if j > i then j else i)) st
  | _ => .bad
theorem c_max2 (hc : X.calm = true) : CallM X (.builtin "max") fMax2 := ⟨_, call_max2 hc, fun m st H ds vs E Q hS r hP => by
  unfold fMax2 at hP
  split at hP
  · obtain ⟨v, u, rfl, r1, r2⟩ := r.two
    cases r1
    cases r2
    exact ⟨_, _, rfl, hP.now hS (.int _)⟩
  · exact hP.elim⟩
/-! ### isinstance -/
def dTy (st : Store) : D → Option String
  | .non => some "NoneType"
  | .bl _ => some "bool"
  | .int _ => some "int"
  | .str _ => some "str"
  | .tup _ => some "tuple"
  | .rol _ => some "list"
  | .ref n => (lstAt st n).map fun _ => "list"
  | _ => none
def isiT (a b : String) : Option Bool :=
  if (["NoneType", "bool", "int", "str", "tuple", "list"].contains a && ["bool", "int", "str", "tuple", "list"].contains b) = true then some (decide (a = b) || (decide (a = "bool") && decide (b = "int"))) else none
theorem isiT_ok {a b : String} {r : Bool} (h : isiT a b = some r) : kitB a b = some r := by
  have all : (["NoneType", "bool", "int", "str", "tuple", "list"].all fun a => ["bool", "int", "str", "tuple", "list"].all fun b => decide (kitB a b = some (decide (a = b) || (decide (a = "bool") && decide (b = "int"))))) = true := by decide +kernel
  unfold isiT at h
  split at h
  · rename_i c
    rw [Bool.and_eq_true] at c
    have z := List.all_eq_true.mp (List.all_eq_true.mp all a (List.contains_iff_mem.mp c.1)) b (List.contains_iff_mem.mp c.2)
    rw [of_decide_eq_true z]
    exact h
  · cases h
theorem ty_read {K : PySem.W.Frag} {m : List Addr} {st : Store} {H : Hp} {d : D} {v : V} {t : String} (s : SS K m st H) (h : dTy st d = some t) (r : RD K m H d v) : TyX K H v (.type t) := by
  cases r with
  | non => cases h; exact .base .non
  | bl b => cases h; exact .base (.bl b)
  | int i => cases h; exact .base (.int i)
  | str x => cases h; exact .base (.str _)
  | tup q rs =>
    cases h
    rcases q with (q | ⟨o, q⟩) | ⟨o, its, n, q1, q2, _⟩
    · exact .base (.tup q)
    · exact .fTuple q
    · exact .kTuple q1 q2
  | rol q rs =>
    cases h
    rcases q with ⟨o, q⟩ | ⟨o, its, n, q1, q2, _⟩
    · exact .base (.frz q)
    · exact .kList q1 q2
  | ref q =>
    have h : (lstAt st _).map (fun _ => "list") = some t := h
    simp only [Option.map_eq_some_iff] at h
    obtain ⟨xs, e, rfl⟩ := h
    obtain ⟨vs, h1, h2⟩ := s.list e q
    exact .base (.lst h1)
  | _ => cases h
def fIsi : FM := fun ds st => match ds with
  | [d, .ty c] => match dTy st d with
    | some t => match isiT t c with
      | some b => .ok (.bl b) st
      | none => .bad
    | none => .bad
  | _ => .bad
theorem c_isi : CallM X (.builtin "isinstance") fIsi := ⟨_, call_isi, fun m st H ds vs E Q hS r hP => by
  unfold fIsi at hP
  split at hP
  · split at hP
    · rename_i t ht
      split at hP
      · rename_i b hb
        obtain ⟨v, u, rfl, r1, r2⟩ := r.two
        cases r2
        exact ⟨_, _, _, _, b, rfl, by constructor, ty_read hS ht r1, kit_ty (isiT_ok hb), hP.now hS (.bl _)⟩
      · exact hP.elim
    · exact hP.elim
  · exact hP.elim⟩

/-! ### fresh lists, sequences as arguments -/
/-- an expression that makes a list that nobody else has -/
structure El (X : Cx) (W : WX) (e : Expr) (f : EM (List D)) : Prop where
  run : ∀ (m : List Addr) (τ : Sl) (st : Store) (σ : L2.St) (H : Hp) (Q : VK), SL X.K m H τ σ → SS X.K m st H →
    Pe X.K (fun c d H' => W c d σ H') (fun m' H' ds v => ∃ a vs, v = .ref a ∧ H' a = some (.lst vs) ∧ a ∉ m' ∧ H a = none ∧ RDs X.K m' H' ds vs) m H (f τ st) Q → wE X e σ H Q
def eEl (f : EM (List D)) : EM D := fun τ st => (f τ st).bind fun ds s1 => .ok (.ref s1.length) (s1 ++ [.lst ds])
theorem Ext.back {K : PySem.W.Frag} {m m1 : List Addr} {H H1 : Hp} {s1 : Store} {a : Addr} (e : Ext K m H m1 H1) (s : SS K m1 s1 H1) (h : H1 a = none) : H a = none := by
  cases q : H a with
  | none => rfl
  | some o =>
    by_cases hm : a ∈ m
    · exact absurd (e.mem hm) (s.notin h)
    · rw [e.frm a o hm q] at h
      cases h
theorem Ext.own {K : PySem.W.Frag} {m m1 : List Addr} {H H1 : Hp} {a : Addr} (e : Ext K m H m1 H1) (h : H a = none) : Ext K m H (m1 ++ [a]) H1 where
  pre := fun n b q => by
    have z := e.pre n b q
    rw [List.getElem?_append_left (List.getElem?_eq_some_iff.mp z).1]
    exact z
  tup := e.tup
  fzl := e.fzl
  frm := e.frm
  new := fun b q n => by
    rcases List.mem_append.mp q with q | q
    · exact e.new b q n
    · have z : b = a := by simpa using q
      rw [z]
      exact h
theorem ex_el {fl : EM (List D)} (h : El X W e fl) : Ex X W e (eEl fl) := by
  refine ⟨fun m τ st σ H Q hL hS hP => h.run m τ st σ H Q hL hS ?_⟩
  unfold eEl at hP
  cases hq : fl τ st with
  | ok ds s1 =>
    rw [hq] at hP
    intro m1 H1 v e1 hS1 ⟨a, vs, e, ha, na, hn, rs⟩
    subst e
    refine hP (m1 ++ [a]) H1 (.ref a) (e1.own hn) (hS1.grow na ⟨vs, ha, rs.kp Kp.grow⟩) (.ref ?_)
    rw [← hS1.len]
    simp
  | exc x st' =>
    rw [hq] at hP
    exact hP
  | bad =>
    rw [hq] at hP
    exact hP.elim
/-- the items of an expression's list or tuple -/
structure Es (X : Cx) (W : WX) (e : Expr) (f : EM (List D)) : Prop where
  run : ∀ (m : List Addr) (τ : Sl) (st : Store) (σ : L2.St) (H : Hp) (Q : VK), SL X.K m H τ σ → SS X.K m st H → Pe X.K (fun c d H' => W c d σ H') (SqV X.K) m H (f τ st) Q → wE X e σ H Q
theorem es_el {fl : EM (List D)} (h : El X W e fl) : Es X W e fl := by
  refine ⟨fun m τ st σ H Q hL hS hP => h.run m τ st σ H Q hL hS ?_⟩
  cases hq : fl τ st with
  | ok ds s1 =>
    rw [hq] at hP
    intro m1 H1 v e1 hS1 ⟨a, vs, e, ha, na, hn, rs⟩
    exact hP m1 H1 v e1 hS1 ⟨a, vs, e, .inl (SqL.of ha), rs⟩
  | exc x st' =>
    rw [hq] at hP
    exact hP
  | bad =>
    rw [hq] at hP
    exact hP.elim
def sEx (f : EM D) : EM (List D) := fun τ st => (f τ st).bind fun d s1 => match dSeq s1 d with
  | some xs => .ok xs s1
  | none => .bad
theorem es_ex (h : Ex X W e f) : Es X W e (sEx f) := by
  refine ⟨fun m τ st σ H Q hL hS hP => h.run m τ st σ H Q hL hS (hP.bind fun d s1 m1 H1 v e1 hS1 r1 hP1 => ?_)⟩
  split at hP1
  · rename_i xs hx
    exact hP1.now hS1 (dSeq_read hS1 hx r1)
  · exact hP1.elim
/-- a built-in of one argument, by its items -/
abbrev SM1 := List D → Store → ER D
def CallS (X : Cx) (fv : Value) (g : SM1) : Prop :=
  ∃ r, CallR X fv r ∧ ∀ (m : List Addr) (st : Store) (H : Hp) (ds : List D) (v : V) (E : XK) (Q : VK), SS X.K m st H → SqV X.K m H ds v → Pe X.K E (RD X.K) m H (g ds st) Q → r [v] H Q
def eCS (g : SM1) (f : EM (List D)) : EM D := fun τ st => (f τ st).bind g
theorem ex_callBs {x : Str} {id : String} {g : SM1} {fl : EM (List D)} (hc : CallS X (.builtin id) g) (hg : Gl X x) (hm : X.mg x = none) (hv : bootBuiltins x = some (.builtin id)) (ha : Es X W e fl) (hn : x ≠ "__name__" := by decide) (hdb : (x == ("__debug__" : Str)) = false := by decide)
    (he : starEach [e] X.env = (false, eval e X.env) :: starEach [] X.env := by rfl) (hpl : (backTo pos (starEach [] X.env)).any (·.1) = false := by rfl) : Ex X W (.Call (.Name x p) [e] [] pos) (eCS g fl) := by
  obtain ⟨r, hr, h⟩ := hc
  refine ⟨fun m τ st σ H Q hL hS hP pins s I => (pe_callB hr hg hm hv (pa_cons peW pa_nil he) hn hdb he hpl).run pins s σ H Q I ?_⟩
  exact ha.run m τ st σ H _ hL hS (hP.bind fun ds s1 m1 H1 v e1 hS1 r1 hP1 => h m1 s1 H1 ds v _ Q hS1 r1 hP1)
theorem ex_callTs {x : Str} {T : String} {g : SM1} {fl : EM (List D)} (hc : CallS X (.type T) g) (hg : Gl X x) (hm : X.mg x = none) (hv : bootBuiltins x = some (.type T)) (ha : Es X W e fl) (hn : x ≠ "__name__" := by decide) (hdb : (x == ("__debug__" : Str)) = false := by decide)
    (he : starEach [e] X.env = (false, eval e X.env) :: starEach [] X.env := by rfl) (hpl : (backTo pos (starEach [] X.env)).any (·.1) = false := by rfl) : Ex X W (.Call (.Name x p) [e] [] pos) (eCS g fl) := by
  obtain ⟨r, hr, h⟩ := hc
  refine ⟨fun m τ st σ H Q hL hS hP pins s I => (pe_callTy hr hg hm hv (pa_cons peW pa_nil he) hn hdb he hpl).run pins s σ H Q I ?_⟩
  exact ha.run m τ st σ H _ hL hS (hP.bind fun ds s1 m1 H1 v e1 hS1 r1 hP1 => h m1 s1 H1 ds v _ Q hS1 r1 hP1)
def gTuple : SM1 := fun xs st => .ok (.tup xs) st
theorem s_tuple : CallS X (.type "tuple") gTuple := ⟨_, call_tuple_of, fun m st H ds v E Q hS r hP => by
  obtain ⟨a, vs, rfl, q, rs⟩ := r
  rcases q with q | q
  · exact ⟨a, vs, rfl, .inl ⟨q, hP.tup hS rs⟩⟩
  · exact ⟨a, vs, rfl, .inr ⟨q, hP.now hS (.tup q rs)⟩⟩⟩
def gLen : SM1 := fun xs st => .ok (.int xs.length) st
theorem s_len : CallS X (.builtin "len") gLen := ⟨_, call_len_seq, fun m st H ds v E Q hS r hP => by
  obtain ⟨a, vs, rfl, q, rs⟩ := r
  refine ⟨a, vs, rfl, q, ?_⟩
  rw [← rs.len]
  exact hP.now hS (.int _)⟩

/-! ### targets -/
def wG (X : Cx) (tg : Expr) : TG := fun v σ H Q => ∀ (pins : List (Addr × Obj)) (s : Shared) (u : Value), Inv X pins σ H s → RelV v u → wpAny (model X.prog X.w) X.A (assign tg X.env u) (fun _ s' => ∃ σ' H', Inv X pins σ' H' s' ∧ Q σ' H') X.xe s
theorem pgW {X : Cx} {tg : Expr} : PG X tg (wG X tg) := ⟨fun pins s σ H v u Q I r h => h pins s u I r⟩
/-- a target: the slots at ix are set -/
structure Eg (X : Cx) (tg : Expr) (ix : List Nat) (set : D → Sl → Option Sl) : Prop where
  run : ∀ (m : List Addr) (τ τ' : Sl) (st : Store) (σ : L2.St) (H : Hp) (d : D) (v : V) (Q : L2.St → Hp → Prop), SL X.K m H τ σ → SS X.K m st H → RD X.K m H d v → set d τ = some τ' →
    (∀ σ', σ'.length = σ.length → (∀ j, j ∉ ix → σ'[j]? = σ[j]?) → SL X.K m H τ' σ' → Q σ' H) → wG X tg v σ H Q
def gN (i : Nat) : D → Sl → Option Sl := fun d τ => some (τ.set i (some d))
theorem eg_name {i : Nat} {x : Str} (hN : X.N.Nodup) (hi : X.N[i]? = some x := by rfl) (hx : Loc X.env.scope x := by first | exact Or.inl rfl | exact Or.inr rfl) (hf : X.fn x = true ∨ X.env.scope.names.lookup x = some .local := by first | exact .inl rfl | exact .inr rfl) : Eg X (.Name x pos) [i] (gN i) := by
  refine ⟨fun m τ τ' st σ H d v Q hL hS r e k pins s u I ru => (pg_name hN hi hx hf).run pins s σ H v u Q I ru ?_⟩
  cases e
  exact k _ (by simp) (fun j hj => List.getElem?_set_ne (fun z => hj (by simp [z]))) (hL.set i r)
/-- several names, one after another -/
structure Egs (X : Cx) (ts : List Expr) (ix : List Nat) (set : List D → Sl → Option Sl) : Prop where
  run : ∃ t : TGs, PGs X ts t ∧ ∀ (m : List Addr) (τ τ' : Sl) (σ : L2.St) (H : Hp) (ds : List D) (vs : List V) (Q : L2.St → Hp → Prop), SL X.K m H τ σ → RDs X.K m H ds vs → set ds τ = some τ' →
    (∀ σ', σ'.length = σ.length → (∀ j, j ∉ ix → σ'[j]? = σ[j]?) → SL X.K m H τ' σ' → Q σ' H) → t vs σ H Q
def gNil0 : List D → Sl → Option Sl := fun ds τ => match ds with
  | [] => some τ
  | _ => none
theorem egs_nil : Egs X [] [] gNil0 := ⟨_, pgs_nil, fun m τ τ' σ H ds vs Q hL r e k => by
    cases r with
    | nil =>
      cases e
      exact ⟨rfl, k σ rfl (fun _ _ => rfl) hL⟩
    | cons _ _ => cases e⟩
def gCs (i : Nat) (set : List D → Sl → Option Sl) : List D → Sl → Option Sl := fun ds τ => match ds with
  | d :: r => set r (τ.set i (some d))
  | [] => none
theorem egs_cons {i : Nat} {ix : List Nat} {x : Str} {ts : List Expr} {set : List D → Sl → Option Sl} (hN : X.N.Nodup) (hr : Egs X ts ix set) (hi : X.N[i]? = some x := by rfl) (hx : Loc X.env.scope x := by first | exact Or.inl rfl | exact Or.inr rfl) (hf : X.fn x = true ∨ X.env.scope.names.lookup x = some .local := by first | exact .inl rfl | exact .inr rfl)
    (hs : (assignEach (.Name x pos :: ts) X.env).map (·.2) = assign (.Name x pos) X.env :: (assignEach ts X.env).map (·.2) := by rfl) : Egs X (.Name x pos :: ts) (i :: ix) (gCs i set) := by
  obtain ⟨t, ht, h⟩ := hr
  refine ⟨_, pgs_cons (pg_name hN hi hx hf) ht hs, fun m τ τ' σ H ds vs Q hL r e k => ?_⟩
  cases r with
  | nil => cases e
  | cons r1 r2 =>
    refine ⟨_, _, rfl, h m _ τ' _ H _ _ Q (hL.set i r1) r2 e fun σ' l q s => k σ' (by rw [l, List.length_set]) (fun j hj => ?_) s⟩
    rw [q j fun z => hj (List.mem_cons_of_mem _ z)]
    exact List.getElem?_set_ne (fun z => hj (by simp [z]))
def gT (n : Nat) (set : List D → Sl → Option Sl) : D → Sl → Option Sl := fun d τ => match d with
  | .tup ds => if ds.length = n then set ds τ else none
  | _ => none
theorem eg_tup {ts : List Expr} {kk : Nat} {ix : List Nat} {set : List D → Sl → Option Sl} {n : Nat} (hc : X.calm = true) (h : Egs X ts ix set) (hn : (assignEach ts X.env).length = n := by rfl) (hst : (assignEach ts X.env).findIdx? (·.1) = none := by rfl) : Eg X (.Tuple ts kk pos) ix (gT n set) := by
  obtain ⟨t, ht, h⟩ := h
  refine ⟨fun m τ τ' st σ H d v Q hL hS r e k pins s u I ru => (pg_tup hc ht hn hst).run pins s σ H v u Q I ru ?_⟩
  unfold gT at e
  split at e
  · split at e
    · rename_i hl
      cases r with
      | tup q rs => exact ⟨_, _, rfl, q, by rw [← rs.len]; exact hl, h m τ τ' σ H _ _ Q hL rs e k⟩
    · cases e
  · cases e

/-! ### what is walked -/
inductive Sq where
  /-- items that stay -/
  | fix (xs : List D)
  /-- the items of a list of the store's, which must stay as long as it is walked -/
  | cell (n : Nat) (xs : List D)
  /-- pairs of the items of two lists of the store's -/
  | two (n k : Nat) (xs ys : List D)
/-- pairs -/
def zipD (xs ys : List D) : List D := (List.zip xs ys).map fun p => .tup [p.1, p.2]
def Sq.items : Sq → List D
  | .fix xs => xs
  | .cell _ xs => xs
  | .two _ _ xs ys => zipD xs ys
def Sq.chk (q : Sq) (st : Store) : Bool := match q with
  | .fix _ => true
  | .cell n xs => decide (lstAt st n = some xs)
  | .two n k xs ys => decide (lstAt st n = some xs) && decide (lstAt st k = some ys)
def JOk (K : PySem.W.Frag) (m0 : List Addr) (H0 : Hp) (q : Sq) (J : It) : Prop :=
  ∀ (m : List Addr) (H : Hp) (st : Store), Ext K m0 H0 m H → SS K m st H → q.chk st = true →
    (∀ (i : Nat) (d : D), q.items[i]? = some d → J.go i H ∧ ∀ x H', J.yld i H x H' → Ext K m H m H' ∧ SS K m st H' ∧ RD K m H' d x) ∧ J.stop q.items.length H
def wI (X : Cx) (tg iter : Expr) : TI := fun σ H R => ∀ (pins : List (Addr × Obj)) (s : Shared), Inv X pins σ H s → wpAny (model X.prog X.w) X.A (eval iter X.env) (fun v s1 => wpAny (model X.prog X.w) X.A (pyIter v) (PIE X pins σ tg R) X.xe s1) X.xe s
theorem piW {X : Cx} {tg iter : Expr} : PI X tg iter (wI X tg iter) := ⟨fun pins s σ H R I h => h pins s I⟩
structure Ei (X : Cx) (W : WX) (tg iter : Expr) (f : EM Sq) : Prop where
  run : ∀ (m : List Addr) (τ : Sl) (st : Store) (σ : L2.St) (H : Hp) (R : It → Hp → Prop), SL X.K m H τ σ → SS X.K m st H → Pe X.K (fun c d H' => W c d σ H') (JOk X.K) m H (f τ st) R → wI X tg iter σ H R
theorem j_list {K : PySem.W.Frag} {m0 : List Addr} {H0 : Hp} {a : Addr} {q : Sq} (h : ∀ (m : List Addr) (H : Hp) (st : Store), Ext K m0 H0 m H → SS K m st H → q.chk st = true → ∃ vs, SqL K H a vs ∧ RDs K m H q.items vs) : JOk K m0 H0 q (Itl K a) := fun m H st e s hc => by
  obtain ⟨vs, hq, rs⟩ := h m H st e s hc
  refine ⟨fun i d hd => ?_, ⟨vs, hq, by rw [rs.len]; exact Nat.le_refl _⟩⟩
  obtain ⟨v, hv, r⟩ := rs.get hd
  refine ⟨⟨vs, v, hq, hv⟩, fun x H' hy => ?_⟩
  obtain ⟨rfl, y⟩ := hy
  have z := y vs hq
  rw [hv] at z
  cases z
  exact ⟨.refl, s, r⟩
theorem j_tup {K : PySem.W.Frag} {m0 : List Addr} {H0 : Hp} {a : Addr} {vs : List V} {xs : List D} (hq : SqT K H0 a vs) (rs : RDs K m0 H0 xs vs) : JOk K m0 H0 (.fix xs) (Itt K a) := fun m H st e s _ => by
  have hq' := e.tup a vs hq
  have rs' := rs.mono e
  refine ⟨fun i d hd => ?_, ⟨vs, hq', by show vs.length ≤ xs.length; rw [← rs.len]; exact Nat.le_refl _⟩⟩
  obtain ⟨v, hv, r⟩ := rs'.get (show xs[i]? = some d from hd)
  refine ⟨⟨vs, v, hq', hv⟩, fun x H' hy => ?_⟩
  obtain ⟨rfl, y⟩ := hy
  have z := y vs hq'
  rw [hv] at z
  cases z
  exact ⟨.refl, s, r⟩
def dSq (st : Store) : D → Option Sq
  | .tup xs => some (.fix xs)
  | .rol xs => some (.fix xs)
  | .ref n => (lstAt st n).map (.cell n)
  | .str x => some (.fix (x.map fun c => .str [c]))
  | _ => none
def iEx (f : EM D) : EM Sq := fun τ st => (f τ st).bind fun d s1 => match dSq s1 d with
  | some q => .ok q s1
  | none => .bad
theorem j_str {K : PySem.W.Frag} {m0 : List Addr} {H0 : Hp} (x : List Nat) : JOk K m0 H0 (.fix (x.map fun c => .str [c])) (Its ⟨x.toArray⟩) := fun m H st e s _ => by
  refine ⟨fun i d hd => ?_, ?_⟩
  · have hd : (x.map fun c => D.str [c])[i]? = some d := hd
    rw [List.getElem?_map] at hd
    cases hx : x[i]? with
    | none =>
      rw [hx] at hd
      cases hd
    | some c =>
      rw [hx] at hd
      cases hd
      refine ⟨(List.getElem?_eq_some_iff.mp hx).1, fun y H' hy => ?_⟩
      obtain ⟨e, c', h1, h2⟩ := hy
      subst e
      have h3 : x[i]? = some c' := by simpa using h1
      rw [hx] at h3
      cases h3
      subst h2
      exact ⟨.refl, s, .str [c]⟩
  · show (⟨x.toArray⟩ : PySem.Str).cps.size ≤ (x.map fun c => D.str [c]).length
    simp
theorem ei_ex {tg : Expr} (h : Ex X W e f) : Ei X W tg e (iEx f) := by
  refine ⟨fun m τ st σ H R hL hS hP pins s I => ?_⟩
  unfold iEx at hP
  have hrun := h.run m τ st σ H
  cases hq : f τ st with
  | bad =>
    rw [hq] at hP
    exact hP.elim
  | exc x s1 =>
    rw [hq] at hP
    refine (pi_list (tg := tg) peW).run pins s σ H R I (hrun _ hL hS ?_)
    rw [hq]
    exact hP
  | ok d s1 =>
    rw [hq] at hP
    have hP : Pe X.K (fun c d H' => W c d σ H') (JOk X.K) m H (match dSq s1 d with
      | some q => .ok q s1
      | none => .bad) R := hP
    cases hd : dSq s1 d with
    | none =>
      rw [hd] at hP
      exact hP.elim
    | some q =>
      rw [hd] at hP
      cases d with
      | tup xs =>
        cases hd
        refine (pi_tup (tg := tg) peW).run pins s σ H R I (hrun _ hL hS ?_)
        rw [hq]
        intro m1 H1 v e1 hS1 r1
        cases r1 with
        | tup sq rs => exact ⟨_, rfl, ⟨_, sq⟩, hP m1 H1 _ e1 hS1 (j_tup sq rs)⟩
      | rol xs =>
        cases hd
        refine (pi_list (tg := tg) peW).run pins s σ H R I (hrun _ hL hS ?_)
        rw [hq]
        intro m1 H1 v e1 hS1 r1
        cases r1 with
        | rol sq rs => exact ⟨_, rfl, ⟨_, sq.sq⟩, hP m1 H1 _ e1 hS1 (j_list fun m H st e s _ => ⟨_, (e.fzl _ _ sq).sq, rs.mono e⟩)⟩
      | ref n =>
        have hd : (lstAt s1 n).map (Sq.cell n) = some q := hd
        simp only [Option.map_eq_some_iff] at hd
        obtain ⟨xs, hx, rfl⟩ := hd
        refine (pi_list (tg := tg) peW).run pins s σ H R I (hrun _ hL hS ?_)
        rw [hq]
        intro m1 H1 v e1 hS1 r1
        cases r1 with
        | ref z =>
          obtain ⟨vs, h1, h2⟩ := hS1.list hx z
          refine ⟨_, rfl, ⟨vs, SqL.of h1⟩, hP m1 H1 _ e1 hS1 (j_list fun m H st e s hc => ?_)⟩
          obtain ⟨us, h3, h4⟩ := s.list (of_decide_eq_true hc) (e.pre _ _ z)
          exact ⟨us, SqL.of h3, h4⟩
      | str x =>
        cases hd
        refine (pi_str (tg := tg) peW).run pins s σ H R I (hrun _ hL hS ?_)
        rw [hq]
        intro m1 H1 v e1 hS1 r1
        cases r1
        exact ⟨_, rfl, hP m1 H1 _ e1 hS1 (j_str x)⟩
      | _ => cases hd
def iEl (f : EM (List D)) : EM Sq := fun τ st => (f τ st).bind fun xs s1 => .ok (.fix xs) s1
theorem ei_el {tg : Expr} {fl : EM (List D)} (h : El X W e fl) : Ei X W tg e (iEl fl) := by
  refine ⟨fun m τ st σ H R hL hS hP pins s I => (pi_list (tg := tg) peW).run pins s σ H R I (h.run m τ st σ H _ hL hS ?_)⟩
  unfold iEl at hP
  cases hq : fl τ st with
  | ok ds s1 =>
    rw [hq] at hP
    intro m1 H1 v e1 hS1 ⟨a, vs, e, ha, na, hn, rs⟩
    exact ⟨a, e, ⟨vs, SqL.of ha⟩, hP m1 H1 _ e1 hS1 (j_list fun m H st e s _ => ⟨vs, SqL.of (e.frm _ _ na ha), rs.mono e⟩)⟩
  | exc x st' =>
    rw [hq] at hP
    exact hP
  | bad =>
    rw [hq] at hP
    exact hP.elim
/-- lo, lo + 1, .. below hi -/
def rng (lo hi : Int) : List D := (List.range (hi - lo).toNat).map fun k => D.int (lo + (k : Nat))
theorem j_rng {K : PySem.W.Frag} {m0 : List Addr} {H0 : Hp} (lo hi : Int) : JOk K m0 H0 (.fix (rng lo hi)) (Itr lo (hi - lo).toNat) := fun m H st e s _ => by
  refine ⟨fun i d hd => ?_, ?_⟩
  · have hd : (rng lo hi)[i]? = some d := hd
    unfold rng at hd
    rw [List.getElem?_map] at hd
    cases hx : (List.range (hi - lo).toNat)[i]? with
    | none =>
      rw [hx] at hd
      cases hd
    | some k =>
      rw [hx] at hd
      cases hd
      obtain ⟨h1, h2⟩ := List.getElem?_eq_some_iff.mp hx
      rw [List.length_range] at h1
      rw [List.getElem_range] at h2
      subst h2
      refine ⟨h1, fun y H' hy => ?_⟩
      obtain ⟨rfl, rfl⟩ := hy
      exact ⟨.refl, s, .int _⟩
  · show (hi - lo).toNat ≤ (rng lo hi).length
    simp [rng]
def okRng (j : Int) : Bool := decide (j.natAbs < 4611686018427387904)
theorem okRng_ok {j : Int} (h : okRng j = true) : -(2 ^ 62) ≤ j ∧ j < 2 ^ 62 := by
  have q : j.natAbs < 4611686018427387904 := of_decide_eq_true h
  have q' : -4611686018427387904 ≤ j ∧ j < 4611686018427387904 := by omega
  exact q'
def iRg1 (f : EM D) : EM Sq := fun τ st => (f τ st).bind fun d s1 => match d with
  | .int j => if okRng j then .ok (.fix (rng 0 j)) s1 else .bad
  | _ => .bad
def iRg2 (fa fb : EM D) : EM Sq := fun τ st => (fa τ st).bind fun d s1 => (fb τ s1).bind fun e s2 => match d, e with
  | .int i, .int j => if okRng i && okRng j then .ok (.fix (rng i j)) s2 else .bad
  | _, _ => .bad
theorem ei_range1 {tg : Expr} (hg : Gl X "range") (hm : X.mg "range" = none) (ha : Ex X W a fa) (hs : starEach [a] X.env = [(false, eval a X.env)] := by rfl) : Ei X W tg (.Call (.Name "range" p) [a] [] pos) (iRg1 fa) := by
  refine ⟨fun m τ st σ H R hL hS hP pins s I => (pi_range1 (tg := tg) hg hm (pa_cons peW pa_nil (by rw [hs]; rfl)) hs).run pins s σ H R I (ha.run m τ st σ H _ hL hS (hP.bind fun d s1 m1 H1 v e1 hS1 r1 hP1 => ?_))⟩
  split at hP1
  · split at hP1
    · rename_i j hj
      cases r1
      obtain ⟨q1, q2⟩ := okRng_ok hj
      refine ⟨j, rfl, q1, q2, hP1.now hS1 ?_⟩
      have z := j_rng (K := X.K) (m0 := m1) (H0 := H1) 0 j
      rw [Int.sub_zero] at z
      exact z
    · exact hP1.elim
  · exact hP1.elim
theorem ei_range2 {tg : Expr} (hg : Gl X "range") (hm : X.mg "range" = none) (ha : Ex X W a fa) (hb : Ex X W b fb) (hs : starEach [a, b] X.env = [(false, eval a X.env), (false, eval b X.env)] := by rfl) (hs2 : starEach [b] X.env = [(false, eval b X.env)] := by rfl) :
    Ei X W tg (.Call (.Name "range" p) [a, b] [] pos) (iRg2 fa fb) := by
  refine ⟨fun m τ st σ H R hL hS hP pins s I => (pi_range2 (tg := tg) hg hm (pa_cons peW (pa_cons peW pa_nil (by rw [hs2]; rfl)) (by rw [hs, hs2])) hs hs2).run pins s σ H R I ?_⟩
  refine two ha hb hL hS hP fun m2 st2 H2 dx dy x y e2 hS2 r1 r2 hP2 => ?_
  split at hP2
  · split at hP2
    · rename_i i j hij
      cases r1
      cases r2
      rw [Bool.and_eq_true] at hij
      obtain ⟨q1, q2⟩ := okRng_ok hij.1
      obtain ⟨q3, q4⟩ := okRng_ok hij.2
      exact ⟨i, j, rfl, ⟨q1, q2, q3, q4⟩, hP2.now hS2 (j_rng i j)⟩
    · exact hP2.elim
  · exact hP2.elim

/-! ### comprehensions -/
def wipeD (τ : Sl) : List Nat → Sl
  | [] => τ
  | v :: vs => (wipeD τ vs).set v none
theorem wipeD_some {τ : Sl} {i : Nat} {d : D} : ∀ {vs : List Nat}, (wipeD τ vs)[i]? = some (some d) → τ[i]? = some (some d) ∧ i ∉ vs
  | [], h => ⟨h, by simp⟩
  | v :: vs, h => by
    unfold wipeD at h
    by_cases hi : v = i
    · subst hi
      by_cases hv : v < (wipeD τ vs).length
      · rw [List.getElem?_set_self hv] at h
        cases h
      · rw [List.getElem?_eq_none (by simpa using hv)] at h
        cases h
    · rw [List.getElem?_set_ne hi] at h
      obtain ⟨h1, h2⟩ := wipeD_some h
      exact ⟨h1, by simp only [List.mem_cons, not_or]; exact ⟨fun e => hi e.symm, h2⟩⟩
theorem wipeD_len (τ : Sl) : ∀ vs : List Nat, (wipeD τ vs).length = τ.length
  | [] => rfl
  | v :: vs => by unfold wipeD; rw [List.length_set, wipeD_len τ vs]
theorem SL.wipe {K : PySem.W.Frag} {m : List Addr} {H : Hp} {τ : Sl} {σ : L2.St} (s : SL K m H τ σ) (vs : List Nat) : SL K m H (wipeD τ vs) (L2.wipe σ vs) :=
  ⟨by rw [wipeD_len, wipe_length, s.len], fun i d h => by
    obtain ⟨h1, h2⟩ := wipeD_some h
    obtain ⟨v, h3, h4⟩ := s.get i d h1
    exact ⟨v, by rw [wipe_out h2]; exact h3, h4⟩⟩
theorem wipe_same {σ σ' : L2.St} {vs : List Nat} (hl : σ'.length = σ.length) (h : ∀ j, j ∉ vs → σ'[j]? = σ[j]?) : L2.wipe σ' vs = L2.wipe σ vs := by
  apply List.ext_getElem?
  intro i
  by_cases hi : i ∈ vs
  · have z : ∀ (τ : L2.St) (us : List Nat), i ∈ us → (L2.wipe τ us)[i]? = if i < τ.length then some none else none := by
      intro τ us
      induction us with
      | nil => intro q; cases q
      | cons u us ih =>
        intro q
        unfold L2.wipe
        by_cases hu : u = i
        · subst hu
          split
          · rename_i hlt
            rw [List.getElem?_set_self (by rw [wipe_length]; exact hlt)]
          · rename_i hlt
            exact List.getElem?_eq_none (by rw [List.length_set, wipe_length]; omega)
        · rw [List.getElem?_set_ne hu]
          exact ih ((List.mem_cons.mp q).resolve_left fun e => hu e.symm)
    rw [z σ' vs hi, z σ vs hi, hl]
  · rw [wipe_out hi, wipe_out hi, h i hi]
/-- no exception leaves here -/
def _root_.HM.ER.bindN {α β : Type} (r : ER α) (k : α → Store → ER β) : ER β := match r with
  | .ok a st => k a st
  | _ => .bad
@[simp] theorem _root_.HM.ER.bindN_ok {α β : Type} (a : α) (st : Store) (k : α → Store → ER β) : (ER.ok a st).bindN k = k a st := rfl
theorem Pe.bindN {α β γ δ : Type} {K : PySem.W.Frag} {E E' : XK} {R : List Addr → Hp → α → β → Prop} {S : List Addr → Hp → γ → δ → Prop} {m : List Addr} {H : Hp} {r : ER α} {Q : β → Hp → Prop} {k : α → Store → ER γ} {Q' : δ → Hp → Prop} (h : Pe K E S m H (r.bindN k) Q')
    (hk : ∀ a st m' H' b, Ext K m H m' H' → SS K m' st H' → R m' H' a b → Pe K E S m' H' (k a st) Q' → Q b H') : Pe K E' R m H r Q := by
  cases r with
  | ok a st => exact fun m' H' b e s q => hk a st m' H' b e s q (Pe.up h e)
  | exc x st => exact h.elim
  | bad => exact h
/-- .. read from an earlier heap -/
theorem Pe.from {α β γ δ : Type} {K : PySem.W.Frag} {E E' : XK} {R : List Addr → Hp → α → β → Prop} {S : List Addr → Hp → γ → δ → Prop} {m m1 : List Addr} {H H1 : Hp} {r : ER α} {Q : β → Hp → Prop} {k : α → Store → ER γ} {Q' : δ → Hp → Prop} (h : Pe K E S m1 H1 (r.bindN k) Q')
    (hk : ∀ a st m' H' b, Ext K m H m' H' → SS K m' st H' → R m' H' a b → Pe K E S m1 H1 (k a st) Q' → Q b H') : Pe K E' R m H r Q := by
  cases r with
  | ok a st => exact fun m' H' b e s q => hk a st m' H' b e s q h
  | exc x st => exact h.elim
  | bad => exact h
/-- the turns of a comprehension -/
def compL (q : Sq) (set : D → Sl → Option Sl) (ft : EM Bool) (fe : EM D) (τ : Sl) : List D → List D → Store → ER (List D)
  | [], acc => fun st => if q.chk st then .ok acc st else .bad
  | d :: ds, acc => fun st => if q.chk st then match set d τ with
    | some τ1 => (ft τ1 st).bindN fun b s1 => if b then (fe τ1 s1).bindN fun x s2 => compL q set ft fe τ ds (acc ++ [x]) s2 else compL q set ft fe τ ds acc s1
    | none => .bad
  else .bad
def lComp (own : List Nat) (fi : EM Sq) (set : D → Sl → Option Sl) (ft : EM Bool) (fe : EM D) : EM (List D) := fun τ st => (fi τ st).bind fun q s1 =>
  if q.items.length ≤ 16777216 then compL q set ft fe (wipeD τ own) q.items [] s1 else .bad
/-- tests of a comprehension -/
def wTs (X : Cx) (ifs : List Expr) : TT := fun σ H Q => ∀ (pins : List (Addr × Obj)) (s : Shared), Inv X pins σ H s → wpAny (model X.prog X.w) X.A (forIn ifs true fun c r => if r = true then do let ok ← isTrue c X.env (eval c X.env); pure (ForInStep.yield ok) else pure (ForInStep.yield r)) (TP X pins σ Q) X.xe s
theorem ptsW {X : Cx} {ifs : List Expr} : PTs X ifs (wTs X ifs) := ⟨fun pins s σ H Q I h => h pins s I⟩
structure Ets (X : Cx) (W : WX) (ifs : List Expr) (f : EM Bool) : Prop where
  run : ∀ (m : List Addr) (τ : Sl) (st : Store) (σ : L2.St) (H : Hp) (Q : Bool → Hp → Prop), SL X.K m H τ σ → SS X.K m st H → Pe X.K (fun c d H' => W c d σ H') RB m H (f τ st) Q → wTs X ifs σ H Q
def tYes : EM Bool := fun _ st => .ok true st
theorem ets_nil : Ets X W [] tYes := ⟨fun m τ st σ H Q hL hS hP pins s I => pts_nil.run pins s σ H Q I (hP.now hS rfl)⟩
theorem ets_one (h : Et X W e g) : Ets X W [e] g := ⟨fun m τ st σ H Q hL hS hP pins s I => (pts_one ptW).run pins s σ H Q I (h.run m τ st σ H Q hL hS hP)⟩
abbrev W0 : WX := fun _ _ _ _ => False
/-- the context of a block, whatever it starts at -/
abbrev Blk (X : Cx) (scope : Scope) (P : Cx → Prop) : Prop := ∀ (s : Shared) (H : Hp) (C : Addr) (cl : List (Str × Addr)) (fp : List Addr), P (X.blk s H scope (compEnvC scope cl C X.env) fp)
abbrev BEx (X : Cx) (scope : Scope) (elt : Expr) (fe : EM D) : Prop := ∀ (s : Shared) (H : Hp) (C : Addr) (cl : List (Str × Addr)) (fp : List Addr), Ex (X.blk s H scope (compEnvC scope cl C X.env) fp) W0 elt fe
abbrev BEt (X : Cx) (scope : Scope) (ifs : List Expr) (ft : EM Bool) : Prop := ∀ (s : Shared) (H : Hp) (C : Addr) (cl : List (Str × Addr)) (fp : List Addr), Ets (X.blk s H scope (compEnvC scope cl C X.env) fp) W0 ifs ft
abbrev BEg (X : Cx) (scope : Scope) (tg : Expr) (ix : List Nat) (set : D → Sl → Option Sl) : Prop := ∀ (s : Shared) (H : Hp) (C : Addr) (cl : List (Str × Addr)) (fp : List Addr), Eg (X.blk s H scope (compEnvC scope cl C X.env) fp) tg ix set
def gAll (X : Cx) (scope : Scope) (tg : Expr) : TG := fun v σ H Q => Blk X scope fun Y => wG Y tg v σ H Q
def tAll (X : Cx) (scope : Scope) (ifs : List Expr) : TT := fun σ H Q => Blk X scope fun Y => wTs Y ifs σ H Q
def eAll (X : Cx) (scope : Scope) (e : Expr) : TE := fun σ H Q => Blk X scope fun Y => wE Y e σ H Q
/-- one turn after another -/
theorem comp_read {tg elt : Expr} {ifs : List Expr} {scope : Scope} {ix own : List Nat} {set : D → Sl → Option Sl} {ft : EM Bool} {fe : EM D} (hown : ∀ i ∈ ix, i ∈ own) (hg : BEg X scope tg ix set) (ht : BEt X scope ifs ft) (he : BEx X scope elt fe)
    {m0 : List Addr} {τ : Sl} {σ : L2.St} {H0 H1 : Hp} {st0 : Store} {m1 : List Addr} {q : Sq} {J : It} {Q : VK} {E : XK} (e1 : Ext X.K m0 H0 m1 H1) (hL : SL X.K m1 H1 τ σ) (hS : SS X.K m1 st0 H1) (hJ : JOk X.K m1 H1 q J) (hz : q.items.length ≤ 16777216)
    (hP : Pe X.K E (fun m' H' ds v => ∃ a vs, v = .ref a ∧ H' a = some (.lst vs) ∧ a ∉ m' ∧ H0 a = none ∧ RDs X.K m' H' ds vs) m1 H1 (compL q set ft fe (wipeD τ own) q.items [] st0) Q) (D' : Addr) (hD : H1 D' = none) :
    ∃ W : Nat → Nat → Hp → Prop, (∃ m, W 0 m (upd H1 D' (.lst []))) ∧ ∀ i m H, W i m H →
      (J.stop i H ∧ Q (.ref D') H) ∨ (J.go i H ∧ ∃ Nx : Hp → Prop, (∀ H', Nx H' → ∃ m', m' < m ∧ W (i + 1) m' H') ∧ ∀ x H', J.yld i H x H' → gAll X scope tg x (L2.wipe σ own) H' fun σ2 H2 => L2.wipe σ2 own = L2.wipe σ own ∧ tAll X scope ifs σ2 H2 fun b H3 =>
        if b = true then eAll X scope elt σ2 H3 fun y H4 => ∃ acc, H4 D' = some (.lst acc) ∧ acc.length < sizeLine ∧ Nx (upd H4 D' (.lst (acc ++ [y]))) else Nx H3) := by
  have hD0 : H0 D' = none := e1.back hS hD
  have hn : D' ∉ m1 := hS.notin hD
  obtain ⟨Z, hZ⟩ : ∃ Z : Nat → Hp → Prop, Z = fun i H => i ≤ q.items.length ∧ ∃ (m : List Addr) (st : Store) (acc : List D) (vs : List V), Ext X.K m1 H1 m H ∧ D' ∉ m ∧ SS X.K m st H ∧ H D' = some (.lst vs) ∧ RDs X.K m H acc vs ∧ acc.length ≤ i ∧
    Pe X.K E (fun m' H' ds v => ∃ a vs, v = .ref a ∧ H' a = some (.lst vs) ∧ a ∉ m' ∧ H0 a = none ∧ RDs X.K m' H' ds vs) m1 H1 (compL q set ft fe (wipeD τ own) (q.items.drop i) acc st) Q := ⟨_, rfl⟩
  refine ⟨fun i k H => k = q.items.length - i ∧ Z i H, ⟨_, rfl, ?_⟩, ?_⟩
  · rw [hZ]
    refine ⟨Nat.zero_le _, m1, st0, [], [], Ext.fresh hD, hn, hS.fresh hD, upd_same, .nil, Nat.le_refl _, ?_⟩
    rw [List.drop_zero]
    exact hP
  · rintro i k H ⟨rfl, hZi⟩
    rw [hZ] at hZi
    obtain ⟨hi, m, st, acc, vs, e, hm, s, hd, rs, hacc, hP⟩ := hZi
    by_cases hlt : i < q.items.length
    · rw [List.drop_eq_getElem_cons hlt] at hP
      unfold compL at hP
      split at hP
      · rename_i hc
        obtain ⟨hgo, _⟩ := hJ m H st e s hc
        obtain ⟨go, yl⟩ := hgo i q.items[i] (by simp [hlt])
        split at hP
        · rename_i τ1 hset
          refine .inr ⟨go, Z (i + 1), fun H' h => ⟨q.items.length - (i + 1), by omega, rfl, h⟩, fun x H' hy s0 H0' C cl fp => ?_⟩
          obtain ⟨e2, s2, r2⟩ := yl x H' hy
          refine (hg s0 H0' C cl fp).run m _ τ1 st _ H' _ x _ ((hL.mono (e.trans e2)).wipe own) s2 r2 hset fun σ2 l1 l2 hL2 => ?_
          have l3 : σ2.length = σ.length := by rw [l1, wipe_length]
          have l4 : ∀ j, j ∉ own → σ2[j]? = σ[j]? := fun j hj => by rw [l2 j fun z => hj (hown j z), wipe_out hj]
          refine ⟨wipe_same l3 l4, fun s0 H0' C cl fp => ?_⟩
          have keep : ∀ {m' : List Addr} {H' : Hp}, Ext X.K m H m' H' → H' D' = some (.lst vs) ∧ D' ∉ m' := fun {m' H'} e => by
            refine ⟨e.frm D' _ hm hd, fun z => ?_⟩
            have q := e.new D' z hm
            rw [hd] at q
            cases q
          refine (ht s0 H0' C cl fp).run m τ1 st σ2 H' _ hL2 s2 (Pe.from (m := m) (H := H') hP fun b s3 m3 H3 b' e3 hS3 r3 hP3 => ?_)
          subst r3
          cases b with
          | false =>
            refine iteF ?_
            rw [hZ]
            obtain ⟨k1, k2⟩ := keep (e2.trans e3)
            exact ⟨by omega, m3, s3, acc, vs, e.trans (e2.trans e3), k2, hS3, k1, rs.mono (e2.trans e3), by omega, hP3⟩
          | true =>
            refine iteT fun s0 H0' C cl fp => (he s0 H0' C cl fp).run m3 τ1 s3 σ2 H3 _ (hL2.mono e3) hS3 (Pe.from (m := m3) (H := H3) (k := fun x s2 => compL q set ft fe (wipeD τ own) (List.drop (i + 1) q.items) (acc ++ [x]) s2) hP3 fun y s4 m4 H4 y' e4 hS4 r4 hP4 => ?_)
            obtain ⟨k1, k2⟩ := keep ((e2.trans e3).trans e4)
            have rs4 := rs.mono ((e2.trans e3).trans e4)
            have hz' : vs.length < sizeLine := by
              rw [← rs.len, PySem.sizeLine_eq]
              omega
            have e5 : Ext X.K m1 H1 m4 H4 := e.trans ((e2.trans e3).trans e4)
            have e6 : Ext X.K m1 H1 m4 (upd H4 D' (.lst (vs ++ [y']))) := {
              pre := e5.pre
              tup := fun a us h => (Kp.write (K := X.K) (m := m4) k1).tup a us (e5.tup a us h)
              fzl := fun a us h => (Kp.write (K := X.K) (m := m4) k1).fzl a us (e5.fzl a us h)
              frm := fun a o q h => by
                rw [upd_ne (ne_of_none h hD)]
                exact e5.frm a o q h
              new := e5.new }
            refine ⟨vs, k1, hz', ?_⟩
            rw [hZ]
            refine ⟨by omega, m4, s4, acc ++ [y], vs ++ [y'], e6, k2, hS4.other k1 k2, upd_same, (rs4.append (.cons r4 .nil)).kp (Kp.write k1), by rw [List.length_append, List.length_singleton]; omega, ?_⟩
            exact hP4
        · exact hP.elim
      · exact hP.elim
    · have e0 : i = q.items.length := by omega
      subst e0
      rw [List.drop_length] at hP
      unfold compL at hP
      split at hP
      · rename_i hc
        obtain ⟨_, stop⟩ := hJ m H st e s hc
        exact .inl ⟨stop, hP m H (.ref D') e s ⟨D', vs, rfl, hd, hm, hD0, rs⟩⟩
      · exact hP.elim
end
end HM

/-! HM, part 6: list comprehensions, statements. -/
namespace HM
open PySem PySem.Spec PyProof.Rows L2
section
variable {X : Cx} {W : WX} {e a b c : Expr} {es rest : List Expr} {pos p : Pos} {f fa fb fc : EM D} {fs : EM (List D)} {g ga gb : EM Bool}
theorem comp_post {tg elt iter : Expr} {ifs : List Expr} {scope : Scope} {own : List (Str × Nat)} {ix : List Nat} {set : D → Sl → Option Sl} {ft : EM Bool} {fe : EM D} {fi : EM Sq} (hi : Ei X W tg iter fi) (hown : ∀ i ∈ ix, i ∈ own.map (·.2))
    (hg : BEg X scope tg ix set) (ht : BEt X scope ifs ft) (he : BEx X scope elt fe) {m : List Addr} {τ : Sl} {st : Store} {σ : L2.St} {H : Hp} {Q : VK} (hL : SL X.K m H τ σ) (hS : SS X.K m st H)
    (hP : Pe X.K (fun c d H' => W c d σ H') (fun m' H' ds v => ∃ a vs, v = .ref a ∧ H' a = some (.lst vs) ∧ a ∉ m' ∧ H a = none ∧ RDs X.K m' H' ds vs) m H (lComp (own.map (·.2)) fi set ft fe τ st) Q) :
    tLc (wI X tg iter) (gAll X scope tg) (tAll X scope ifs) (eAll X scope elt) (own.map (·.2)) σ H Q := by
  unfold lComp at hP
  refine hi.run m τ st σ H _ hL hS ?_
  cases hq : fi τ st with
  | bad =>
    rw [hq] at hP
    exact hP.elim
  | exc x s1 =>
    rw [hq] at hP
    exact hP
  | ok q s1 =>
    rw [hq] at hP
    intro m1 H1 J e1 hS1 hJ D' hD
    have hP : Pe X.K (fun c d H' => W c d σ H') (fun m' H' ds v => ∃ a vs, v = .ref a ∧ H' a = some (.lst vs) ∧ a ∉ m' ∧ H a = none ∧ RDs X.K m' H' ds vs) m H (if q.items.length ≤ 16777216 then compL q set ft fe (wipeD τ (own.map (·.2))) q.items [] s1 else .bad) Q := hP
    split at hP
    · rename_i hz
      exact comp_read (E := fun c d H' => W c d σ H') hown hg ht he e1 (hL.mono e1) hS1 hJ hz (hP.up e1) D' hD
    · exact hP.elim
theorem el_comp {tg elt iter : Expr} {ifs : List Expr} {scope : Scope} {own : List (Str × Nat)} {ix : List Nat} {set : D → Sl → Option Sl} {ft : EM Bool} {fe : EM D} {fi : EM Sq} (hc : X.calm = true) (hN : X.N.Nodup) (hi : Ei X W tg iter fi) (ok : BlkOk X.N X.env.scope scope own)
    (hg : BEg X scope tg ix set) (ht : BEt X scope ifs ft) (he : BEx X scope elt fe) (hown : ∀ i ∈ ix, i ∈ own.map (·.2) := by decide) (hs : ∀ x, foldedSetIterable iter X.env x = pure x := by intro _; rfl) :
    El X W (.ListComp elt [⟨tg, iter, ifs, 0⟩] scope pos) (lComp (own.map (·.2)) fi set ft fe) := by
  refine ⟨fun m τ st σ H Q hL hS hP pins s I => ?_⟩
  refine (pe_lc (g := gAll X scope tg) (tt := tAll X scope ifs) (te := eAll X scope elt) hc hN piW ok ?_ ?_ ?_ hs).run pins s σ H Q I (comp_post hi hown hg ht he hL hS hP)
  · exact fun s H C cl fp => ⟨fun pins s' σ H' v u Q I r h => h s H C cl fp pins s' u I r⟩
  · exact fun s H C cl fp => ⟨fun pins s' σ H' Q I h => h s H C cl fp pins s' I⟩
  · exact fun s H C cl fp => ⟨fun pins s' σ H' Q I h => h s H C cl fp pins s' I⟩
end

/-! ### statements -/
/-- behind a statement -/
def Ps (K : PySem.W.Frag) (W : WX) (m : List Addr) (H : Hp) (r : SR) (D : Ends) : Prop := match r with
  | .nx τ st => ∀ m' H' σ, Ext K m H m' H' → SS K m' st H' → SL K m' H' τ σ → D.nx σ H'
  | .bk τ st => ∀ m' H' σ, Ext K m H m' H' → SS K m' st H' → SL K m' H' τ σ → D.bk σ H'
  | .ct τ st => ∀ m' H' σ, Ext K m H m' H' → SS K m' st H' → SL K m' H' τ σ → D.ct σ H'
  | .rt d st => ∀ m' H' v, Ext K m H m' H' → SS K m' st H' → RD K m' H' d v → D.rt v H'
  | .exc x τ st => ∀ m' H' σ c d, Ext K m H m' H' → SS K m' st H' → SL K m' H' τ σ → XR K m' H' x c d → W c d σ H'
  | .bad => False
theorem Ps.up {K : PySem.W.Frag} {W : WX} {m m1 : List Addr} {H H1 : Hp} {r : SR} {D : Ends} (h : Ps K W m H r D) (e : Ext K m H m1 H1) : Ps K W m1 H1 r D := by
  cases r with
  | nx τ st => exact fun m' H' σ e' => h m' H' σ (e.trans e')
  | bk τ st => exact fun m' H' σ e' => h m' H' σ (e.trans e')
  | ct τ st => exact fun m' H' σ e' => h m' H' σ (e.trans e')
  | rt d st => exact fun m' H' σ e' => h m' H' σ (e.trans e')
  | exc x τ st => exact fun m' H' σ c d e' => h m' H' σ c d (e.trans e')
  | bad => exact h
def wS (X : Cx) (st : Stmt) : TS := fun D σ H => ∀ (pins : List (Addr × Obj)) (s : Shared), Inv X pins σ H s → wpAny (model X.prog X.w) X.A (exec st X.env) (SP X pins D) X.xe s
def wSs (X : Cx) (st : List Stmt) : TS := fun D σ H => ∀ (pins : List (Addr × Obj)) (s : Shared), Inv X pins σ H s → wpAny (model X.prog X.w) X.A (execs st X.env) (SP X pins D) X.xe s
theorem psW {X : Cx} {st : Stmt} : PS X st (wS X st) := ⟨fun pins s σ H D I h => h pins s I⟩
theorem pssW {X : Cx} {st : List Stmt} : PSs X st (wSs X st) := ⟨fun pins s σ H D I h => h pins s I⟩
structure Sx (X : Cx) (W : WX) (st : Stmt) (f : SM) : Prop where
  run : ∀ (m : List Addr) (τ : Sl) (s : Store) (σ : L2.St) (H : Hp) (D : Ends), SL X.K m H τ σ → SS X.K m s H → Ps X.K W m H (f τ s) D → wS X st D σ H
structure Sxs (X : Cx) (W : WX) (st : List Stmt) (f : SM) : Prop where
  run : ∀ (m : List Addr) (τ : Sl) (s : Store) (σ : L2.St) (H : Hp) (D : Ends), SL X.K m H τ σ → SS X.K m s H → Ps X.K W m H (f τ s) D → wSs X st D σ H
/-- an expression, then the rest of a statement -/
def bindE {α : Type} (r : ER α) (τ : Sl) (k : α → Store → SR) : SR := match r with
  | .ok a st => k a st
  | .exc x st => .exc x τ st
  | .bad => .bad
@[simp] theorem bindE_ok {α : Type} (a : α) (st : Store) (τ : Sl) (k : α → Store → SR) : bindE (.ok a st) τ k = k a st := rfl
@[simp] theorem bindE_exc {α : Type} (x : Xc) (st : Store) (τ : Sl) (k : α → Store → SR) : bindE (.exc x st : ER α) τ k = .exc x τ st := rfl
@[simp] theorem bindE_bad {α : Type} (τ : Sl) (k : α → Store → SR) : bindE (.bad : ER α) τ k = .bad := rfl
theorem Ps.bind {α β : Type} {K : PySem.W.Frag} {W : WX} {R : List Addr → Hp → α → β → Prop} {m : List Addr} {H : Hp} {r : ER α} {τ : Sl} {σ : L2.St} {k : α → Store → SR} {D : Ends} {Q : β → Hp → Prop} (hL : SL K m H τ σ) (h : Ps K W m H (bindE r τ k) D)
    (hk : ∀ a st m' H' b, Ext K m H m' H' → SS K m' st H' → R m' H' a b → Ps K W m' H' (k a st) D → Q b H') : Pe K (fun c d H' => W c d σ H') R m H r Q := by
  cases r with
  | ok a st => exact fun m' H' b e s q => hk a st m' H' b e s q (Ps.up h e)
  | exc x st => exact fun m' H' c d e s q => h m' H' σ c d e s (hL.mono e) q
  | bad => exact h
def sSeq (f g : SM) : SM := fun τ st => match f τ st with
  | .nx τ1 s1 => g τ1 s1
  | r => r
def sNil : SM := fun τ st => .nx τ st
section
variable {X : Cx} {W : WX} {e a b c : Expr} {es rest : List Expr} {pos p : Pos} {fa fb fc fe : EM D} {fs : EM (List D)} {g ga gb : EM Bool} {s1 : Stmt} {ss body : List Stmt} {f h k : SM}
theorem sx_nil : Sxs X W [] sNil := ⟨fun m τ s σ H D hL hS hP pins sh I => pss_nil.run pins sh σ H D I (hP m H σ .refl hS hL)⟩
theorem sx_cons (h1 : Sx X W s1 f) (h2 : Sxs X W ss h) : Sxs X W (s1 :: ss) (sSeq f h) := by
  refine ⟨fun m τ s σ H D hL hS hP pins sh I => (pss_cons psW pssW).run pins sh σ H D I (h1.run m τ s σ H _ hL hS ?_)⟩
  unfold sSeq at hP
  cases hq : f τ s with
  | nx τ1 s1 =>
    rw [hq] at hP
    exact fun m1 H1 σ1 e1 hS1 hL1 => h2.run m1 τ1 s1 σ1 H1 D hL1 hS1 (hP.up e1)
  | bk τ1 s1 =>
    rw [hq] at hP
    exact hP
  | ct τ1 s1 =>
    rw [hq] at hP
    exact hP
  | rt d s1 =>
    rw [hq] at hP
    exact hP
  | exc x τ1 s1 =>
    rw [hq] at hP
    exact hP
  | bad =>
    rw [hq] at hP
    exact hP
theorem sx_one (h1 : Sx X W s1 f) : Sxs X W [s1] f := by
  refine ⟨fun m τ s σ H D hL hS hP pins sh I => (pss_one psW).run pins sh σ H D I (h1.run m τ s σ H _ hL hS hP)⟩
theorem sx_pass : Sx X W (.Pass pos) sNil := ⟨fun m τ s σ H D hL hS hP pins sh I => ps_pass.run pins sh σ H D I (hP m H σ .refl hS hL)⟩
def sBrk : SM := fun τ st => .bk τ st
def sCnt : SM := fun τ st => .ct τ st
theorem sx_break : Sx X W (.Break pos) sBrk := ⟨fun m τ s σ H D hL hS hP pins sh I => ps_break.run pins sh σ H D I (hP m H σ .refl hS hL)⟩
theorem sx_continue : Sx X W (.Continue pos) sCnt := ⟨fun m τ s σ H D hL hS hP pins sh I => ps_continue.run pins sh σ H D I (hP m H σ .refl hS hL)⟩
def sRet (fe : EM D) : SM := fun τ st => bindE (fe τ st) τ fun d s1 => .rt d s1
theorem sx_ret (he : Ex X W e fe) : Sx X W (.Return (some e) pos) (sRet fe) := by
  refine ⟨fun m τ s σ H D hL hS hP pins sh I => (ps_ret peW).run pins sh σ H D I ?_⟩
  exact he.run m τ s σ H _ hL hS (hP.bind hL fun d s1 m1 H1 v e1 hS1 r1 hP1 => hP1 m1 H1 v .refl hS1 r1)
def sRetN : SM := fun _ st => .rt .non st
theorem sx_retN : Sx X W (.Return none pos) sRetN := ⟨fun m τ s σ H D hL hS hP pins sh I => ps_retN.run pins sh σ H D I (hP m H .non .refl hS .non)⟩
def sExpr (fe : EM D) : SM := fun τ st => bindE (fe τ st) τ fun _ s1 => .nx τ s1
theorem sx_expr (he : Ex X W e fe) (hs : swapsWith e none pos.line X.env = pure false := by rfl) : Sx X W (.Expr e pos) (sExpr fe) := by
  refine ⟨fun m τ s σ H D hL hS hP pins sh I => (ps_expr peW hs).run pins sh σ H D I ?_⟩
  exact he.run m τ s σ H _ hL hS (hP.bind hL fun d s1 m1 H1 v e1 hS1 r1 hP1 => hP1 m1 H1 σ .refl hS1 (hL.mono e1))
def sIf (g : EM Bool) (f h : SM) : SM := fun τ st => bindE (g τ st) τ fun b s1 => if b then f τ s1 else h τ s1
theorem sx_if {sa sb : List Stmt} (hc : Et X W c g) (ha : Sxs X W sa f) (hb : Sxs X W sb h) : Sx X W (.If c sa sb pos) (sIf g f h) := by
  refine ⟨fun m τ s σ H D hL hS hP pins sh I => (ps_if ptW pssW pssW).run pins sh σ H D I ?_⟩
  refine hc.run m τ s σ H _ hL hS (hP.bind hL fun d s1 m1 H1 v e1 hS1 r1 hP1 => ?_)
  subst r1
  cases d with
  | true => exact iteT (ha.run m1 τ s1 σ H1 D (hL.mono e1) hS1 hP1)
  | false => exact iteF (hb.run m1 τ s1 σ H1 D (hL.mono e1) hS1 hP1)
/-- name = e -/
def sSet (i : Nat) (fe : EM D) : SM := fun τ st => bindE (fe τ st) τ fun d s1 => .nx (τ.set i (some d)) s1
theorem sx_set {i : Nat} {x : Str} {pos' : Pos} (hN : X.N.Nodup) (he : Ex X W e fe) (hi : X.N[i]? = some x := by rfl) (hx : Loc X.env.scope x := by first | exact Or.inl rfl | exact Or.inr rfl) (hs : swapsWith e (some (.Name x pos')) pos.line X.env = pure false := by rfl)
    (hf : X.fn x = true ∨ X.env.scope.names.lookup x = some .local := by first | exact .inl rfl | exact .inr rfl) : Sx X W (.Assign [.Name x pos'] e pos) (sSet i fe) := by
  refine ⟨fun m τ s σ H D hL hS hP pins sh I => (ps_set hN hi hx peW hs hf).run pins sh σ H D I ?_⟩
  exact he.run m τ s σ H _ hL hS (hP.bind hL fun d s1 m1 H1 v e1 hS1 r1 hP1 => hP1 m1 H1 _ .refl hS1 ((hL.mono e1).set i r1))
/-- target = e -/
def sAsg (set : D → Sl → Option Sl) (fe : EM D) : SM := fun τ st => bindE (fe τ st) τ fun d s1 => match set d τ with
  | some τ1 => .nx τ1 s1
  | none => .bad
theorem sx_asg {tg : Expr} {ix : List Nat} {set : D → Sl → Option Sl} (he : Ex X W e fe) (hg : Eg X tg ix set) (hs : swapsWithSole [tg] e pos.line X.env = pure false := by rfl) (hw : swappedStores [tg] e X.env = pure none := by rfl) (h1 : (assignEach [tg] X.env).map (·.2) = [assign tg X.env] := by rfl) : Sx X W (.Assign [tg] e pos) (sAsg set fe) := by
  refine ⟨fun m τ s σ H D hL hS hP pins sh I => (ps_asg peW pgW hs hw h1).run pins sh σ H D I ?_⟩
  refine he.run m τ s σ H _ hL hS (hP.bind hL fun d s1 m1 H1 v e1 hS1 r1 hP1 => ?_)
  split at hP1
  · rename_i τ1 hset
    exact hg.run m1 τ τ1 s1 σ H1 d v _ (hL.mono e1) hS1 r1 hset fun σ2 _ _ hL2 => hP1 m1 H1 σ2 .refl hS1 hL2
  · exact hP1.elim
/-- name op= e -/
def sAug (i : Nat) (o : O2) (fe : EM D) : SM := fun τ st => match τ[i]? with
  | some (some x) => bindE (fe τ st) τ fun y s1 => bindE (o x y s1) τ fun z s2 => .nx (τ.set i (some z)) s2
  | _ => .bad
theorem sx_aug {i : Nat} {x : Str} {pos' : Pos} {op : Operator} {o : O2} (hN : X.N.Nodup) (he : Ex X W e fe) (ho : OpM X W (inplaceOp op) o) (hi : X.N[i]? = some x := by rfl) (hx : Loc X.env.scope x := by first | exact Or.inl rfl | exact Or.inr rfl)
    (hf : X.fn x = true ∨ X.env.scope.names.lookup x = some .local := by first | exact .inl rfl | exact .inr rfl) : Sx X W (.AugAssign (.Name x pos') op e pos) (sAug i o fe) := by
  refine ⟨fun m τ s σ H D hL hS hP pins sh I => ?_⟩
  unfold sAug at hP
  split at hP
  · rename_i d0 hd0
    obtain ⟨v0, h1, h2⟩ := hL.get i d0 hd0
    obtain ⟨mm, hn, hl⟩ := I.loc
    have vis : Vis X.env.scope x := by
      rcases hx with k | k
      · exact .inl k
      · exact .inr (.inl k)
    obtain ⟨u0, r0, l⟩ := hl i x v0 hi h1 vis
    refine wpAny_AugAssign_Name ?_
    have go : wpAny (model X.prog X.w) X.A (eval e X.env) (fun w s₂ => wpAny (model X.prog X.w) X.A (inplaceOp op u0 w) (fun r s₃ => wpAny (model X.prog X.w) X.A (storeName X.env x r) (fun _ => SP X pins D .next) X.xe s₃) X.xe s₂) X.xe sh := by
      refine thn (he.run m τ s σ H (fun y H1 => wR2 X (inplaceOp op) σ v0 y H1 fun z H2 => D.nx (σ.set i (some z)) H2) hL hS (hP.bind hL fun dy s1 m1 H1 y e1 hS1 r1 hP1 pins s v u I rx ry => ?_) pins sh I) fun w s1 ⟨y, H1, I1, r1, q1⟩ => ?_
      · exact ho m1 s1 σ H1 d0 dy v0 y _ hS1 (h2.mono e1) r1 (hP1.bind (hL.mono e1) fun dz s2 m2 H2 z e2 hS2 r2 hP2 => hP2 m2 H2 _ .refl hS2 (((hL.mono e1).mono e2).set i r2)) pins s v u I rx ry
      · refine thn (q1 pins s1 u0 w I1 r0 r1) fun z s2 ⟨zv, H2, I2, r2, q2⟩ => ?_
        exact store_ok I2 hN hi hx r2 (fun s3 I3 => ⟨_, H2, I3, q2⟩) hf
    rcases l with ⟨hk, hm⟩ | ⟨hk, c, hc, hcell⟩
    · exact wpAny_loadName_local I.ok.kind hk hn hm go
    · rcases hk with hk | hk
      · exact wpAny_loadName_cell I.ok.kind hk hc hcell go
      · rcases hx with k | k
        · have : X.env.scope.names.lookup x = some .free := hk
          rw [k] at this
          cases this
        · have : X.env.scope.names.lookup x = some .free := hk
          rw [k] at this
          cases this
  · exact hP.elim
/-- o[i] = e (a list) -/
def oSet : D → D → D → Store → Option Store := fun o i v st => match o, i with
  | .ref n, .int k => match lstAt st n with
    | some xs => match ixN xs.length k with
      | some j => some (st.set n (.lst (xs.set j v)))
      | none => none
    | none => none
  | _, _ => none
/-- the order: the value, then the object, then the index -/
def sSub (fo fi fe : EM D) : SM := fun τ st => bindE (fe τ st) τ fun v s1 => bindE (fo τ s1) τ fun o s2 => bindE (fi τ s2) τ fun i s3 => match oSet o i v s3 with
  | some s4 => .nx τ s4
  | none => .bad
theorem set_read {K : PySem.W.Frag} {m : List Addr} {st st' : Store} {H : Hp} {o i v : D} {vo vi vv : V} (hS : SS K m st H) (ro : RD K m H o vo) (ri : RD K m H i vi) (rv : RD K m H v vv) (h : oSet o i v st = some st') :
    ∃ p xs k j, vo = .ref p ∧ vi = .int k ∧ H p = some (.lst xs) ∧ ixN xs.length k = some j ∧ Ext K m H m (upd H p (.lst (xs.set j vv))) ∧ SS K m st' (upd H p (.lst (xs.set j vv))) := by
  unfold oSet at h
  split at h
  · split at h
    · rename_i xs hx
      split at h
      · rename_i j hj
        cases h
        cases ro with
        | ref q =>
          cases ri
          obtain ⟨vs, h1, h2⟩ := hS.list hx q
          exact ⟨_, vs, _, j, rfl, rfl, h1, by rw [← h2.len]; exact hj, Ext.write h1 q, hS.write h1 q (h2.set rv j)⟩
      · cases h
    · cases h
  · cases h
theorem sx_sub {o i : Expr} {p' : Pos} {fo fi : EM D} (he : Ex X W e fe) (ho : Ex X W o fo) (hi : Ex X W i fi)
    (ha : ∀ v, assign (.Subscript o i p') X.env v = (do
      let ov ← holding [v] (eval o X.env)
      let iv ← holding [v, ov] (eval i X.env)
      standAt p'
      holding [v, ov, iv] (setItem ov iv v)
      release [v, ov, iv] []) := by intro _; rfl)
    (hs : swapsWithSole [.Subscript o i p'] e pos.line X.env = pure false := by rfl) (hw : swappedStores [.Subscript o i p'] e X.env = pure none := by rfl) (h1 : (assignEach [.Subscript o i p'] X.env).map (·.2) = [assign (.Subscript o i p') X.env] := by rfl) : Sx X W (.Assign [.Subscript o i p'] e pos) (sSub fo fi fe) := by
  refine ⟨fun m τ s σ H D hL hS hP pins sh I => (ps_asg peW (pg_sub peW peW set_list ha) hs hw h1).run pins sh σ H D I ?_⟩
  refine he.run m τ s σ H _ hL hS (hP.bind hL fun v s1 m1 H1 vv e1 hS1 r1 hP1 => ?_)
  refine ho.run m1 τ s1 σ H1 _ (hL.mono e1) hS1 (hP1.bind (hL.mono e1) fun o s2 m2 H2 vo e2 hS2 r2 hP2 => ?_)
  refine hi.run m2 τ s2 σ H2 _ ((hL.mono e1).mono e2) hS2 (hP2.bind ((hL.mono e1).mono e2) fun i s3 m3 H3 vi e3 hS3 r3 hP3 => ?_)
  split at hP3
  · rename_i s4 h4
    obtain ⟨p, xs, k, j, q1, q2, q3, q4, q5, q6⟩ := set_read hS3 (r2.mono e3) r3 ((r1.mono e2).mono e3) h4
    exact ⟨p, xs, k, j, q1, q2, q3, q4, hP3 m3 _ σ q5 q6 ((((hL.mono e1).mono e2).mono e3).mono q5)⟩
  · exact hP3.elim
/-- o[i] op= e -/
def oGetL : O2 := fun x i st => match x, i with
  | .ref n, .int k => match lstAt st n with
    | some xs => match atI xs k with
      | some d => .ok d st
      | none => .bad
    | none => .bad
  | _, _ => .bad
def sAugS (o : O2) (fo fi fe : EM D) : SM := fun τ st => bindE (fo τ st) τ fun x s1 => bindE (fi τ s1) τ fun i s2 => bindE (oGetL x i s2) τ fun y s3 => bindE (fe τ s3) τ fun z s4 => bindE (o y z s4) τ fun v s5 => match oSet x i v s5 with
  | some s6 => .nx τ s6
  | none => .bad
theorem get_list : PGet X (rIxL X.K) := by
  intro pins s σ H x y v u Q I rx ry h
  obtain ⟨p, xs, i, z, rfl, rfl, hq, he, q⟩ := h
  cases rx
  obtain ⟨t, rfl⟩ := ry
  obtain ⟨its, r, pl, hz⟩ := I.list hq
  obtain ⟨j, h1, h2, h3, h4, h5⟩ := atI_get he
  obtain ⟨w, ew, rw'⟩ := r.get h2
  have hl := r.length
  have hn := line63
  have fin : EP X pins σ Q w s := ⟨z, H, I, rw', q⟩
  by_cases h0 : 0 ≤ i
  · have hj : i.toNat = j := by
      rw [seqIndex_of h0 h5] at h1
      exact Option.some.inj h1
    exact wpAny_getItem_list pl.isList h0 (by omega) (by rw [hj]; simpa using ew) fin
  · have hj : (i + (its.toArray.size : Int)).toNat = j := by
      rw [seqIndex_neg (by omega) h4] at h1
      rw [List.size_toArray, ← hl]
      exact Option.some.inj h1
    exact wpAny_getItem_list_neg pl.isList (by omega) (by rw [List.size_toArray] <;> omega) (by omega) (by rw [hj]; simpa using ew) fin
theorem getL_read {K : PySem.W.Frag} {E : XK} {m : List Addr} {st : Store} {H : Hp} {x i : D} {vx vi : V} {Q : VK} (hS : SS K m st H) (rx : RD K m H x vx) (ri : RD K m H i vi) (h : Pe K E (RD K) m H (oGetL x i st) Q) : rIxL K vx vi H Q := by
  unfold oGetL at h
  split at h
  · split at h
    · split at h
      · rename_i xs hx _ d hd
        cases rx with
        | ref q =>
          cases ri
          obtain ⟨vs, h1, h2⟩ := hS.list hx q
          obtain ⟨v, h3, h4⟩ := atI_rds h2 hd
          exact ⟨_, vs, _, v, rfl, rfl, SqL.of h1, h3, h.now hS h4⟩
      · exact h.elim
    · exact h.elim
  · exact h.elim
theorem sx_augS {o i : Expr} {p' : Pos} {fo fi : EM D} {op : Operator} {op2 : O2} (ho : Ex X W o fo) (hi : Ex X W i fi) (he : Ex X W e fe) (hop : OpM X W (inplaceOp op) op2)
    (ha : ∀ ov iv new, augStore i ov iv new = (do holding [new, ov, iv] (setItem ov iv new); release [new, ov, iv] []; pure .next) := by intros; rfl) : Sx X W (.AugAssign (.Subscript o i p') op e pos) (sAugS op2 fo fi fe) := by
  refine ⟨fun m τ s σ H D hL hS hP pins sh I => ?_⟩
  have read : wE X o σ H fun vo H1 => wE X i σ H1 fun vi H2 => rIxL X.K vo vi H2 fun vy H3 => wE X e σ H3 fun vz H4 => wR2 X (inplaceOp op) σ vy vz H4 fun vv H5 => rSetL vo vi vv H5 fun H6 => D.nx σ H6 := by
    refine ho.run m τ s σ H _ hL hS (hP.bind hL fun dx s1 m1 H1 vx e1 hS1 r1 hP1 => ?_)
    have hL1 := hL.mono e1
    refine hi.run m1 τ s1 σ H1 _ hL1 hS1 (hP1.bind hL1 fun di s2 m2 H2 vi e2 hS2 r2 hP2 => ?_)
    have hL2 := hL1.mono e2
    refine getL_read hS2 (r1.mono e2) r2 (hP2.bind hL2 fun dy s3 m3 H3 vy e3 hS3 r3 hP3 => ?_)
    have hL3 := hL2.mono e3
    refine he.run m3 τ s3 σ H3 _ hL3 hS3 (hP3.bind hL3 fun dz s4 m4 H4 vz e4 hS4 r4 hP4 => ?_)
    have hL4 := hL3.mono e4
    intro pins s v u I rv ru
    refine hop m4 s4 σ H4 dy dz vy vz _ hS4 (r3.mono e4) r4 (hP4.bind hL4 fun dv s5 m5 H5 vv e5 hS5 r5 hP5 => ?_) pins s v u I rv ru
    have hL5 := hL4.mono e5
    split at hP5
    · rename_i s6 h6
      have e25 := ((e3.trans e4).trans e5)
      obtain ⟨p, xs, k, j, q1, q2, q3, q4, q5, q6⟩ := set_read hS5 ((r1.mono e2).mono e25) (r2.mono e25) r5 h6
      exact ⟨p, xs, k, j, q1, q2, q3, q4, hP5 m5 _ σ q5 q6 (hL5.mono q5)⟩
    · exact hP5.elim
  refine wpAny_AugAssign_SubscriptAny (thn (read pins sh I) fun ov s1 ⟨x1, H1, I1, r1, q1⟩ => ?_) ha
  refine thn (q1 pins s1 I1) fun iv s2 ⟨x2, H2, I2, r2, q2⟩ => ?_
  refine thn (get_list pins s2 σ H2 x1 x2 ov iv _ I2 r1 r2 q2) fun old s3 ⟨x3, H3, I3, r3, q3⟩ => ?_
  refine thn (q3 pins s3 I3) fun v s4 ⟨x4, H4, I4, r4, q4⟩ => ?_
  refine thn (q4 pins s4 old v I4 r3 r4) fun new s5 ⟨x5, H5, I5, r5, q5⟩ => ?_
  exact thn (set_list pins s5 σ H5 x1 x2 x5 ov iv new _ I5 r1 r2 r5 q5) fun _ s6 ⟨H6, I6, q6⟩ => ⟨σ, H6, I6, q6⟩
/-! ### loops -/
def forL (q : Sq) (set : D → Sl → Option Sl) (body : SM) : List D → SM
  | [], τ, st => if q.chk st then .nx τ st else .bad
  | d :: ds, τ, st => if q.chk st then match set d τ with
    | some τ1 => match body τ1 st with
      | .nx τ2 s2 => forL q set body ds τ2 s2
      | .ct τ2 s2 => forL q set body ds τ2 s2
      | .bk τ2 s2 => .nx τ2 s2
      | r => r
    | none => .bad
  else .bad
def sFor (fi : EM Sq) (set : D → Sl → Option Sl) (body : SM) : SM := fun τ st => bindE (fi τ st) τ fun q s1 => forL q set body q.items τ s1
theorem sx_for {tg iter : Expr} {ix : List Nat} {set : D → Sl → Option Sl} {fi : EM Sq} (hp : PassesOwn (model X.prog X.w) X.A X.env X.xe) (hc : X.calm = true) (hi : Ei X W tg iter fi) (hg : Eg X tg ix set) (hb : Sxs X W body f) (hs : ∀ x, foldedSetIterable iter X.env x = pure x := by intro _; rfl) : Sx X W (.For tg iter body [] pos) (sFor fi set f) := by
  refine ⟨fun m τ s σ H D hL hS hP pins sh I => (ps_for hp hc piW pgW pssW hs).run pins sh σ H D I ?_⟩
  refine hi.run m τ s σ H _ hL hS (hP.bind hL fun q s1 m1 H1 J e1 hS1 hJ hP1 => ?_)
  refine ⟨fun i k σ H => k = q.items.length - i ∧ i ≤ q.items.length ∧ ∃ (m : List Addr) (τ : Sl) (st : Store), Ext X.K m1 H1 m H ∧ SS X.K m st H ∧ SL X.K m H τ σ ∧ Ps X.K W m H (forL q set f (q.items.drop i) τ st) D, ⟨_, rfl, Nat.zero_le _, m1, τ, s1, .refl, hS1, hL.mono e1, by rw [List.drop_zero]; exact hP1⟩, ?_⟩
  rintro i k σ H ⟨rfl, hi, m, τ, st, e, hS, hL, hP⟩
  by_cases hlt : i < q.items.length
  · rw [List.drop_eq_getElem_cons hlt] at hP
    unfold forL at hP
    split at hP
    · rename_i hc
      obtain ⟨hgo, _⟩ := hJ m H st e hS hc
      obtain ⟨go, yl⟩ := hgo i q.items[i] (by simp [hlt])
      split at hP
      · rename_i τ1 hset
        refine .inr ⟨go, fun σ' H' => i + 1 ≤ q.items.length ∧ ∃ (m : List Addr) (τ : Sl) (st : Store), Ext X.K m1 H1 m H' ∧ SS X.K m st H' ∧ SL X.K m H' τ σ' ∧ Ps X.K W m H' (forL q set f (q.items.drop (i + 1)) τ st) D, fun σ' H' h => ⟨q.items.length - (i + 1), by omega, rfl, h⟩, fun x H' hy => ?_⟩
        obtain ⟨e2, s2, r2⟩ := yl x H' hy
        refine hg.run m τ τ1 st σ H' _ x _ (hL.mono e2) s2 r2 hset fun σ2 _ _ hL2 => ?_
        refine hb.run m τ1 st σ2 H' _ hL2 s2 ?_
        have hP := hP.up e2
        cases hq : f τ1 st with
        | nx τ2 s3 =>
          rw [hq] at hP
          exact fun m3 H3 σ3 e3 hS3 hL3 => ⟨by omega, m3, τ2, s3, e.trans (e2.trans e3), hS3, hL3, hP.up e3⟩
        | ct τ2 s3 =>
          rw [hq] at hP
          exact fun m3 H3 σ3 e3 hS3 hL3 => ⟨by omega, m3, τ2, s3, e.trans (e2.trans e3), hS3, hL3, hP.up e3⟩
        | bk τ2 s3 =>
          rw [hq] at hP
          exact hP
        | rt d s3 =>
          rw [hq] at hP
          exact hP
        | exc x τ2 s3 =>
          rw [hq] at hP
          exact hP
        | bad =>
          rw [hq] at hP
          exact hP
      · exact hP.elim
    · exact hP.elim
  · have e0 : i = q.items.length := by omega
    subst e0
    rw [List.drop_length] at hP
    unfold forL at hP
    split at hP
    · rename_i hc
      obtain ⟨_, stop⟩ := hJ m H st e hS hc
      exact .inl ⟨stop, hP m H σ .refl hS hL⟩
    · exact hP.elim
/-- more turns than any loop here takes -/
@[irreducible] def big : Nat := 2 ^ 20000
theorem le_big {k n : Nat} (hk : k ≤ 20000) (h : n ≤ 2 ^ k) : n ≤ big := by
  unfold big
  exact Nat.le_trans h (Nat.pow_le_pow_right (by decide) hk)
/-- while, at most n turns -/
def whileN (g : EM Bool) (body : SM) : Nat → SM
  | 0, _, _ => .bad
  | n + 1, τ, st => bindE (g τ st) τ fun b s1 => if b then match body τ s1 with
      | .nx τ2 s2 => whileN g body n τ2 s2
      | .ct τ2 s2 => whileN g body n τ2 s2
      | .bk τ2 s2 => .nx τ2 s2
      | r => r
    else .nx τ s1
theorem sx_while {c : Expr} (n : Nat) (hp : PassesOwn (model X.prog X.w) X.A X.env X.xe) (hc : Et X W c g) (hb : Sxs X W body f) : Sx X W (.While c body [] pos) (whileN g f n) := by
  refine ⟨fun m τ s σ H D hL hS hP pins sh I => (ps_while hp ptW pssW).run pins sh σ H D I ?_⟩
  refine ⟨fun k σ H => ∃ (m : List Addr) (τ : Sl) (st : Store), SS X.K m st H ∧ SL X.K m H τ σ ∧ Ps X.K W m H (whileN g f k τ st) D, ⟨n, m, τ, s, hS, hL, hP⟩, ?_⟩
  rintro k σ H ⟨m, τ, st, hS, hL, hP⟩
  cases k with
  | zero => exact hP.elim
  | succ k =>
    refine hc.run m τ st σ H _ hL hS (hP.bind hL fun b s1 m1 H1 b' e1 hS1 r1 hP1 => ?_)
    subst r1
    cases b with
    | false => exact iteF (hP1 m1 H1 σ .refl hS1 (hL.mono e1))
    | true =>
      refine iteT ⟨fun σ' H' => ∃ (m : List Addr) (τ : Sl) (st : Store), SS X.K m st H' ∧ SL X.K m H' τ σ' ∧ Ps X.K W m H' (whileN g f k τ st) D, fun σ' H' h => ⟨k, Nat.lt_succ_self k, h⟩, ?_⟩
      refine hb.run m1 τ s1 σ H1 _ (hL.mono e1) hS1 ?_
      have hP1 : Ps X.K W m1 H1 (match f τ s1 with
        | .nx τ2 s2 => whileN g f k τ2 s2
        | .ct τ2 s2 => whileN g f k τ2 s2
        | .bk τ2 s2 => .nx τ2 s2
        | r => r) D := hP1
      cases hq : f τ s1 with
      | nx τ2 s3 =>
        rw [hq] at hP1
        exact fun m3 H3 σ3 e3 hS3 hL3 => ⟨m3, τ2, s3, hS3, hL3, hP1.up e3⟩
      | ct τ2 s3 =>
        rw [hq] at hP1
        exact fun m3 H3 σ3 e3 hS3 hL3 => ⟨m3, τ2, s3, hS3, hL3, hP1.up e3⟩
      | bk τ2 s3 =>
        rw [hq] at hP1
        exact hP1
      | rt d s3 =>
        rw [hq] at hP1
        exact hP1
      | exc x τ2 s3 =>
        rw [hq] at hP1
        exact hP1
      | bad =>
        rw [hq] at hP1
        exact hP1
end
end HM

/-! HM, part 7: raise, try; defs; the law's end. -/
namespace HM
open PySem PySem.Spec PyProof.Rows L2
section
variable {X : Cx} {W : WX} {e a b c : Expr} {es rest : List Expr} {pos p : Pos} {fa fb fc fe : EM D} {fs : EM (List D)} {g ga gb : EM Bool} {s1 : Stmt} {ss body suite : List Stmt} {f h k : SM}
def sRaise (x : Xc) : SM := fun τ st => .exc x τ st
theorem sx_raiseB {T N I : String} {x : Str} {m : Str} {j : Nat} {p2 pos' : Pos} (hc : X.calm = true) (tk : Takes X W) (F : ExcB T N I) (hg : Gl X x) (hm : X.mg x = none) (hv : bootBuiltins x = some (.type T)) (hn : x ≠ "__name__" := by decide) (hdb : (x == ("__debug__" : Str)) = false := by decide) :
    Sx X W (.Raise (some (.Call (.Name x p) [.Constant (.str m) j p2] [] pos)) none pos') (sRaise ⟨.ty T, []⟩) :=
  ⟨fun m τ s σ H D hL hS hP pins sh I => (ps_raiseB hc tk F hg hm hv hn hdb).run pins sh σ H D I (hP m H σ _ _ .refl hS hL ⟨rfl, rfl⟩)⟩
def sTry (f : SM) (mt : D → Option Bool) (h : SM) : SM := fun τ st => match f τ st with
  | .exc x τ1 s1 => match mt x.cls with
    | some true => h τ1 s1
    | some false => .exc x τ1 s1
    | none => .bad
  | r => r
theorem sx_try {x : Str} {c : Value} {b₀ : Stmt} {np pos' : Pos} {mt : D → Option Bool} (hs : X.stack = X.env :: X.outer) (hf : X.env.frame = some X.env.locals) (hc : Names X x c) (tk : Takes X W) (hmt : ∀ (m : List Addr) (H : Hp) (y : Xc) (cls : Value) (d : Option Addr) (b : Bool), XR X.K m H y cls d → mt y.cls = some b → PySem.W.exmOne X.K cls c = some b)
    (hb : ∀ (W : WX) (pn : List (Addr × Obj)) (xe : Value → Shared → Prop), Takes (X.tr pn xe) W → PassesOwn (model X.prog X.w) X.A X.env xe → Sxs (X.tr pn xe) W body f)
    (hsu : ∀ (a : Addr) (oe : Obj) (pn : List (Addr × Obj)), Sxs (X.suite a ((a, oe) :: pn)) (fun _ _ _ _ => False) (b₀ :: suite) h)
    (hno : ∀ τ st x τ1 s1, h τ st ≠ .exc x τ1 s1) : Sx X W (.Try body [.ExceptHandler (some (.Name x np)) none (b₀ :: suite) pos'] [] [] pos) (sTry f mt h) := by
  refine ⟨fun m τ s σ H D hL hS hP pins sh I => ?_⟩
  refine (ps_try_only (tb := fun W => fun D σ H => ∀ (pn : List (Addr × Obj)) (xe : Value → Shared → Prop), Takes (X.tr pn xe) W → PassesOwn (model X.prog X.w) X.A X.env xe → wSs (X.tr pn xe) body D σ H)
    (ts := fun a cls d => fun D σ H => ∀ (oe : Obj) (pn : List (Addr × Obj)), wSs (X.suite a ((a, oe) :: pn)) (b₀ :: suite) D σ H) hs hf hc tk (fun W pn xe t1 t2 => ⟨fun pins s σ H D I h => h pn xe t1 t2 pins s I⟩) (fun a oe cls d pn _ _ => ⟨fun pins s σ H D I h => h oe pn pins s I⟩)).run pins sh σ H D I ?_
  intro pn xe t1 t2
  refine (hb _ pn xe t1 t2).run m τ s σ H D hL hS ?_
  unfold sTry at hP
  cases hq : f τ s with
  | exc y τ1 s1 =>
    rw [hq] at hP
    intro m1 H1 σ1 cls d e1 hS1 hL1 hX
    have hP : Ps X.K W m H (match mt y.cls with
      | some true => h τ1 s1
      | some false => .exc y τ1 s1
      | none => .bad) D := hP
    cases hm : mt y.cls with
    | none =>
      rw [hm] at hP
      exact hP.elim
    | some b =>
      rw [hm] at hP
      refine ⟨b, hmt m1 H1 y cls d b hX hm, fun hb' a na oe pn => ?_, fun hb' => ?_⟩
      · subst hb'
        refine (hsu a oe pn).run m1 τ1 s1 σ1 H1 D hL1 hS1 ?_
        have hP := hP.up e1
        cases hh : h τ1 s1 with
        | exc x τ2 s2 => exact absurd hh (hno _ _ _ _ _)
        | nx _ _ =>
          have hP : Ps X.K W m1 H1 (h τ1 s1) D := hP
          rw [hh] at hP
          exact hP
        | bk _ _ =>
          have hP : Ps X.K W m1 H1 (h τ1 s1) D := hP
          rw [hh] at hP
          exact hP
        | ct _ _ =>
          have hP : Ps X.K W m1 H1 (h τ1 s1) D := hP
          rw [hh] at hP
          exact hP
        | rt _ _ =>
          have hP : Ps X.K W m1 H1 (h τ1 s1) D := hP
          rw [hh] at hP
          exact hP
        | bad =>
          have hP : Ps X.K W m1 H1 (h τ1 s1) D := hP
          rw [hh] at hP
          exact hP
      · subst hb'
        exact hP m1 H1 σ1 cls d e1 hS1 hL1 hX
  | nx _ _ =>
    rw [hq] at hP
    exact hP
  | bk _ _ =>
    rw [hq] at hP
    exact hP
  | ct _ _ =>
    rw [hq] at hP
    exact hP
  | rt _ _ =>
    rw [hq] at hP
    exact hP
  | bad =>
    rw [hq] at hP
    exact hP
end

/-- does a built-in class catch -/
def mtB (T : String) : D → Option Bool
  | .ty n => if n = T then some true else none
  | _ => none
theorem mtB_of {K : PySem.W.Frag} {T : String} (h : PySem.W.exmOne K (.type T) (.type T) = some true) (m : List Addr) (H : Hp) (y : Xc) (cls : Value) (d : Option Addr) (b : Bool) (hx : XR K m H y cls d) (hm : mtB T y.cls = some b) : PySem.W.exmOne K cls (.type T) = some b := by
  unfold mtB at hm
  split at hm
  · rename_i n e
    split at hm
    · rename_i hn
      subst hn
      cases hm
      unfold XR at hx
      rw [e] at hx
      obtain ⟨rfl, _⟩ := hx
      exact h
    · cases hm
  · cases hm
theorem mtB_ZeroDivisionError {K : PySem.W.Frag} : ∀ (m : List Addr) (H : Hp) (y : Xc) (cls : Value) (d : Option Addr) (b : Bool), XR K m H y cls d → mtB "ZeroDivisionError" y.cls = some b → PySem.W.exmOne K cls (.type "ZeroDivisionError") = some b := mtB_of (by kernel_rfl)
/-! ### defs -/
/-- the slots at a def's entry -/
def ent (n : Nat) (ds : List D) : Sl := ds.map some ++ List.replicate (n - ds.length) none
def runB (n : Nat) (fb : SM) : FM := fun ds st => match fb (ent n ds) st with
  | .nx _ s => .ok .non s
  | .rt d s => .ok d s
  | .exc x _ s => .exc x s
  | _ => .bad
theorem SL.start {K : PySem.W.Frag} {m : List Addr} {H : Hp} {N : List Str} {ds : List D} {vs : List V} (r : RDs K m H ds vs) : SL K m H (ent N.length ds) (L2.start N vs) where
  len := by simp [ent, L2.start, r.len]
  get := fun i d h => by
    unfold ent at h
    by_cases hi : i < ds.length
    · rw [List.getElem?_append_left (by simpa using hi), List.getElem?_map] at h
      cases hd : ds[i]? with
      | none =>
        rw [hd] at h
        cases h
      | some d' =>
        rw [hd] at h
        simp only [Option.map_some, Option.some.injEq] at h
        subst h
        obtain ⟨v, h1, h2⟩ := r.get hd
        refine ⟨v, ?_, h2⟩
        unfold L2.start
        rw [List.getElem?_append_left (by simpa [← r.len] using hi), List.getElem?_map, h1]
        rfl
    · rw [List.getElem?_append_right (by simpa using hi)] at h
      have z := List.mem_of_getElem? h
      have z2 := List.eq_of_mem_replicate z
      cases z2
section
variable {P : Program} {w : World} {K : PySem.W.Frag} {mg : Str → Option Value} {base : Heap} {x qual : Str} {params : Arguments} {body : List Stmt} {scope : Scope} {dvs : List V} {kws : List (Str × V)} {f : Addr} {fd : FuncData} {N ps : List Str} {k : Nat} {fb : SM}
/-- the context of a def's body -/
abbrev Cd (P : Program) (w : World) (K : PySem.W.Frag) (mg : Str → Option Value) (base : Heap) (N : List Str) (qual : Str) (scope : Scope) (f : Addr) (k : Nat) (B : Cx → WX → Prop) : Prop :=
  ∀ (cdv : Value) (A : Around) (outer : List Env) (s : Shared) (H : Hp) (E : XK), Room k (A.deeper (envOfC qual scope s.heap.objs.size f cdv)) → B (cxOf (L2.CX P w) P w K mg base N qual scope f cdv A outer s H E) (fun c d _ H => E c d H)
theorem fn_def (F : FunD K x qual params body scope dvs kws f fd) (S : FnScope N ps scope)
    (hb : ∀ (cdv : Value) (A : Around) (outer : List Env) (s : Shared) (H : Hp) (E : XK), Room k (A.deeper (envOfC qual scope s.heap.objs.size f cdv)) → Takes (cxOf (L2.CX P w) P w K mg base N qual scope f cdv A outer s H E) (fun c d _ H => E c d H) →
      PassesOwn (model P w) (A.deeper (envOfC qual scope s.heap.objs.size f cdv)) (envOfC qual scope s.heap.objs.size f cdv) (cxOf (L2.CX P w) P w K mg base N qual scope f cdv A outer s H E).xe →
      Sxs (cxOf (L2.CX P w) P w K mg base N qual scope f cdv A outer s H E) (fun c d _ H => E c d H) body fb) : FnM P w K mg base (k + 1) f fd ps (runB N.length fb) := by
  refine F.ok S (fun vs H Q E ⟨m, st, ds, hl, hS, r, _⟩ => by rw [← r.len, hl]) (fun cdv A outer s H vs Q E hr ⟨m, st, ds, hl, hS, r, hP⟩ => ?_)
  refine ⟨_, pssW, (hb cdv A outer s H E hr (takes_of rfl rfl rfl rfl) (passes_of rfl)).run m (ent N.length ds) st (L2.start N vs) H _ (SL.start r) hS ?_⟩
  unfold runB at hP
  cases hq : fb (ent N.length ds) st with
  | nx τ s1 =>
    rw [hq] at hP
    exact fun m1 H1 σ e1 hS1 hL1 => hP m1 H1 .non e1 hS1 .non
  | rt d s1 =>
    rw [hq] at hP
    exact hP
  | exc x τ s1 =>
    rw [hq] at hP
    exact fun m1 H1 σ c d e1 hS1 hL1 hX => hP m1 H1 c d e1 hS1 hX
  | bk τ s1 =>
    rw [hq] at hP
    exact hP.elim
  | ct τ s1 =>
    rw [hq] at hP
    exact hP.elim
  | bad =>
    rw [hq] at hP
    exact hP.elim
end

/-! ### what a def leaves behind may be forgotten -/
mutual
def D.lo (k : Nat) : D → Bool
  | .ref n => decide (n < k)
  | .tup xs => D.loAll k xs
  | .rol xs => D.loAll k xs
  | _ => true
def D.loAll (k : Nat) : List D → Bool
  | [] => true
  | d :: ds => D.lo k d && D.loAll k ds
end
def Cell.lo (k : Nat) : Cell → Bool
  | .lst xs => D.loAll k xs
section
variable {K : PySem.W.Frag} {m : List Addr} {H : Hp}
mutual
theorem RD.take {k : Nat} : ∀ {d : D} {v : V}, RD K m H d v → d.lo k = true → RD K (m.take k) H d v
  | _, _, .non, _ => .non
  | _, _, .bl b, _ => .bl b
  | _, _, .int i, _ => .int i
  | _, _, .str x, _ => .str x
  | _, _, .ty n, _ => .ty n
  | _, _, .adr a, _ => .adr a
  | _, _, .tup h r, q => .tup h (RDs.takeA r (by simpa only [D.lo] using q))
  | _, _, .rol h r, q => .rol h (RDs.takeA r (by simpa only [D.lo] using q))
  | _, _, .ref (n := n) h, q => .ref (by
    have z : n < k := of_decide_eq_true (by simpa only [D.lo] using q)
    rw [List.getElem?_take_of_lt z]
    exact h)
theorem RDs.takeA {k : Nat} : ∀ {ds : List D} {vs : List V}, RDs K m H ds vs → D.loAll k ds = true → RDs K (m.take k) H ds vs
  | _, _, .nil, _ => .nil
  | _, _, .cons h r, q => by
    simp only [D.loAll, Bool.and_eq_true] at q
    exact .cons (RD.take h q.1) (RDs.takeA r q.2)
end
mutual
theorem RD.is_lo {k : Nat} (hk : m.length ≤ k) : ∀ {d : D} {v : V}, RD K m H d v → d.lo k = true
  | _, _, .non => rfl
  | _, _, .bl b => rfl
  | _, _, .int i => rfl
  | _, _, .str x => rfl
  | _, _, .ty n => rfl
  | _, _, .adr a => rfl
  | _, _, .tup h r => by simpa only [D.lo] using RDs.is_lo hk r
  | _, _, .rol h r => by simpa only [D.lo] using RDs.is_lo hk r
  | _, _, .ref h => by
    simp only [D.lo, decide_eq_true_eq]
    exact Nat.lt_of_lt_of_le (List.getElem?_eq_some_iff.mp h).1 hk
theorem RDs.is_lo {k : Nat} (hk : m.length ≤ k) : ∀ {ds : List D} {vs : List V}, RDs K m H ds vs → D.loAll k ds = true
  | _, _, .nil => rfl
  | _, _, .cons h r => by simp only [D.loAll, RD.is_lo hk h, RDs.is_lo hk r, Bool.and_self]
end
theorem RC.is_lo {k : Nat} {a : Addr} {c : Cell} (hk : m.length ≤ k) (r : RC K m H a c) : c.lo k = true := by
  cases c with
  | lst ds =>
    obtain ⟨vs, _, r⟩ := r
    exact r.is_lo hk
theorem RC.take {k : Nat} {a : Addr} {c : Cell} (r : RC K m H a c) (h : c.lo k = true) : RC K (m.take k) H a c := by
  cases c with
  | lst ds =>
    obtain ⟨vs, q, r⟩ := r
    exact ⟨vs, q, r.takeA h⟩
/-- r' says no more than r, or the same with a shorter store -/
inductive Le (st : Store) : ER D → ER D → Prop
  | bad (r : ER D) : Le st r .bad
  | refl (r : ER D) : Le st r r
  | gc {v : D} {s1 : Store} (k : Nat) (hk : st.length ≤ k) (hv : v.lo k = true) (hc : ∀ (i : Nat) (c : Cell), i < k → s1[i]? = some c → st[i]? = some c ∨ c.lo k = true) : Le st (.ok v s1) (.ok v (s1.take k))
theorem Le.pe {E : XK} {st : Store} {r r' : ER D} {Q : VK} (l : Le st r r') (s : SS K m st H) (h : Pe K E (RD K) m H r' Q) : Pe K E (RD K) m H r Q := by
  cases l with
  | bad r => exact h.elim
  | refl r => exact h
  | @gc v s1 k hk hv hc =>
    intro m1 H1 b e1 hS1 r1
    refine h (m1.take k) H1 b ⟨⟨fun n a q => ?_, e1.tup, e1.fzl⟩, e1.frm, fun a q n => e1.new a (List.mem_of_mem_take q) n⟩ ⟨?_, ?_, fun n c a q1 q2 => ?_⟩ (r1.take hv)
    · have hl : n < m.length := (List.getElem?_eq_some_iff.mp q).1
      rw [s.len] at hl
      rw [List.getElem?_take_of_lt (Nat.lt_of_lt_of_le hl hk)]
      exact e1.pre n a q
    · rw [List.length_take, List.length_take, hS1.len]
    · exact hS1.nd.sublist (List.take_sublist _ _)
    · have hn : n < k := by
        have z := (List.getElem?_eq_some_iff.mp q1).1
        rw [List.length_take] at z
        omega
      rw [List.getElem?_take_of_lt hn] at q1 q2
      refine (hS1.cel n c a q1 q2).take ?_
      rcases hc n c hn q1 with z | z
      · obtain ⟨a0, _, r0⟩ := s.at z
        exact r0.is_lo (by rw [s.len]; exact hk)
      · exact z
theorem FnM.le {P : Program} {w : World} {mg : Str → Option Value} {base : Heap} {k : Nat} {f : Addr} {fd : FuncData} {ps : List Str} {mf sf : FM} (F : FnM P w K mg base k f fd ps mf) (h : ∀ ds st, Le st (mf ds st) (sf ds st)) : FnM P w K mg base k f fd ps sf :=
  FnOk.imp F fun vs H Q E ⟨m, st, ds, hl, hS, r, hP⟩ => ⟨m, st, ds, hl, hS, r, (h ds st).pe hS hP⟩
/-- a value without the store, the store but for what was laid on it -/
theorem Le.app {st more : Store} {v : D} (hv : v.lo st.length = true) : Le st (.ok v (st ++ more)) (.ok v st) := by
  have z := Le.gc (st := st) (v := v) (s1 := st ++ more) st.length (Nat.le_refl _) hv fun i c hi h => by
    rw [List.getElem?_append_left hi] at h
    exact .inl h
  rw [List.take_left] at z
  exact z
end

/-! ### the law -/
theorem law_sp {K : PySem.W.Frag} {mf : FM} {n : Nat} (h : ∀ ns : List Int, ns.length ≤ n → ∃ st, mf [.rol (ns.map D.int)] [] = .ok (.bl true) st) (H : Hp) (a : Addr) (ns : List Int) (hl : ns.length ≤ n) (ho : Only H) (hS : SqL K H a (ns.map V.int)) :
    spM K 1 mf [V.ref a] H (fun v _ => v = .bl true) (fun _ _ _ => False) := by
  obtain ⟨st, e⟩ := h ns hl
  refine ⟨[], [], [.rol (ns.map D.int)], rfl, ⟨rfl, .nil, fun n c a q => by simp at q⟩, .cons (.rol (FzL.of hS fun ys z => ?_) (RDs.ints ns)) .nil, ?_⟩
  · rcases ho a with q | ⟨o, xs, q⟩
    · rw [q] at z
      cases z
    · rw [q] at z
      cases z
  · rw [e]
    intro m' H' b _ _ r
    cases r
    rfl
end HM

/-! HM, part 8: defs as they are called; what a text is put together of. -/
namespace HM
open PySem PySem.Spec PyProof.Rows L2
section
variable {X : Cx} {W : WX} {e a b c : Expr} {es rest : List Expr} {pos p : Pos} {fa fb fc fe : EM D} {fs : EM (List D)} {g ga gb : EM Bool} {s1 : Stmt} {ss body suite : List Stmt} {f h k : SM}
/-- a name = [..] on one line -/
theorem sx_setLc {i : Nat} {y : Str} {py spos : Pos} {tg elt iter : Expr} {ifs : List Expr} {scope : Scope} {own : List (Str × Nat)} {ix : List Nat} {set : D → Sl → Option Sl} {ft : EM Bool} {fe : EM D} {fi : EM Sq} (hc : X.calm = true) (hN : X.N.Nodup) (hi : Ei X W tg iter fi) (ok : BlkOk X.N X.env.scope scope own)
    (hg : BEg X scope tg ix set) (ht : BEt X scope ifs ft) (he : BEx X scope elt fe) (hy : X.N[i]? = some y := by rfl) (hyl : X.env.scope.names.lookup y = some .local := by rfl)
    (hsw : swapsWith (.ListComp elt [⟨tg, iter, ifs, 0⟩] scope pos) (some (.Name y py)) spos.line X.env = pure true := by exact sw_true rfl rfl rfl (by decide +kernel)) (hown : ∀ i ∈ ix, i ∈ own.map (·.2) := by decide) (hs : ∀ x, foldedSetIterable iter X.env x = pure x := by intro _; rfl) :
    Sx X W (.Assign [.Name y py] (.ListComp elt [⟨tg, iter, ifs, 0⟩] scope pos) spos) (sSet i (eEl (lComp (own.map (·.2)) fi set ft fe))) := by
  refine ⟨fun m τ st σ H D hL hS hP pins s I => ?_⟩
  refine (ps_setLc (g := gAll X scope tg) (tt := tAll X scope ifs) (te := eAll X scope elt) hc hN hy hyl hsw piW ok ?_ ?_ ?_ hs).run pins s σ H D I (comp_post hi hown hg ht he hL hS ?_)
  · exact fun s H C cl fp => ⟨fun pins s' σ H' v u Q I r h => h s H C cl fp pins s' u I r⟩
  · exact fun s H C cl fp => ⟨fun pins s' σ H' Q I h => h s H C cl fp pins s' I⟩
  · exact fun s H C cl fp => ⟨fun pins s' σ H' Q I h => h s H C cl fp pins s' I⟩
  · unfold sSet eEl at hP
    cases hq : lComp (own.map (·.2)) fi set ft fe τ st with
    | ok ds s1 =>
      rw [hq] at hP
      intro m1 H1 v e1 hS1 ⟨a, vs, e, ha, na, hn, rs⟩
      subst e
      have e2 := e1.own hn
      have r2 : RD X.K (m1 ++ [a]) H1 (.ref s1.length) (.ref a) := .ref (by
        rw [← hS1.len]
        simp)
      exact hP (m1 ++ [a]) H1 _ e2 (hS1.grow na ⟨vs, ha, rs.kp Kp.grow⟩) ((hL.mono e2).set i r2)
    | exc x st' =>
      rw [hq] at hP
      exact fun m' H' c d e s q => hP m' H' σ c d e s (hL.mono e) q
    | bad =>
      rw [hq] at hP
      exact hP.elim

/-! ### defs by name -/
structure Cal (P : Program) (w : World) (K : PySem.W.Frag) (mg : Str → Option Value) (base : Heap) (x : Str) (k : Nat) (ps : List Str) (mf : FM) : Prop where
  ex : ∃ (f : Addr) (fd : FuncData), FnM P w K mg base k f fd ps mf ∧ mg x = some (.ref f) ∧ PySem.W.keepIn K (.ref f) = true ∧ Binds K fd ps [] ∧ ∃ oc od osl, K.lookup f = some ⟨oc, od, .func fd, osl⟩
theorem Cal.le {P : Program} {w : World} {K : PySem.W.Frag} {mg : Str → Option Value} {base : Heap} {x : Str} {k : Nat} {ps : List Str} {mf sf : FM} (c : Cal P w K mg base x k ps mf) (h : ∀ ds st, Le st (mf ds st) (sf ds st)) : Cal P w K mg base x k ps sf := by
  obtain ⟨f, fd, F, r⟩ := c.ex
  exact ⟨f, fd, F.le h, r⟩
theorem Cal.mono {P : Program} {w : World} {K : PySem.W.Frag} {mg : Str → Option Value} {base : Heap} {x : Str} {j k : Nat} {ps : List Str} {mf : FM} (c : Cal P w K mg base x j ps mf) (h : j ≤ k) : Cal P w K mg base x k ps mf := by
  obtain ⟨f, fd, F, r⟩ := c.ex
  exact ⟨f, fd, FnOk.mono F h, r⟩
theorem ex_c1 {P : Program} {w : World} {K : PySem.W.Frag} {mg : Str → Option Value} {base : Heap} {A : Around} {j k : Nat} {ps : List Str} {mf : FM} {x : Str} (c : Cal P w K mg base x j ps mf) (tk : Takes X W) (hr : Room k A) (hj : j ≤ k) (ha : Ea X W (e :: es) fs)
    (h1 : X.prog = P := by rfl) (h2 : X.w = w := by rfl) (h3 : X.K = K := by rfl) (h4 : X.mg = mg := by rfl) (h5 : X.base = base := by rfl) (h6 : X.A = A := by rfl) (hg : Gl X x := by rfl) (hdb : (x == ("__debug__" : Str)) = false := by decide) (he : starEach (e :: es) X.env = (false, eval e X.env) :: starEach es X.env := by rfl)
    (hpl : (backTo pos (starEach es X.env)).any (·.1) = false := by rfl) : Ex X W (.Call (.Name x p) (e :: es) [] pos) (eCall ps.length mf fs) := by
  subst h1 h2 h3 h4 h5 h6
  obtain ⟨f, fd, F, hm, hk, hb, _⟩ := c.ex
  exact ex_call tk F (hr.mono hj) hg hm hk hb ha hdb he hpl
theorem ex_c0 {P : Program} {w : World} {K : PySem.W.Frag} {mg : Str → Option Value} {base : Heap} {A : Around} {j k : Nat} {ps : List Str} {mf : FM} {x : Str} (c : Cal P w K mg base x j ps mf) (tk : Takes X W) (hr : Room k A) (hj : j ≤ k)
    (h1 : X.prog = P := by rfl) (h2 : X.w = w := by rfl) (h3 : X.K = K := by rfl) (h4 : X.mg = mg := by rfl) (h5 : X.base = base := by rfl) (h6 : X.A = A := by rfl) (hg : Gl X x := by rfl) (hdb : (x == ("__debug__" : Str)) = false := by decide) : Ex X W (.Call (.Name x p) [] [] pos) (eCall ps.length mf aNil) := by
  subst h1 h2 h3 h4 h5 h6
  obtain ⟨f, fd, F, hm, hk, hb, _⟩ := c.ex
  exact ex_call0 tk F (hr.mono hj) hg hm hk hb hdb
/-- in a comprehension nothing is let out -/
theorem tk0 : Takes X (fun _ _ _ _ => False) := takes0
end
/-- a def of the text -/
abbrev FnP (K : PySem.W.Frag) (x : Str) (st : Stmt) (f : Addr) (fd : FuncData) : Prop := FunD K x x (defArgs st) (defBody st) (defScope st) [] [] f fd
section
variable {P : Program} {w : World} {K : PySem.W.Frag} {mg : Str → Option Value} {base : Heap}
theorem cal_mk {x : Str} {st : Stmt} {f : Addr} {fd : FuncData} {N ps : List Str} {k : Nat} {fb : SM} (F : FnP K x st f fd) (S : FnScope N ps (defScope st)) (gx : mg x = some (.ref f))
    (bn : ∀ (kV doc pm : Value) (an : Option Addr) (cdv ct : Value) (us : List Value), us.length = ps.length → bindArgs (PySem.W.fnOf x x (defArgs st) (defBody st) (defScope st) .none kV doc pm an cdv ct) ⟨us, []⟩ = pure (ps.zip us))
    (hb : ∀ (cdv : Value) (A : Around) (outer : List Env) (s : Shared) (H : Hp) (E : XK), Room k (A.deeper (envOfC x (defScope st) s.heap.objs.size f cdv)) → Takes (cxOf (L2.CX P w) P w K mg base N x (defScope st) f cdv A outer s H E) (fun c d _ H => E c d H) →
      PassesOwn (model P w) (A.deeper (envOfC x (defScope st) s.heap.objs.size f cdv)) (envOfC x (defScope st) s.heap.objs.size f cdv) (cxOf (L2.CX P w) P w K mg base N x (defScope st) f cdv A outer s H E).xe →
      Sxs (cxOf (L2.CX P w) P w K mg base N x (defScope st) f cdv A outer s H E) (fun c d _ H => E c d H) (defBody st) fb) : Cal P w K mg base x (k + 1) ps (runB N.length fb) :=
  ⟨f, fd, fn_def F S hb, gx, F.kp, F.bindsN bn, let ⟨oc, od, _, _, _, _, _, _, _, osl, e, lk, _⟩ := F.ex; ⟨oc, od, osl, e ▸ lk⟩⟩
end
/-! ### what the built-in names hold -/
theorem bt_len : bootBuiltins "len" = some (.builtin "len") := by decide +kernel
theorem bt_abs : bootBuiltins "abs" = some (.builtin "abs") := by decide +kernel
theorem bt_isinstance : bootBuiltins "isinstance" = some (.builtin "isinstance") := by decide +kernel
theorem bt_min : bootBuiltins "min" = some (.builtin "min") := by decide +kernel
theorem bt_max : bootBuiltins "max" = some (.builtin "max") := by decide +kernel
theorem bt_sum : bootBuiltins "sum" = some (.builtin "sum") := by decide +kernel
theorem bt_all : bootBuiltins "all" = some (.builtin "all") := by decide +kernel
theorem bt_any : bootBuiltins "any" = some (.builtin "any") := by decide +kernel
theorem bt_sorted : bootBuiltins "sorted" = some (.builtin "sorted") := by decide +kernel
theorem bt_int : bootBuiltins "int" = some (.type "int") := by decide +kernel
theorem bt_bool : bootBuiltins "bool" = some (.type "bool") := by decide +kernel
theorem bt_str : bootBuiltins "str" = some (.type "str") := by decide +kernel
theorem bt_tuple : bootBuiltins "tuple" = some (.type "tuple") := by decide +kernel
theorem bt_list : bootBuiltins "list" = some (.type "list") := by decide +kernel
end HM

/-! HM, part 9: what the top leaves. -/
namespace HM
open PySem PySem.Spec PyProof.Rows L2
mutual
def conB (K : PySem.W.Frag) : D → Value → Bool
  | .non, .none => true
  | .bl a, .bool b => a == b
  | .int i, .int j _ => decide (i = j)
  | .str x, .str y _ => decide (y.cps.toList = x)
  | .tup ds, .ref a => match K.lookup a with
    | some ⟨.type c, _, .seq its _, _⟩ => decide (c = "tuple") && (decide (its.size ≤ sizeLine) && conAll K ds its.toList)
    | _ => false
  | _, _ => false
def conAll (K : PySem.W.Frag) : List D → List Value → Bool
  | [], [] => true
  | d :: ds, u :: us => conB K d u && conAll K ds us
  | _, _ => false
end
mutual
theorem conB_ok {K : PySem.W.Frag} : ∀ (d : D) (u : Value), conB K d u = true → ∃ v, RelV v u ∧ ∀ m H, RD K m H d v
  | .non, u, h => by
    cases u <;> simp [conB] at h
    exact ⟨.non, rfl, fun _ _ => .non⟩
  | .bl a, u, h => by
    cases u <;> simp [conB] at h
    subst h
    exact ⟨.bl _, rfl, fun _ _ => .bl _⟩
  | .int i, u, h => by
    cases u <;> simp [conB] at h
    subst h
    exact ⟨.int _, ⟨_, rfl⟩, fun _ _ => .int _⟩
  | .str x, u, h => by
    cases u <;> simp [conB] at h
    rename_i y t
    subst h
    refine ⟨.str y, ⟨_, rfl⟩, fun _ _ => ?_⟩
    have e : (⟨y.cps.toList.toArray⟩ : PySem.Str) = y := by simp
    have z := RD.str (K := K) (m := ‹_›) (H := ‹_›) y.cps.toList
    rw [e] at z
    exact z
  | .tup ds, u, h => by
    cases u with
    | ref a =>
      have h1 : (match K.lookup a with
        | some ⟨.type c, _, .seq its _, _⟩ => decide (c = "tuple") && (decide (its.size ≤ sizeLine) && conAll K ds its.toList)
        | _ => false) = true := by
        simpa only [conB] using h
      split at h1
      · rename_i c od its n osl e
        simp only [Bool.and_eq_true, decide_eq_true_eq] at h1
        obtain ⟨h2, h3, h4⟩ := h1
        subst h2
        obtain ⟨vs, r, q⟩ := conAll_ok ds its.toList h4
        exact ⟨.ref a, rfl, fun m H => .tup (.inr ⟨_, its, n, e, rfl, rfl, h3, r⟩) (q m H)⟩
      · cases h1
    | _ => simp [conB] at h
  | .ref _, u, h => by simp [conB] at h
  | .ty _, u, h => by simp [conB] at h
  | .adr _, u, h => by simp [conB] at h
  | .rol _, u, h => by simp [conB] at h
theorem conAll_ok {K : PySem.W.Frag} : ∀ (ds : List D) (us : List Value), conAll K ds us = true → ∃ vs, Vals vs us ∧ ∀ m H, RDs K m H ds vs
  | [], [], _ => ⟨[], .nil, fun _ _ => .nil⟩
  | [], _ :: _, h => by simp [conAll] at h
  | _ :: _, [], h => by simp [conAll] at h
  | d :: ds, u :: us, h => by
    simp only [conAll, Bool.and_eq_true] at h
    obtain ⟨v, r1, q1⟩ := conB_ok d u h.1
    obtain ⟨vs, r2, q2⟩ := conAll_ok ds us h.2
    exact ⟨v :: vs, .cons r1 r2, fun m H => .cons (q1 m H) (q2 m H)⟩
end
/-- a module's name holds a constant -/
structure Con (K : PySem.W.Frag) (mg : Str → Option Value) (x : Str) (d : D) : Prop where
  ex : ∃ u v, mg x = some u ∧ RelV v u ∧ ∀ m H, RD K m H d v
theorem ex_con {X : Cx} {W : WX} {x : Str} {d : D} {pos : Pos} (c : Con X.K X.mg x d) (hg : Gl X x := by rfl) (hd : (x == ("__debug__" : Str)) = false := by decide) : Ex X W (.Name x pos) (eC d) := by
  obtain ⟨u, v, hm, r, rd⟩ := c.ex
  exact ex_glob hg hm r rd hd
/-- further facts of the top -/
inductive Fx where
  /-- a built-in function by a name of the module's -/
  | blt (x : Str) (id : String)
  /-- a constant -/
  | con (x : Str) (d : D)
def Fx.ok (K : PySem.W.Frag) : Fx → Bool
  | .blt x id => (match PySem.W.nsIn K mainGlobals x with
    | some (some (.builtin j)) => decide (j = id)
    | _ => false)
  | .con x d => (match PySem.W.nsIn K mainGlobals x with
    | some (some u) => conB K d u
    | _ => false)
section
variable {K : PySem.W.Frag} {h : Heap} {mg : Str → Option Value}
theorem blt_ok (X : K.In h) (G : h.Ns mainGlobals mg) {x : Str} {id : String} (c : (Fx.blt x id).ok K = true) : mg x = some (.builtin id) := by
  have c : (match PySem.W.nsIn K mainGlobals x with
    | some (some (.builtin j)) => decide (j = id)
    | _ => false) = true := c
  split at c
  · rename_i j e
    rw [PySem.W.mg_of X G e, of_decide_eq_true c]
  · cases c
theorem con_ok (X : K.In h) (G : h.Ns mainGlobals mg) {x : Str} {d : D} (c : (Fx.con x d).ok K = true) : Con K mg x d := by
  have c : (match PySem.W.nsIn K mainGlobals x with
    | some (some u) => conB K d u
    | _ => false) = true := c
  split at c
  · rename_i u e
    obtain ⟨v, r, q⟩ := conB_ok d u c
    exact ⟨u, v, PySem.W.mg_of X G e, r, q⟩
  · cases c
end
/-! ### the Hook -/
def obsM (fa : List He.Fa) (fx : List Fx) (fn : List He.DefD) (K : PySem.W.Frag) : He.AlD := (((fa.all fun f => f.ok K) && fx.all fun f => f.ok K) && fn.all fun d => d.ok K, fn.map fun d => He.fnW K d.at_)
def SaysM (fa : List He.Fa) (fx : List Fx) (fn : List He.DefD) (K : PySem.W.Frag) : Prop := obsM fa fx fn K = He.valD fn
def obsMG (n : Nat) (fa : List He.Fa) (fx : List Fx) (fn : List He.DefD) (g : Addr → Option Obj) : He.AlD := obsM fa fx fn (He.frG g (He.asD g n))
def hookM (n : Nat) (fa : List He.Fa) (fx : List Fx) (fn : List He.DefD) : PySem.W.Hook where
  α := He.AlD
  obs := fun s => obsMG n fa fx fn s.heap.get?
  val := fun _ => He.valD fn
  says := fun _ h => ∃ K : PySem.W.Frag, K.In h ∧ SaysM fa fx fn K
  of := fun _ _ e => ⟨_, He.frG_in, e⟩
  keeps := fun _ _ _ ⟨K, hK, c⟩ k => ⟨K, PySem.W.Frag.In.keeps hK k, c⟩
theorem obsMG_eq {n : Nat} {fa : List He.Fa} {fx : List Fx} {fn : List He.DefD} {g : Addr → Option Obj} {s : Shared} (h : ∀ a, g a = s.heap.get? a) : obsMG n fa fx fn g = (hookM n fa fx fn).obs s := by
  have e : g = s.heap.get? := funext h
  rw [e] <;> rfl
section
variable {fa : List He.Fa} {fx : List Fx} {fn : List He.DefD} {K : PySem.W.Frag}
theorem SaysM.fact (c : SaysM fa fx fn K) (i : Nat) {f : He.Fa} (h : fa[i]? = some f := by rfl) : f.ok K = true := by
  have c1 := (He.ba (He.ba (show (((fa.all fun f => f.ok K) && fx.all fun f => f.ok K) && fn.all fun d => d.ok K) = true from congrArg (fun z : He.AlD => z.1) c)).1).1
  exact List.all_eq_true.mp c1 f (List.mem_of_getElem? h)
theorem SaysM.more (c : SaysM fa fx fn K) (i : Nat) {f : Fx} (h : fx[i]? = some f := by rfl) : f.ok K = true := by
  have c1 := (He.ba (He.ba (show (((fa.all fun f => f.ok K) && fx.all fun f => f.ok K) && fn.all fun d => d.ok K) = true from congrArg (fun z : He.AlD => z.1) c)).1).2
  exact List.all_eq_true.mp c1 f (List.mem_of_getElem? h)
theorem SaysM.def_ (c : SaysM fa fx fn K) (i : Nat) {d : He.DefD} (h : fn[i]? = some d := by rfl) : ∃ fd, FunD K d.name d.qual d.params d.body d.scope (d.dvs K) (d.kws K) (He.fAd K d.at_) fd := by
  have c2 := (He.ba (show (((fa.all fun f => f.ok K) && fx.all fun f => f.ok K) && fn.all fun d => d.ok K) = true from congrArg (fun z : He.AlD => z.1) c)).2
  have e : fn.map (fun d => He.fnW K d.at_) = fn.map He.DefD.val := congrArg (fun z : He.AlD => z.2) c
  have e2 : (fn.map fun d => He.fnW K d.at_)[i]? = (fn.map He.DefD.val)[i]? := by rw [e]
  rw [List.getElem?_map, List.getElem?_map, h] at e2
  exact He.DefD.funD (Option.some.inj e2) (List.all_eq_true.mp c2 d (List.mem_of_getElem? h))
end
/-! ### the law's end -/
/-- where nothing may be let out -/
theorem FnM.shut {P : Program} {w : World} {K : PySem.W.Frag} {mg : Str → Option Value} {base : Heap} {k : Nat} {f : Addr} {fd : FuncData} {ps : List Str} {mf : FM} (F : FnM P w K mg base k f fd ps mf) :
    FnOk P w K mg base CX0 k f fd ps (fun vs H Q _ => spM K ps.length mf vs H Q fun _ _ _ => False) where
  len := fun vs H Q E h => F.len vs H Q _ h
  run := fun A outer s H args us vs Q E hr e0 hb hv h => by
    refine codeAny_mono (F.run A outer s H args us vs Q _ hr e0 hb hv h) fun r s' hq => ?_
    cases r with
    | error e =>
      obtain ⟨_, _, _, _, _, _, _, _, _, _, _, _, z⟩ := (hq : L2.CX P w outer H s (fun _ _ _ => False) e s')
      exact z.elim
    | ok fl => cases fl <;> exact hq
end HM

/-! HM, part 10: methods of lists and texts, in, slices, sums. -/
namespace HM
open PySem PySem.Spec PyProof.Rows L2
section
variable {X : Cx} {W : WX} {e o a b c : Expr} {es : List Expr} {pos p : Pos} {f fo fa fb : EM D} {fs : EM (List D)}
theorem _root_.L2.Room.units65 {k : Nat} {A : Around} (r : Room k A) : A.units + 65 < cLine := by have := r.un; omega
theorem below_line {n : Nat} (h : n < 16777216) : n < sizeLine := by
  rw [PySem.sizeLine_eq]
  exact h
/-! ### methods -/
abbrev MM := D → FM
def MethM (X : Cx) (id : String) (g : MM) : Prop :=
  ∃ r, MtR X id r ∧ ∀ (m : List Addr) (st : Store) (H : Hp) (d : D) (v : V) (ds : List D) (vs : List V) (E : XK) (Q : VK), SS X.K m st H → RD X.K m H d v → RDs X.K m H ds vs → Pe X.K E (RD X.K) m H (g d ds st) Q → r v vs H Q
def okT (T : String) (st : Store) (d : D) : Bool := match d with
  | .str _ => decide (T = "str")
  | .rol _ => decide (T = "list")
  | .ref n => decide (T = "list") && (lstAt st n).isSome
  | _ => false
theorem okT_ty {K : PySem.W.Frag} {m : List Addr} {st : Store} {H : Hp} {d : D} {v : V} {T : String} (s : SS K m st H) (h : okT T st d = true) (r : RD K m H d v) : tyV K T v H := by
  cases r with
  | str x =>
    have q : T = "str" := of_decide_eq_true h
    exact q
  | rol q rs => exact .inl ⟨of_decide_eq_true h, _, q.sq⟩
  | ref q =>
    have h : (decide (T = "list") && (lstAt st _).isSome) = true := h
    rw [Bool.and_eq_true] at h
    obtain ⟨xs, e⟩ := Option.isSome_iff_exists.mp h.2
    obtain ⟨vs, h1, h2⟩ := s.list e q
    exact .inl ⟨of_decide_eq_true h.1, _, SqL.of h1⟩
  | _ => cases h
def eM (T : String) (g : MM) (fo : EM D) (fs : EM (List D)) : EM D := fun τ st => (fo τ st).bind fun d s1 => if okT T s1 d then (fs τ s1).bind fun ds s2 => g d ds s2 else .bad
theorem ex_m {name : Str} {apos cpos : Pos} {T id : String} {g : MM} (pa : PlainAttrs T) (slot : Slot T name id) (hty : typeOf (.builtin id) = pure (.type "method_descriptor")) (hm : MethM X id g) (ho : Ex X W o fo) (ha : Ea X W (e :: es) fs)
    (hbase : attributeBase o name X.env (eval o X.env) = eval o X.env := by rfl)
    (hfew : ((backTo cpos (starEach (e :: es) X.env)).all (fun x => !x.1) && (backToKw cpos (keywordEach [] X.env)).all (fun x => x.1.isSome)
      && decide ((e :: es).length + ([] : List Keyword).length + (if ([] : List Keyword).isEmpty then 0 else 1) < 30)) = true := by rfl)
    (hline : (apos.endLine == cpos.line) = true := by rfl) (hs : starEach (e :: es) X.env = (false, eval e X.env) :: starEach es X.env := by rfl) (hplain : (backTo cpos (starEach es X.env)).any (·.1) = false := by rfl) :
    Ex X W (.Call (.Attribute o name apos) (e :: es) [] cpos) (eM T g fo fs) := by
  obtain ⟨r, hr, h⟩ := hm
  refine ⟨fun m τ st σ H Q hL hS hP pins s I => (pe_bm pa slot hty hr peW paW hbase hfew hline hs hplain).run pins s σ H Q I ?_⟩
  refine ho.run m τ st σ H _ hL hS (hP.bind fun d s1 m1 H1 v e1 hS1 r1 hP1 => ?_)
  split at hP1
  · rename_i hk
    exact ⟨okT_ty hS1 hk r1, ha.run m1 τ s1 σ H1 _ (hL.mono e1) hS1 (hP1.bind fun ds s2 m2 H2 vs e2 hS2 r2 hP2 => h m2 s2 H2 d v ds vs _ Q hS2 (r1.mono e2) r2 hP2)⟩
  · exact hP1.elim
theorem ex_m0 {name : Str} {apos cpos : Pos} {T id : String} {g : MM} (pa : PlainAttrs T) (slot : Slot T name id) (hty : typeOf (.builtin id) = pure (.type "method_descriptor")) (hm : MethM X id g) (ho : Ex X W o fo)
    (hbase : attributeBase o name X.env (eval o X.env) = eval o X.env := by rfl) (hline : (apos.endLine == cpos.line) = true := by rfl) :
    Ex X W (.Call (.Attribute o name apos) [] [] cpos) (eM T g fo aNil) := by
  obtain ⟨r, hr, h⟩ := hm
  refine ⟨fun m τ st σ H Q hL hS hP pins s I => (pe_bm0 pa slot hty hr peW hbase hline).run pins s σ H Q I ?_⟩
  refine ho.run m τ st σ H _ hL hS (hP.bind fun d s1 m1 H1 v e1 hS1 r1 hP1 => ?_)
  split at hP1
  · rename_i hk
    exact ⟨okT_ty hS1 hk r1, h m1 s1 H1 d v [] [] _ Q hS1 r1 .nil hP1⟩
  · exact hP1.elim
def mAppend : MM := fun d ds st => match d, ds with
  | .ref n, [x] => match lstAt st n with
    | some xs => if xs.length < 16777216 then .ok .non (st.set n (.lst (xs ++ [x]))) else .bad
    | none => .bad
  | _, _ => .bad
theorem me_append : MethM X "list.append" mAppend := ⟨_, mt_append, fun m st H d v ds vs E Q hS r rs hP => by
  unfold mAppend at hP
  split at hP
  · split at hP
    · rename_i xs hx
      split at hP
      · rename_i hl
        cases r with
        | ref q =>
          obtain ⟨us, h1, h2⟩ := hS.list hx q
          obtain ⟨u, rfl, ru⟩ := rs.one
          exact ⟨_, us, u, rfl, rfl, h1, below_line (by rw [← h2.len]; exact hl), hP m _ _ (Ext.write h1 q) (hS.write h1 q (h2.append (.cons ru .nil))) .non⟩
      · exact hP.elim
    · exact hP.elim
  · exact hP.elim⟩
def mExtend : MM := fun d ds st => match d, ds with
  | .ref n, [.ref k] => match lstAt st n, lstAt st k with
    | some xs, some ys => if xs.length + ys.length ≤ 16777216 then .ok .non (st.set n (.lst (xs ++ ys))) else .bad
    | _, _ => .bad
  | _, _ => .bad
theorem me_extend : MethM X "list.extend" mExtend := ⟨_, mt_extend, fun m st H d v ds vs E Q hS r rs hP => by
  unfold mExtend at hP
  split at hP
  · split at hP
    · rename_i xs ys hx hy
      split at hP
      · rename_i hl
        obtain ⟨u, rfl, ru⟩ := rs.one
        cases r with
        | ref q =>
          cases ru with
          | ref q' =>
            obtain ⟨us, h1, h2⟩ := hS.list hx q
            obtain ⟨ws, h3, h4⟩ := hS.list hy q'
            exact ⟨_, _, us, ws, rfl, rfl, h1, h3, line_of (by rw [← h2.len, ← h4.len]; exact hl), hP m _ _ (Ext.write h1 q) (hS.write h1 q (h2.append h4)) .non⟩
      · exact hP.elim
    · exact hP.elim
  · exact hP.elim⟩
def mPop : MM := fun d ds st => match d, ds with
  | .ref n, [] => match lstAt st n with
    | some xs => match xs[xs.length - 1]? with
      | some y => .ok y (st.set n (.lst xs.dropLast))
      | none => .bad
    | none => .bad
  | _, _ => .bad
theorem me_pop : MethM X "list.pop" mPop := ⟨_, mt_pop, fun m st H d v ds vs E Q hS r rs hP => by
  unfold mPop at hP
  split at hP
  · split at hP
    · rename_i xs hx
      split at hP
      · rename_i y hy
        cases r with
        | ref q =>
          obtain ⟨us, h1, h2⟩ := hS.list hx q
          cases rs
          rw [h2.len] at hy
          obtain ⟨u, hu, ru⟩ := h2.get hy
          have e := Ext.write (K := X.K) (o := .lst us.dropLast) h1 q
          exact ⟨_, us, u, rfl, rfl, h1, hu, hP m _ _ e (hS.write h1 q h2.dropLast) (ru.mono e)⟩
      · exact hP.elim
    · exact hP.elim
  · exact hP.elim⟩
def okIx (i : Int) : Bool := decide (i.natAbs < 9223372036854775808)
theorem okIx_ok {i : Int} (h : okIx i = true) : -(2 ^ 63) ≤ i ∧ i < 2 ^ 63 := by
  have q : i.natAbs < 9223372036854775808 := of_decide_eq_true h
  have q' : -9223372036854775808 ≤ i ∧ i < 9223372036854775808 := by omega
  exact q'
def mPopAt : MM := fun d ds st => match d, ds with
  | .ref n, [.int i] => match lstAt st n with
    | some xs => match seqIndex? i xs.length with
      | some k => match xs[k]? with
        | some y => if okIx i then .ok y (st.set n (.lst (xs.eraseIdx k))) else .bad
        | none => .bad
      | none => .bad
    | none => .bad
  | _, _ => .bad
theorem me_popAt : MethM X "list.pop" mPopAt := ⟨_, mt_popAt, fun m st H d v ds vs E Q hS r rs hP => by
  unfold mPopAt at hP
  split at hP
  · split at hP
    · rename_i xs hx
      split at hP
      · rename_i k hk
        split at hP
        · rename_i y hy
          split at hP
          · rename_i hi
            obtain ⟨w, rfl, rw'⟩ := rs.one
            cases rw'
            cases r with
            | ref q =>
              obtain ⟨us, h1, h2⟩ := hS.list hx q
              obtain ⟨u, hu, ru⟩ := h2.get hy
              have e := Ext.write (K := X.K) (o := .lst (us.eraseIdx k)) h1 q
              exact ⟨_, us, _, k, u, rfl, rfl, h1, (okIx_ok hi).1, (okIx_ok hi).2, by rw [← h2.len]; exact hk, hu, hP m _ _ e (hS.write h1 q (h2.erase k)) (ru.mono e)⟩
          · exact hP.elim
        · exact hP.elim
      · exact hP.elim
    · exact hP.elim
  · exact hP.elim⟩
def mInsert : MM := fun d ds st => match d, ds with
  | .ref n, [.int i, y] => match lstAt st n with
    | some xs => if decide (0 ≤ i) && okIx i && decide (xs.length < 16777216) then .ok .non (st.set n (.lst (xs.take i.toNat ++ [y] ++ xs.drop i.toNat))) else .bad
    | none => .bad
  | _, _ => .bad
theorem me_insert : MethM X "list.insert" mInsert := ⟨_, mt_insert, fun m st H d v ds vs E Q hS r rs hP => by
  unfold mInsert at hP
  split at hP
  · split at hP
    · rename_i xs hx
      split at hP
      · rename_i hc
        simp only [Bool.and_eq_true, decide_eq_true_eq] at hc
        obtain ⟨w, u, rfl, rw', ru⟩ := rs.two
        cases rw'
        cases r with
        | ref q =>
          obtain ⟨us, h1, h2⟩ := hS.list hx q
          exact ⟨_, us, _, u, rfl, rfl, h1, below_line (by rw [← h2.len]; exact hc.2), hc.1.1, (okIx_ok hc.1.2).2, hP m _ _ (Ext.write h1 q) (hS.write h1 q (((h2.take _).append (.cons ru .nil)).append (h2.drop _))) .non⟩
      · exact hP.elim
    · exact hP.elim
  · exact hP.elim⟩
/-! ### in -/
def D.flat : D → Bool
  | .non => true
  | .bl _ => true
  | .int _ => true
  | .str _ => true
  | _ => false
def eqF : D → D → Bool
  | .non, .non => true
  | .bl a, .bl b => a == b
  | .bl a, .int b => (if a then 1 else 0) == b
  | .int a, .bl b => a == (if b then 1 else 0)
  | .int a, .int b => decide (a = b)
  | .str a, .str b => decide (a = b)
  | _, _ => false
theorem flat_V {K : PySem.W.Frag} {m : List Addr} {H : Hp} {d : D} {v : V} (r : RD K m H d v) (h : d.flat = true) : flatV v = true := by
  cases r <;> first | rfl | cases h
theorem flats_V {K : PySem.W.Frag} {m : List Addr} {H : Hp} : ∀ {ds : List D} {vs : List V}, RDs K m H ds vs → ds.all D.flat = true → vs.all flatV = true
  | [], _, .nil, _ => rfl
  | d :: ds, _, .cons r rs, h => by
    rw [List.all_cons, Bool.and_eq_true] at h ⊢
    exact ⟨flat_V r h.1, flats_V rs h.2⟩
theorem eqF_V {K : PySem.W.Frag} {m : List Addr} {H : Hp} {d e : D} {v u : V} (r : RD K m H d v) (r' : RD K m H e u) (h : d.flat = true) (h' : e.flat = true) : eqV v u = eqF d e := by
  cases r with
  | non => cases r' <;> first | rfl | cases h'
  | bl b => cases r' <;> first | rfl | cases h'
  | int i =>
    cases r' with
    | int j =>
      show (i == j) = decide (i = j)
      rw [Bool.eq_iff_iff]
      simp
    | _ => first | rfl | cases h'
  | str x =>
    cases r' with
    | str y =>
      show ((⟨x.toArray⟩ : Str) == (⟨y.toArray⟩ : Str)) = decide (x = y)
      rw [Bool.eq_iff_iff]
      simp
    | _ => first | rfl | cases h'
  | _ => cases h
theorem inV_D {K : PySem.W.Frag} {m : List Addr} {H : Hp} {d : D} {v : V} (r : RD K m H d v) (h : d.flat = true) : ∀ {ds : List D} {vs : List V}, RDs K m H ds vs → ds.all D.flat = true → inV v vs = ds.any fun y => eqF y d
  | [], _, .nil, _ => rfl
  | e :: ds, _, .cons r' rs, h' => by
    rw [List.all_cons, Bool.and_eq_true] at h'
    have := inV_D r h rs h'.2
    unfold inV at this ⊢
    rw [List.any_cons, List.any_cons, this, eqF_V r' r h'.1 h]
def rInT (K : PySem.W.Frag) (neg : Bool) : R2 := fun x y H Q => ∃ d ds, Dp K H x d ∧ Dp K H y (.tuple ds) ∧ SeqAt.shaped d = true ∧ SeqAt.shaped (.tuple ds) = true ∧ Q (.bl (if neg then !(ds.any fun z => PyData.eqv z d) else ds.any fun z => PyData.eqv z d)) H
theorem op_inT (hu : X.A.units + 65 < cLine) : OpR X (compareOp .In) (rInT X.K false) := by
  intro pins s σ H x y v u Q I rx ry h
  obtain ⟨d, ds, hd, he, sd, se, q⟩ := h
  obtain ⟨as, r1⟩ := Dp.reads I d x v hd rx
  obtain ⟨bs, r2⟩ := Dp.reads I (.tuple ds) y u he ry
  exact SeqAt.in_tuple_reads r2 r1 (SeqAt.canLay_of_shaped se) (SeqAt.canLay_of_shaped sd) (room_in_shaped sd hu) ⟨.bl _, H, I, rfl, q⟩
theorem op_notInT (hu : X.A.units + 65 < cLine) : OpR X (compareOp .NotIn) (rInT X.K true) := by
  intro pins s σ H x y v u Q I rx ry h
  obtain ⟨d, ds, hd, he, sd, se, q⟩ := h
  obtain ⟨as, r1⟩ := Dp.reads I d x v hd rx
  obtain ⟨bs, r2⟩ := Dp.reads I (.tuple ds) y u he ry
  exact SeqAt.notIn_tuple_reads r2 r1 (SeqAt.canLay_of_shaped se) (SeqAt.canLay_of_shaped sd) (room_in_shaped sd hu) ⟨.bl _, H, I, rfl, q⟩
/-- is it among flat ones, one sign in a text, among data of any depth -/
def dIn (x y : D) (st : Store) : Option Bool := match x, y with
  | .str [c], .str z => some (decide (c ∈ z))
  | x, y => match dSeq st y with
    | some ys => if x.flat && ys.all D.flat then some (ys.any fun y => eqF y x) else if x.plain 59 && ys.all (D.plain 59) then some (decide (x ∈ ys)) else none
    | none => none
def oIn : O2 := fun x y st => match dIn x y st with
  | some b => .ok (.bl b) st
  | none => .bad
def oNotIn : O2 := fun x y st => match dIn x y st with
  | some b => .ok (.bl !b) st
  | none => .bad
theorem any_plain {n : Nat} {x : D} (hx : x.plain n = true) : ∀ {ys : List D}, ys.all (D.plain n) = true → ((ys.map (D.toP n)).any fun z => PyData.eqv z (x.toP n)) = decide (x ∈ ys)
  | [], _ => by simp
  | y :: ys, h => by
    rw [List.all_cons, Bool.and_eq_true] at h
    rw [List.map_cons, List.any_cons, any_plain hx h.2, eqv_plain n y x h.1 hx]
    simp [List.mem_cons, eq_comm]
theorem m_inB {op : CmpOp} {neg : Bool} {r1 r2 r3 r4 : R2} (h1 : OpR X (compareOp op) r1) (h2 : OpR X (compareOp op) r2) (h3 : OpR X (compareOp op) r3) (h4 : OpR X (compareOp op) r4)
    (s1 : ∀ (c : Nat) (z : Str) H Q, Q (.bl (if neg then !decide (c ∈ z.cps.toList) else decide (c ∈ z.cps.toList))) H → r1 (.str ⟨#[c]⟩) (.str z) H Q)
    (s2 : ∀ x y H Q, rIn X.K neg x y H Q → r2 x y H Q)
    (s3 : ∀ x y H Q d ds, Dp X.K H x d → Dp X.K H y (.list ds) → SeqAt.shaped d = true → SeqAt.shaped (.list ds) = true → Q (.bl (if neg then !(ds.any fun z => PyData.eqv z d) else ds.any fun z => PyData.eqv z d)) H → r3 x y H Q)
    (s4 : ∀ x y H Q d ds, Dp X.K H x d → Dp X.K H y (.tuple ds) → SeqAt.shaped d = true → SeqAt.shaped (.tuple ds) = true → Q (.bl (if neg then !(ds.any fun z => PyData.eqv z d) else ds.any fun z => PyData.eqv z d)) H → r4 x y H Q) :
    OpM X W (compareOp op) (fun x y st => match dIn x y st with
    | some b => .ok (.bl (if neg then !b else b)) st
    | none => .bad) := opm_of ((h1.or h2).or (h3.or h4)) fun m st H dx dy x y E Q hS ra rb hP => by
  have fin : ∀ {q : PyData}, q.canLay0 = true → q.depth ≤ 60 → SeqAt.shaped q = true := fun {q} h1 h2 => by
    unfold SeqAt.shaped
    rw [h1, Bool.true_and, decide_eq_true_eq]
    omega
  split at hP
  · rename_i b hb
    unfold dIn at hb
    split at hb
    · cases hb
      cases ra
      cases rb
      exact .inl (.inl (s1 _ _ _ _ (hP.now hS (.bl _))))
    · split at hb
      · rename_i ys hy
        split at hb
        · rename_i hf
          cases hb
          rw [Bool.and_eq_true] at hf
          obtain ⟨p, vs, rfl, q, rs⟩ := dSeq_read hS hy rb
          refine .inl (.inr (s2 _ _ _ _ ⟨p, vs, rfl, q, flat_V ra hf.1, flats_V rs hf.2, ?_⟩))
          rw [inV_D ra hf.1 rs hf.2]
          exact hP.now hS (.bl _)
        · split at hb
          · rename_i hf
            cases hb
            rw [Bool.and_eq_true] at hf
            obtain ⟨p, vs, rfl, q, rs⟩ := dSeq_read hS hy rb
            obtain ⟨a1, a2, a3⟩ := plain_dp 59 dx x hf.1 ra
            obtain ⟨b1, b2, b3⟩ := plain_all (plain_dp 59) ys vs hf.2 rs
            have e := any_plain hf.1 hf.2
            rcases q with q | q
            · refine .inr (.inl (s3 _ _ _ _ _ _ a1 (.lst q b1) (fin a2 (by omega)) (fin (by simpa only [PyData.canLay0] using b2) (by simp only [PyData.depth]; omega)) ?_))
              rw [e]
              exact hP.now hS (.bl _)
            · refine .inr (.inr (s4 _ _ _ _ _ _ a1 (.tup q b1) (fin a2 (by omega)) (fin (by simpa only [PyData.canLay0] using b2) (by simp only [PyData.depth]; omega)) ?_))
              rw [e]
              exact hP.now hS (.bl _)
          · cases hb
      · cases hb
  · exact hP.elim
theorem m_in (hu : X.A.units + 65 < cLine) : OpM X W (compareOp .In) oIn := m_inB (neg := false) op_in_sign op_in_seq (op_inD hu) (op_inT hu)
  (fun c z H Q h => ⟨c, z, rfl, rfl, h⟩) (fun x y H Q h => h) (fun x y H Q d ds h1 h2 h3 h4 q => ⟨d, ds, h1, h2, h3, h4, q⟩) (fun x y H Q d ds h1 h2 h3 h4 q => ⟨d, ds, h1, h2, h3, h4, q⟩)
theorem m_notin (hu : X.A.units + 65 < cLine) : OpM X W (compareOp .NotIn) oNotIn := m_inB (neg := true) op_notIn_sign op_notIn_seq (op_notInD hu) (op_notInT hu)
  (fun c z H Q h => ⟨c, z, rfl, rfl, h⟩) (fun x y H Q h => h) (fun x y H Q d ds h1 h2 h3 h4 q => ⟨d, ds, h1, h2, h3, h4, q⟩) (fun x y H Q d ds h1 h2 h3 h4 q => ⟨d, ds, h1, h2, h3, h4, q⟩)
end
end HM

/-! HM, part 11: slices, sums, all and any, join, texts repeated, lcm. -/
namespace HM
open PySem PySem.Spec PyProof.Rows L2
section
variable {prog : Program} {w : World} {A : Around} {E : Value → Shared → Prop} {s : Shared}
theorem get_whole {t sl : Addr} {items : Array Value} {vl vu : Value} {lo hi : Option Int} {Q : Value → Shared → Prop} (ht : IsTup s.heap t items) (hs : s.heap.IsSliceOf sl vl vu .none) (pl : IsPart vl lo) (pu : IsPart vu hi)
    (h1 : HT.sIx items.size 0 lo = 0) (h2 : HT.sIx items.size items.size hi = items.size) (q : Q (.ref t) s) : wpAny (model prog w) A (getItem (.ref t) (.ref sl)) Q E s := by
  obtain ⟨ob, o1, o2, o3⟩ := id hs
  unfold getItem
  try with_reducible refine wpAny_holding ?_
  try refine wpAny_bind (wpAny_pure ?_)
  refine wpAny_bind (wpAny_sequenceKey ht.typeIs (by decide) ?_)
  refine wpAny_bind (wpAny_callSpecial?_slot (name := Str.ofString "__getitem__") ht.typeIs PyProof.Rows.slot_tuple_getitem (wpAny_call_entry PyProof.Rows.slot_tuple_getitem ht.typeIs entry_tuple_getitem ?_ (args_tuple_getitem _ _)))
  show wpAny _ _ (Builtin.Tuple.tupleItemsOf (.ref t) >>= _) _ _ s
  refine wpAny_bind (tupleItemsOf_ ht (wpAny_bind (wpAny_typeOf (T := "slice") ⟨ob, o1, o2⟩ ?_)))
  rw [if_pos (by decide)]
  refine wpAny_bind (HT.sliceApplied_gen hs pl pu ?_)
  have yes : (((HT.sIx items.size 0 lo : Nat) : Int) == 0 && (1 : Int) == 1 && (HT.sIx items.size items.size hi - HT.sIx items.size 0 lo) == items.size) = true := by
    rw [h1, h2]
    simp
  show wpAny _ _ (if (((HT.sIx items.size 0 lo : Nat) : Int) == 0 && (1 : Int) == 1 && (HT.sIx items.size items.size hi - HT.sIx items.size 0 lo) == items.size) = true then _ else _) _ _ s
  rw [if_pos yes]
  unfold Builtin.Tuple.tupleIsExact
  refine wpAny_bind (wpAny_bind (wpAny_typeOf ht.typeIs ?_))
  refine wpAny_pure ?_
  rw [if_pos (by decide)]
  first
    | exact wpAny_pure ⟨_, rfl, wpAny_pure q⟩
    | exact wpAny_bind (wpAny_rule (wpAny_pure ⟨_, rfl, wpAny_pure q⟩))
end
section
variable {X : Cx}
/-- the whole of a tuple is the tuple -/
def rSlW (K : PySem.W.Frag) : V → Option Int → Option Int → Hp → VK → Prop := fun x lo hi H Q => ∃ a xs, x = .ref a ∧ SqT K H a xs ∧ HT.sIx xs.length 0 lo = 0 ∧ HT.sIx xs.length xs.length hi = xs.length ∧ Q (.ref a) H
theorem sl_whole : SlR X (rSlW X.K) := by
  intro pins s σ H x v vl vu lo hi sl Q I rx hs pl pu h
  obtain ⟨a, xs, rfl, hx, h1, h2, q⟩ := h
  cases rx
  obtain ⟨its, r, ht, hz⟩ := I.tuple hx
  have e : its.toArray.size = xs.length := by rw [List.size_toArray, ← r.length]
  exact ⟨"tuple", _, PyProof.Rows.slot_tuple_getitem.lookup, ht.typeIs, get_whole ht hs pl pu (by rw [e]; exact h1) (by rw [e]; exact h2) ⟨.ref a, H, I, rfl, q⟩⟩
end
section
variable {X : Cx} {W : WX} {e o a b c : Expr} {es : List Expr} {pos p p2 : Pos} {f fo fa fb : EM D} {fs : EM (List D)}
/-! ### slices -/
def cutD {α : Type} (xs : List α) (lo hi : Option Int) : List α := (xs.drop (HT.sIx xs.length 0 lo)).take (HT.sIx xs.length xs.length hi - HT.sIx xs.length 0 lo)
theorem RDs.cut {K : PySem.W.Frag} {m : List Addr} {H : Hp} {ds : List D} {vs : List V} (r : RDs K m H ds vs) (lo hi : Option Int) : RDs K m H (cutD ds lo hi) (cutV vs lo hi) := by
  unfold cutD cutV
  rw [r.len]
  exact (r.drop _).take _
/-- a part of a slice -/
structure Eo (X : Cx) (W : WX) (e : Option Expr) (f : EM (Option Int)) : Prop where
  run : ∃ t : TO, PO X e t ∧ ∀ (m : List Addr) (τ : Sl) (st : Store) (σ : L2.St) (H : Hp) (Q : Option Int → Hp → Prop), SL X.K m H τ σ → SS X.K m st H → Pe X.K (fun c d H' => W c d σ H') (fun _ _ a b => a = b) m H (f τ st) Q → t σ H Q
def oNone : EM (Option Int) := fun _ st => .ok none st
def oSome (f : EM D) : EM (Option Int) := fun τ st => (f τ st).bind fun d s1 => match d with
  | .int i => .ok (some i) s1
  | _ => .bad
theorem eo_none : Eo X W none oNone := ⟨_, po_none, fun m τ st σ H Q hL hS hP => hP.now hS rfl⟩
theorem eo_some (h : Ex X W e f) : Eo X W (some e) (oSome f) := ⟨_, po_some peW, fun m τ st σ H Q hL hS hP => h.run m τ st σ H _ hL hS (hP.bind fun d s1 m1 H1 v e1 hS1 r1 hP1 => by
  split at hP1
  · cases r1
    exact ⟨_, rfl, hP1.now hS1 rfl⟩
  · exact hP1.elim)⟩
def dCut (d : D) (lo hi : Option Int) (st : Store) : ER D := match d with
  | .str z => if z.length ≤ 16777216 then .ok (.str (cutD z lo hi)) st else .bad
  | .tup xs => .ok (.tup (cutD xs lo hi)) st
  | .rol xs => .ok (.ref st.length) (st ++ [.lst (cutD xs lo hi)])
  | .ref n => match lstAt st n with
    | some xs => .ok (.ref st.length) (st ++ [.lst (cutD xs lo hi)])
    | none => .bad
  | _ => .bad
def eSl (f : EM D) (fl fh : EM (Option Int)) : EM D := fun τ st => (f τ st).bind fun d s1 => (fl τ s1).bind fun l s2 => (fh τ s2).bind fun h s3 => dCut d l h s3
theorem sl_all : SlR X (fun x lo hi H Q => rSlL X.K x lo hi H Q ∨ (rSlT X.K x lo hi H Q ∨ rSlW X.K x lo hi H Q) ∨ rSlS x lo hi H Q) := sl_list.or ((sl_tup.or sl_whole).or sl_str)
theorem cutS_D (z : List Nat) (lo hi : Option Int) : cutS ⟨z.toArray⟩ lo hi = ⟨(cutD z lo hi).toArray⟩ := by
  unfold cutS cutD
  simp [PySem.Str.length]
theorem ex_sl {lo hi : Option Expr} {fl fh : EM (Option Int)} (he : Ex X W e f) (hl : Eo X W lo fl) (hh : Eo X W hi fh) : Ex X W (.Subscript e (.Slice lo hi none p2) pos) (eSl f fl fh) := by
  obtain ⟨tl, pl, hl⟩ := hl
  obtain ⟨th, ph, hh⟩ := hh
  refine ⟨fun m τ st σ H Q hL hS hP pins s I => (pe_slice sl_all peW pl ph).run pins s σ H Q I ?_⟩
  refine he.run m τ st σ H _ hL hS (hP.bind fun d s1 m1 H1 v e1 hS1 r1 hP1 => ?_)
  refine hl m1 τ s1 σ H1 _ (hL.mono e1) hS1 (hP1.bind fun l s2 m2 H2 l' e2 hS2 r2 hP2 => ?_)
  subst r2
  refine hh m2 τ s2 σ H2 _ ((hL.mono e1).mono e2) hS2 (hP2.bind fun h s3 m3 H3 h' e3 hS3 r3 hP3 => ?_)
  subst r3
  have r1 := (r1.mono e2).mono e3
  unfold dCut at hP3
  split at hP3
  · split at hP3
    · rename_i hz
      cases r1
      refine .inr (.inr ⟨_, rfl, line_of (by simpa [PySem.Str.length] using hz), ?_⟩)
      rw [cutS_D]
      exact hP3.now hS3 (.str _)
    · exact hP3.elim
  · rename_i ds _
    cases r1 with
    | @tup a vs _ q rs =>
      by_cases hw : HT.sIx vs.length 0 l = 0 ∧ HT.sIx vs.length vs.length h = vs.length
      · refine .inr (.inl (.inr ⟨_, _, rfl, q, hw.1, hw.2, hP3.now hS3 ?_⟩))
        have e : cutD ds l h = ds := by
          unfold cutD
          rw [rs.len, hw.1, hw.2, List.drop_zero, Nat.sub_zero, ← rs.len]
          exact List.take_length
        rw [e]
        exact .tup q rs
      · exact .inr (.inl (.inl ⟨_, _, rfl, q, hw, hP3.tup hS3 (rs.cut _ _)⟩))
  · cases r1 with
    | rol q rs => exact .inl ⟨_, _, rfl, q.sq, hP3.lst hS3 (rs.cut _ _)⟩
  · split at hP3
    · rename_i xs hx
      cases r1 with
      | ref q =>
        obtain ⟨vs, h1, h2⟩ := hS3.list hx q
        exact .inl ⟨_, vs, rfl, SqL.of h1, hP3.lst hS3 (h2.cut _ _)⟩
    · exact hP3.elim
  · exact hP3.elim
/-! ### sums -/
def intsD : List D → Option (List Int)
  | [] => some []
  | .int i :: ds => (intsD ds).map (i :: ·)
  | _ => none
theorem intsD_V {K : PySem.W.Frag} {m : List Addr} {H : Hp} : ∀ {ds : List D} {vs : List V} {ns : List Int}, RDs K m H ds vs → intsD ds = some ns → vs = ns.map V.int
  | [], _, _, .nil, h => by
    cases h
    rfl
  | d :: ds, _, ns, .cons r rs, h => by
    unfold intsD at h
    split at h
    · rename_i e
      cases e
    · rename_i i ds' e
      cases e
      cases r
      cases hz : intsD ds with
      | none =>
        rw [hz] at h
        cases h
      | some ks =>
        rw [hz] at h
        cases h
        rw [intsD_V rs hz]
        rfl
    · cases h
theorem intsD_map : ∀ ns : List Int, intsD (ns.map D.int) = some ns
  | [] => rfl
  | n :: ns => by
    rw [List.map_cons, intsD, intsD_map ns]
    rfl
def rSumT (K : PySem.W.Frag) : List V → Hp → VK → Prop := fun vs H Q => ∃ (a : Addr) (ns : List Int), vs = [V.ref a] ∧ SqT K H a (ns.map V.int) ∧ Q (.int ns.sum) H
theorem cr_sumT (hc : X.calm = true) : CallR X (.builtin "sum") (rSumT X.K) := by
  intro pins s σ H vs us Q I r h
  obtain ⟨a, ns, rfl, hs, q⟩ := h
  obtain ⟨its, rv, hl, _⟩ := I.tuple hs
  rw [Vals.ref1 r]
  have hi := rv.ints
  obtain ⟨xs, e⟩ := hi.allInts.items
  have hn : numsOf (intItems xs).toList = ns := by rw [← e]; exact hi.numsOf
  rw [nums_intItems] at hn
  obtain ⟨ob, ho, hcl, n, hd⟩ := hl
  have ht : s.heap.IsTuple a (intItems xs) := by
    rw [← e]
    exact ⟨ob, ho, hcl, n, hd⟩
  refine PySem.W.ktm_sumG (I.ok.hd hc) ht fun h' tk t' hk => ⟨.int _, H, I.kept hk, ⟨_, rfl⟩, ?_⟩
  rw [preSum_eq, List.take_of_length_le (by simp), hn]
  exact q
def gSum : SM1 := fun xs st => match intsD xs with
  | some ns => .ok (.int ns.sum) st
  | none => .bad
theorem s_sum (hc : X.calm = true) : CallS X (.builtin "sum") gSum := ⟨_, (cr_sum hc).or (cr_sumT hc), fun m st H ds v E Q hS r hP => by
  obtain ⟨a, vs, rfl, q, rs⟩ := r
  unfold gSum at hP
  split at hP
  · rename_i ns hn
    have e := intsD_V rs hn
    subst e
    rcases q with q | q
    · exact .inl ⟨a, ns, rfl, q, hP.now hS (.int _)⟩
    · exact .inr ⟨a, ns, rfl, q, hP.now hS (.int _)⟩
  · exact hP.elim⟩
/-! ### of lists alone -/
def SqVL (K : PySem.W.Frag) (m : List Addr) (H : Hp) (ds : List D) (v : V) : Prop := ∃ a vs, v = .ref a ∧ SqL K H a vs ∧ RDs K m H ds vs
structure Esl (X : Cx) (W : WX) (e : Expr) (f : EM (List D)) : Prop where
  run : ∀ (m : List Addr) (τ : Sl) (st : Store) (σ : L2.St) (H : Hp) (Q : VK), SL X.K m H τ σ → SS X.K m st H → Pe X.K (fun c d H' => W c d σ H') (SqVL X.K) m H (f τ st) Q → wE X e σ H Q
theorem esl_el {fl : EM (List D)} (h : El X W e fl) : Esl X W e fl := by
  refine ⟨fun m τ st σ H Q hL hS hP => h.run m τ st σ H Q hL hS ?_⟩
  cases hq : fl τ st with
  | ok ds s1 =>
    rw [hq] at hP
    intro m1 H1 v e1 hS1 ⟨a, vs, e, ha, na, hn, rs⟩
    exact hP m1 H1 v e1 hS1 ⟨a, vs, e, SqL.of ha, rs⟩
  | exc x st' =>
    rw [hq] at hP
    exact hP
  | bad =>
    rw [hq] at hP
    exact hP.elim
def dSeqL (st : Store) : D → Option (List D)
  | .rol xs => some xs
  | .ref n => lstAt st n
  | _ => none
def sExL (f : EM D) : EM (List D) := fun τ st => (f τ st).bind fun d s1 => match dSeqL s1 d with
  | some xs => .ok xs s1
  | none => .bad
theorem esl_ex (h : Ex X W e f) : Esl X W e (sExL f) := by
  refine ⟨fun m τ st σ H Q hL hS hP => h.run m τ st σ H Q hL hS (hP.bind fun d s1 m1 H1 v e1 hS1 r1 hP1 => ?_)⟩
  split at hP1
  · rename_i xs hx
    cases r1 with
    | rol q rs =>
      cases hx
      exact hP1.now hS1 ⟨_, _, rfl, q.sq, rs⟩
    | ref q =>
      obtain ⟨vs, h1, h2⟩ := hS1.list hx q
      exact hP1.now hS1 ⟨_, vs, rfl, SqL.of h1, h2⟩
    | _ => cases hx
  · exact hP1.elim
def CallL (X : Cx) (fv : Value) (g : SM1) : Prop :=
  ∃ r, CallR X fv r ∧ ∀ (m : List Addr) (st : Store) (H : Hp) (ds : List D) (v : V) (E : XK) (Q : VK), SS X.K m st H → SqVL X.K m H ds v → Pe X.K E (RD X.K) m H (g ds st) Q → r [v] H Q
theorem ex_callBl {x : Str} {id : String} {g : SM1} {fl : EM (List D)} (hc : CallL X (.builtin id) g) (hg : Gl X x) (hm : X.mg x = none) (hv : bootBuiltins x = some (.builtin id)) (ha : Esl X W e fl) (hn : x ≠ "__name__" := by decide) (hdb : (x == ("__debug__" : Str)) = false := by decide)
    (he : starEach [e] X.env = (false, eval e X.env) :: starEach [] X.env := by rfl) (hpl : (backTo pos (starEach [] X.env)).any (·.1) = false := by rfl) : Ex X W (.Call (.Name x p) [e] [] pos) (eCS g fl) := by
  obtain ⟨r, hr, h⟩ := hc
  refine ⟨fun m τ st σ H Q hL hS hP pins s I => (pe_callB hr hg hm hv (pa_cons peW pa_nil he) hn hdb he hpl).run pins s σ H Q I ?_⟩
  exact ha.run m τ st σ H _ hL hS (hP.bind fun ds s1 m1 H1 v e1 hS1 r1 hP1 => h m1 s1 H1 ds v _ Q hS1 r1 hP1)
def blsD : List D → Option (List Bool)
  | [] => some []
  | .bl i :: ds => (blsD ds).map (i :: ·)
  | _ => none
theorem blsD_V {K : PySem.W.Frag} {m : List Addr} {H : Hp} : ∀ {ds : List D} {vs : List V} {ns : List Bool}, RDs K m H ds vs → blsD ds = some ns → vs = ns.map V.bl
  | [], _, _, .nil, h => by
    cases h
    rfl
  | d :: ds, _, ns, .cons r rs, h => by
    unfold blsD at h
    split at h
    · rename_i e
      cases e
    · rename_i i ds' e
      cases e
      cases r
      cases hz : blsD ds with
      | none =>
        rw [hz] at h
        cases h
      | some ks =>
        rw [hz] at h
        cases h
        rw [blsD_V rs hz]
        rfl
    · cases h
theorem blsD_map : ∀ ns : List Bool, blsD (ns.map D.bl) = some ns
  | [] => rfl
  | n :: ns => by
    rw [List.map_cons, blsD, blsD_map ns]
    rfl
def gAllB : SM1 := fun xs st => match blsD xs with
  | some bs => .ok (.bl (bs.all id)) st
  | none => .bad
def gAnyB : SM1 := fun xs st => match blsD xs with
  | some bs => .ok (.bl (bs.any id)) st
  | none => .bad
theorem s_all (hc : X.calm = true) : CallL X (.builtin "all") gAllB := ⟨_, cr_all hc, fun m st H ds v E Q hS r hP => by
  obtain ⟨a, vs, rfl, q, rs⟩ := r
  unfold gAllB at hP
  split at hP
  · rename_i ns hn
    have e := blsD_V rs hn
    subst e
    exact ⟨a, ns, rfl, q, hP.now hS (.bl _)⟩
  · exact hP.elim⟩
theorem s_any (hc : X.calm = true) : CallL X (.builtin "any") gAnyB := ⟨_, cr_any hc, fun m st H ds v E Q hS r hP => by
  obtain ⟨a, vs, rfl, q, rs⟩ := r
  unfold gAnyB at hP
  split at hP
  · rename_i ns hn
    have e := blsD_V rs hn
    subst e
    exact ⟨a, ns, rfl, q, hP.now hS (.bl _)⟩
  · exact hP.elim⟩
def maxI : List Int → Option Int
  | [] => none
  | n :: ns => some (ns.foldl max n)
def minI : List Int → Option Int
  | [] => none
  | n :: ns => some (ns.foldl min n)
theorem foldl_max_ge : ∀ (ns : List Int) (n : Int), n ≤ ns.foldl max n ∧ (∀ y ∈ ns, y ≤ ns.foldl max n) ∧ (ns.foldl max n = n ∨ ns.foldl max n ∈ ns)
  | [], n => ⟨Int.le_refl _, by simp, .inl rfl⟩
  | k :: ns, n => by
    obtain ⟨h1, h2, h3⟩ := foldl_max_ge ns (max n k)
    rw [List.foldl_cons]
    refine ⟨Int.le_trans (Int.le_max_left n k) h1, fun y hy => ?_, ?_⟩
    · rcases List.mem_cons.mp hy with rfl | hy
      · exact Int.le_trans (Int.le_max_right n y) h1
      · exact h2 y hy
    · rcases h3 with h3 | h3
      · rw [h3]
        rcases Int.le_total n k with h | h
        · rw [Int.max_eq_right h]
          exact .inr (List.mem_cons_self ..)
        · rw [Int.max_eq_left h]
          exact .inl rfl
      · exact .inr (List.mem_cons_of_mem _ h3)
theorem foldl_min_le : ∀ (ns : List Int) (n : Int), ns.foldl min n ≤ n ∧ (∀ y ∈ ns, ns.foldl min n ≤ y) ∧ (ns.foldl min n = n ∨ ns.foldl min n ∈ ns)
  | [], n => ⟨Int.le_refl _, by simp, .inl rfl⟩
  | k :: ns, n => by
    obtain ⟨h1, h2, h3⟩ := foldl_min_le ns (min n k)
    rw [List.foldl_cons]
    refine ⟨Int.le_trans h1 (Int.min_le_left n k), fun y hy => ?_, ?_⟩
    · rcases List.mem_cons.mp hy with rfl | hy
      · exact Int.le_trans h1 (Int.min_le_right n y)
      · exact h2 y hy
    · rcases h3 with h3 | h3
      · rw [h3]
        rcases Int.le_total n k with h | h
        · rw [Int.min_eq_left h]
          exact .inl rfl
        · rw [Int.min_eq_right h]
          exact .inr (List.mem_cons_self ..)
      · exact .inr (List.mem_cons_of_mem _ h3)
def gMax : SM1 := fun xs st => match (intsD xs).bind maxI with
  | some n => .ok (.int n) st
  | none => .bad
def gMin : SM1 := fun xs st => match (intsD xs).bind minI with
  | some n => .ok (.int n) st
  | none => .bad
theorem s_max (hc : X.calm = true) : CallL X (.builtin "max") gMax := ⟨_, cr_max hc, fun m st H ds v E Q hS r hP => by
  obtain ⟨a, vs, rfl, q, rs⟩ := r
  unfold gMax at hP
  split at hP
  · rename_i k hk
    cases hn : intsD ds with
    | none =>
      rw [hn] at hk
      cases hk
    | some ns =>
      rw [hn] at hk
      have e := intsD_V rs hn
      subst e
      cases ns with
      | nil => cases hk
      | cons n ns =>
        have hk : some (ns.foldl max n) = some k := hk
        cases hk
        obtain ⟨h1, h2, h3⟩ := foldl_max_ge ns n
        refine ⟨a, n :: ns, rfl, q, by simp, fun mm hm hy => ?_⟩
        have e : mm = ns.foldl max n := by
          refine Int.le_antisymm ?_ ?_
          · rcases List.mem_cons.mp hm with rfl | hm
            · exact h1
            · exact h2 mm hm
          · rcases h3 with h3 | h3
            · rw [h3]
              exact hy n (List.mem_cons_self ..)
            · exact hy _ (List.mem_cons_of_mem _ h3)
        subst e
        exact hP.now hS (.int _)
  · exact hP.elim⟩
theorem s_min (hc : X.calm = true) : CallL X (.builtin "min") gMin := ⟨_, cr_min hc, fun m st H ds v E Q hS r hP => by
  obtain ⟨a, vs, rfl, q, rs⟩ := r
  unfold gMin at hP
  split at hP
  · rename_i k hk
    cases hn : intsD ds with
    | none =>
      rw [hn] at hk
      cases hk
    | some ns =>
      rw [hn] at hk
      have e := intsD_V rs hn
      subst e
      cases ns with
      | nil => cases hk
      | cons n ns =>
        have hk : some (ns.foldl min n) = some k := hk
        cases hk
        obtain ⟨h1, h2, h3⟩ := foldl_min_le ns n
        refine ⟨a, n :: ns, rfl, q, by simp, fun mm hm hy => ?_⟩
        have e : mm = ns.foldl min n := by
          refine Int.le_antisymm ?_ ?_
          · rcases h3 with h3 | h3
            · rw [h3]
              exact hy n (List.mem_cons_self ..)
            · exact hy _ (List.mem_cons_of_mem _ h3)
          · rcases List.mem_cons.mp hm with rfl | hm
            · exact h1
            · exact h2 mm hm
        subst e
        exact hP.now hS (.int _)
  · exact hP.elim⟩
/-! ### lcm -/
def rLcm : List V → Hp → VK → Prop := fun vs H Q => ∃ a b : Int, vs = [.int a, .int b] ∧ a.natAbs < 2 ^ 9000 ∧ b.natAbs < 2 ^ 9000 ∧ Q (.int ((Nat.lcm a.natAbs b.natAbs : Nat) : Int)) H
theorem log_of {n k : Nat} (h : n < 2 ^ k) (hk : 0 < k) : n.log2 < k := by
  by_cases z : n = 0
  · subst z
    rw [Nat.log2_zero]
    exact hk
  · exact (Nat.log2_lt z).mpr h
theorem cr_lcm : CallR X (.builtin "math.lcm") rLcm := by
  intro pins s σ H vs us Q I r h
  obtain ⟨a, b, rfl, h1, h2, q⟩ := h
  obtain ⟨t, u, rfl⟩ := Vals.int2 r
  have h0 : (1 : Nat) < 2 ^ 9000 := Nat.one_lt_two_pow (by decide)
  have l1 : (max 1 a.natAbs).log2 < 9000 := log_of (Nat.max_lt.mpr ⟨h0, h1⟩) (by decide)
  have l2 : (max a.natAbs b.natAbs).log2 < 9000 := log_of (Nat.max_lt.mpr ⟨h1, h2⟩) (by decide)
  have l3 : ((((Nat.lcm 1 a.natAbs).lcm b.natAbs : Nat) : Int)).natAbs.log2 < bitsLine := by
    rw [Int.natAbs_natCast, PySem.W.mc_lcm_one]
    have := PySem.W.mc_lcm_le a.natAbs b.natAbs
    have h3 : a.natAbs * b.natAbs < 2 ^ 18000 := by
      rw [show (18000 : Nat) = 9000 + 9000 from rfl, Nat.pow_add]
      exact Nat.mul_lt_mul'' h1 h2
    exact Nat.lt_trans (log_of (Nat.lt_of_le_of_lt this h3) (by decide)) (by decide)
  have g := (PySem.W.mg_run_lcm a t b u (by omega) (by omega) l3).meets
  refine PySem.call_function_meets PySem.W.MGF.kind_lcm PySem.W.MGF.plain_lcm PySem.W.MGF.entry_lcm (PySem.W.MGF.args_lcm _ _) g ?_
  rw [PySem.W.mc_lcm_one]
  exact ⟨.int _, H, I.tok _, ⟨_, rfl⟩, q⟩
def fLcm : FM := fun ds st => match ds with
  | [.int i, .int j] => if decide (i.natAbs < 2 ^ 9000) && decide (j.natAbs < 2 ^ 9000) then .ok (.int (Nat.lcm i.natAbs j.natAbs : Nat)) st else .bad
  | _ => .bad
theorem c_lcm : CallM X (.builtin "math.lcm") fLcm := ⟨_, cr_lcm, fun m st H ds vs E Q hS r hP => by
  unfold fLcm at hP
  split at hP
  · split at hP
    · rename_i hc
      rw [Bool.and_eq_true, decide_eq_true_eq, decide_eq_true_eq] at hc
      obtain ⟨v, u, rfl, r1, r2⟩ := r.two
      cases r1
      cases r2
      exact ⟨_, _, rfl, hc.1, hc.2, hP.now hS (.int _)⟩
    · exact hP.elim
  · exact hP.elim⟩
/-! ### texts: join, repeated -/
def strsD : List D → Option (List (List Nat))
  | [] => some []
  | .str x :: ds => (strsD ds).map (x :: ·)
  | _ => none
theorem strsD_V {K : PySem.W.Frag} {m : List Addr} {H : Hp} : ∀ {ds : List D} {vs : List V} {ns : List (List Nat)}, RDs K m H ds vs → strsD ds = some ns → vs = (ns.map fun x => (⟨x.toArray⟩ : Str)).map V.str
  | [], _, _, .nil, h => by
    cases h
    rfl
  | d :: ds, _, ns, .cons r rs, h => by
    unfold strsD at h
    split at h
    · rename_i e
      cases e
    · rename_i i ds' e
      cases e
      cases r
      cases hz : strsD ds with
      | none =>
        rw [hz] at h
        cases h
      | some ks =>
        rw [hz] at h
        cases h
        rw [strsD_V rs hz]
        rfl
    · cases h
theorem strsD_map : ∀ ns : List (List Nat), strsD (ns.map D.str) = some ns
  | [] => rfl
  | n :: ns => by
    rw [List.map_cons, strsD, strsD_map ns]
    rfl
end
end HM

/-! HM, part 12: texts joined, things repeated. -/
namespace HM
open PySem PySem.Spec PyProof.Rows L2 SX
section
variable {X : Cx} {W : WX} {e o a b c : Expr} {es : List Expr} {pos p p2 : Pos} {f fo fa fb : EM D} {fs : EM (List D)}
def joinD (a : List Nat) : List (List Nat) → List Nat
  | [] => []
  | [p] => p
  | p :: q :: r => p ++ (a ++ joinD a (q :: r))
theorem joinD_eq (a : List Nat) : ∀ ys : List (List Nat), TL.joinL a ys = joinD a ys
  | [] => rfl
  | [_] => rfl
  | p :: q :: r => by
    show p ++ (a ++ TL.joinL a (q :: r)) = p ++ (a ++ joinD a (q :: r))
    rw [joinD_eq a (q :: r)]
def mJoin : MM := fun d ds st => match d, ds with
  | .str a, [y] => match (dSeq st y).bind strsD with
    | some ys => if (ys.map List.length).sum + ys.length * a.length ≤ 16777216 then .ok (.str (joinD a ys)) st else .bad
    | none => .bad
  | _, _ => .bad
theorem me_join : MethM X "str.join" mJoin := ⟨_, mt_join, fun m st H d v ds vs E Q hS r rs hP => by
  unfold mJoin at hP
  split at hP
  · rename_i a y
    split at hP
    · rename_i ys hy
      split at hP
      · rename_i hl
        cases hq : dSeq st y with
        | none =>
          rw [hq] at hy
          cases hy
        | some zs =>
          rw [hq] at hy
          obtain ⟨u, rfl, ru⟩ := rs.one
          cases r
          obtain ⟨p, us, rfl, q, rs'⟩ := dSeq_read hS hq ru
          have e := strsD_V rs' hy
          subst e
          refine ⟨⟨a.toArray⟩, p, ys.map S, rfl, rfl, q, ?_, ?_⟩
          · rw [List.map_map, List.length_map]
            have e : (ys.map ((fun x : Str => x.length) ∘ S)) = ys.map List.length := List.map_congr_left fun x _ => S_len x
            rw [e]
            have e2 : (⟨a.toArray⟩ : Str).length = a.length := S_len a
            rw [e2]
            exact hl
          · have e := join_S a ys
            rw [joinD_eq] at e
            rw [e]
            exact hP.now hS (.str _)
      · exact hP.elim
    · exact hP.elim
  · exact hP.elim⟩
/-! ### * -/
def repD {α : Type} (k : Nat) (xs : List α) : List α := (List.replicate k xs).flatten
theorem foldl_app (x : Array Nat) : ∀ (k : Nat) (acc : Array Nat), (List.replicate k x).foldl (· ++ ·) acc = acc ++ ((List.replicate k x.toList).flatten).toArray
  | 0, acc => by simp
  | k + 1, acc => by
    rw [List.replicate_succ, List.foldl_cons, foldl_app x k, List.replicate_succ, List.flatten_cons]
    apply Array.ext'
    simp
theorem repD_len {α : Type} (k : Nat) (xs : List α) : (repD k xs).length = xs.length * k := by
  unfold repD
  induction k with
  | zero => simp
  | succ k ih =>
    rw [List.replicate_succ, List.flatten_cons, List.length_append, ih, Nat.mul_succ, Nat.add_comm]
theorem op_repS : OpR X (binaryOp .Mult) (fun x y H Q => ∃ (z : List Nat) (k : Int), x = .str (S z) ∧ y = .int k ∧ 2 ≤ k ∧ k ≤ 16777216 ∧ z.length * k.toNat ≤ 16777216 ∧ Q (.str (S (repD k.toNat z))) H) := by
  intro pins s σ H x y v u Q I rx ry h
  obtain ⟨z, k, rfl, rfl, h2, hz, hl, q⟩ := h
  obtain ⟨t, rfl⟩ := rx
  obtain ⟨t', rfl⟩ := ry
  have e1 : (S z).length = z.length := S_len z
  refine PySem.P.mul_str ?_ (fun _ h0 => ?_) (fun _ _ => ?_) ?_
  · have a1 : ¬ k < -(2 ^ 63 : Int) := by omega
    have a2 : ¬ k ≥ 2 ^ 63 := by
      have : (16777216 : Int) < 2 ^ 63 := by decide
      omega
    rw [decide_eq_false a1, decide_eq_false a2]
    rfl
  · rw [e1]
    have h3 : z.length ≤ 16777216 := by
      have : z.length * 1 ≤ z.length * k.toNat := Nat.mul_le_mul_left _ (by omega)
      omega
    have h4 : (16777216 : Int) ≤ (2 ^ 63 - 1) / k := by
      refine (Int.le_ediv_iff_mul_le (by omega)).mpr ?_
      have : (16777216 : Int) * k ≤ 16777216 * 16777216 := Int.mul_le_mul_of_nonneg_left (by omega) (by decide)
      have : (16777216 : Int) * 16777216 ≤ 2 ^ 63 - 1 := by decide
      omega
    omega
  · rw [e1]
    show decide (z.length * k.toNat > 2 ^ 24) = false
    exact decide_eq_false (by
      have : (2 : Nat) ^ 24 = 16777216 := rfl
      omega)
  · have n1 : ¬ k < 1 := by omega
    rw [if_neg n1]
    have a1 : (k == 1) = false := beq_false_of_ne (by omega)
    rw [a1, e1, Bool.false_or]
    by_cases h0 : z = []
    · subst h0
      have e : (S (repD k.toNat ([] : List Nat))) = S [] := by
        have := repD_len k.toNat ([] : List Nat)
        rw [List.length_nil, Nat.zero_mul] at this
        rw [List.length_eq_zero_iff.mp this]
      rw [e] at q
      rw [if_pos (show (([] : List Nat).length == 0) = true from rfl)]
      exact ⟨.str _, H, I, ⟨_, rfl⟩, q⟩
    · have zl : 0 < z.length := List.length_pos_iff.mpr h0
      have a2 : (z.length == 0) = false := beq_false_of_ne (by omega)
      rw [a2, if_neg Bool.false_ne_true]
      have e : (⟨(List.replicate k.toNat (S z).cps).foldl (· ++ ·) #[]⟩ : Str) = S (repD k.toNat z) := by
        rw [foldl_app]
        simp [repD]
      rw [e]
      refine ⟨?_, .str _, H, I.tok _, ⟨_, rfl⟩, q⟩
      rw [S_len, repD_len, PySem.sizeLine_eq]
      exact hl
def oMul : O2 := fun x y st => match x, y with
  | .int i, .int j => if okMul i j then .ok (.int (i * j)) st else .bad
  | .str z, .int k => if decide (2 ≤ k) && decide (k ≤ 16777216) && decide (z.length * k.toNat ≤ 16777216) then .ok (.str (repD k.toNat z)) st else .bad
  | .ref n, .int k => match lstAt st n with
    | some xs => if okIx k && decide (xs.length * k.toNat ≤ 16777216) then .ok (.ref st.length) (st ++ [.lst (repD k.toNat xs)]) else .bad
    | none => .bad
  | .tup xs, .int k => if decide (2 ≤ k) && decide (k ≤ 1000) && !xs.isEmpty && decide (xs.length ≤ 1000) then .ok (.tup (repD k.toNat xs)) st else .bad
  | _, _ => .bad
theorem RDs.rep {K : PySem.W.Frag} {m : List Addr} {H : Hp} {ds : List D} {vs : List V} (r : RDs K m H ds vs) : ∀ k : Nat, RDs K m H (repD k ds) (repD k vs)
  | 0 => .nil
  | k + 1 => by
    have := RDs.rep r k
    unfold repD at this ⊢
    rw [List.replicate_succ, List.replicate_succ, List.flatten_cons, List.flatten_cons]
    exact r.append this
theorem op_mulAll : OpR X (binaryOp .Mult) (fun x y H Q => ((rI IntMulOk fun i j => .int (i * j)) x y H Q ∨ (∃ (z : List Nat) (k : Int), x = .str (S z) ∧ y = .int k ∧ 2 ≤ k ∧ k ≤ 16777216 ∧ z.length * k.toNat ≤ 16777216 ∧ Q (.str (S (repD k.toNat z))) H)) ∨ (rRep x y H Q ∨ rRepT X.K x y H Q)) :=
  (op_mulAny.or op_repS).or (op_rep.or op_repT)
theorem m_mul : OpM X W (binaryOp .Mult) oMul := opm_of op_mulAll fun m st H dx dy x y E Q hS r1 r2 hP => by
  unfold oMul at hP
  split at hP
  · rename_i i j
    split at hP
    · rename_i hc
      cases r1
      cases r2
      have q : (i.natAbs < 18446744073709551616 ∨ j.natAbs < 18446744073709551616) ∨ i.natAbs.log2 + j.natAbs.log2 < 1000000 := of_decide_eq_true hc
      refine .inl (.inl ⟨_, _, rfl, rfl, ?_, hP.now hS (.int _)⟩)
      rcases q with (q | q) | q
      · exact CMul.ok (.inl (by omega))
      · exact CMul.ok (.inr (by omega))
      · exact CMulW.ok q
    · exact hP.elim
  · split at hP
    · rename_i hc
      simp only [Bool.and_eq_true, decide_eq_true_eq] at hc
      cases r1
      cases r2
      exact .inl (.inr ⟨_, _, rfl, rfl, hc.1.1, hc.1.2, hc.2, hP.now hS (.str _)⟩)
    · exact hP.elim
  · split at hP
    · rename_i xs hx
      split at hP
      · rename_i hc
        rw [Bool.and_eq_true, decide_eq_true_eq] at hc
        cases r1 with
        | ref q =>
          cases r2
          obtain ⟨vs, h1, h2⟩ := hS.list hx q
          exact .inr (.inl ⟨_, _, vs, rfl, rfl, h1, (okIx_ok hc.1).1, (okIx_ok hc.1).2, line_of (by rw [← h2.len]; exact hc.2), hP.lst hS (h2.rep _)⟩)
      · exact hP.elim
    · exact hP.elim
  · split at hP
    · rename_i hc
      simp only [Bool.and_eq_true, decide_eq_true_eq, Bool.not_eq_true', List.isEmpty_eq_false_iff] at hc
      cases r1 with
      | tup q rs =>
        cases r2
        refine .inr (.inr ⟨_, _, _, rfl, rfl, q, fun e => hc.1.2 ?_, hc.1.1.1, hc.1.1.2, by rw [← rs.len]; exact hc.2, hP.tup hS (rs.rep _)⟩)
        subst e
        cases rs
        rfl
    · exact hP.elim
  · exact hP.elim
end
end HM

/-! HM: calls of defs with keywords. -/
namespace HM
open PySem PySem.Spec PyProof.Rows L2
section
variable {X : Cx} {W : WX} {e a b c : Expr} {es rest : List Expr} {pos p : Pos} {f fa fb fc : EM D} {fs fk : EM (List D)} {kws : List Keyword}
def wK (X : Cx) (kws : List Keyword) : TA := fun σ H Q => ∀ (pos : Pos) (pins : List (Addr × Obj)) (s : Shared), Inv X pins σ H s → wpAny (model X.prog X.w) X.A (evalAll ((backToKw pos (keywordEach kws X.env)).map (·.2))) (AP X pins σ Q) X.xe s
theorem pkW {X : Cx} {kws : List Keyword} : PK X kws (wK X kws) := ⟨fun pos pins s σ H Q I h => h pos pins s I⟩
/-- the values of keywords -/
structure Ek (X : Cx) (W : WX) (kws : List Keyword) (f : EM (List D)) : Prop where
  run : ∀ (m : List Addr) (τ : Sl) (st : Store) (σ : L2.St) (H : Hp) (Q : List V → Hp → Prop), SL X.K m H τ σ → SS X.K m st H → Pe X.K (fun c d H' => W c d σ H') (RDs X.K) m H (f τ st) Q → wK X kws σ H Q
theorem ek_nil : Ek X W [] aNil := ⟨fun m τ st σ H Q hL hS hP pos pins s I => pk_nil.run pos pins s σ H Q I (hP.now hS .nil)⟩
theorem ek_cons {nm : Option Str} {kpos : Pos} (ha : Ex X W e f) (hr : Ek X W kws fs) : Ek X W (⟨nm, e, kpos⟩ :: kws) (aCons f fs) := by
  refine ⟨fun m τ st σ H Q hL hS hP pos pins s I => (pk_cons peW pkW).run pos pins s σ H Q I ?_⟩
  refine ha.run m τ st σ H _ hL hS (hP.bind fun dx s1 m1 H1 x e1 hS1 r1 hP1 => ?_)
  exact hr.run m1 τ s1 σ H1 _ (hL.mono e1) hS1 (hP1.bind fun ds s2 m2 H2 xs e2 hS2 r2 hP2 => hP2.now hS2 (.cons (r1.mono e2) r2))
/-- those at the places -/
def arr {α : Type} (is : List Nat) (l : List α) : List α := is.filterMap (fun i => l[i]?)
theorem Vals.arr {xs : List V} {us : List Value} (r : Vals xs us) : ∀ is : List Nat, Vals (arr is xs) (arr is us)
  | [] => .nil
  | i :: is => by
    have ih := Vals.arr r is
    unfold HM.arr at ih ⊢
    rw [List.filterMap_cons, List.filterMap_cons]
    cases h : xs[i]? with
    | none => rw [r.none_of h]; exact ih
    | some x =>
      obtain ⟨u, h1, h2⟩ := r.get h
      rw [h1]
      exact .cons h2 ih
theorem RDs.arr {K : PySem.W.Frag} {m : List Addr} {H : Hp} {ds : List D} {vs : List V} (r : RDs K m H ds vs) : ∀ is : List Nat, RDs K m H (arr is ds) (arr is vs)
  | [] => .nil
  | i :: is => by
    have ih := RDs.arr r is
    unfold HM.arr at ih ⊢
    rw [List.filterMap_cons, List.filterMap_cons]
    cases h : ds[i]? with
    | none =>
      have : vs[i]? = none := by
        rw [List.getElem?_eq_none_iff] at h ⊢
        rw [← r.len]; exact h
      rw [this]; exact ih
    | some x =>
      obtain ⟨u, h1, h2⟩ := r.get h
      rw [h1]
      exact .cons h2 ih
def eCallK (n k np : Nat) (is : List Nat) (mf : FM) (fs fk : EM (List D)) : EM D := fun τ st => (fs τ st).bind fun ds s1 => (fk τ s1).bind fun es s2 => if ds.length = n ∧ es.length = k ∧ (arr is (ds ++ es)).length = np then mf (arr is (ds ++ es)) s2 else .bad
theorem ex_ck {P : Program} {w : World} {K : PySem.W.Frag} {mg : Str → Option Value} {base : Heap} {A : Around} {j k n : Nat} {ps ks : List Str} {is : List Nat} {mf : FM} {x : Str} {st : Stmt} {fa : Addr} {fd : FuncData} (c : Cal P w K mg base x j ps mf) (F : FnP K x st fa fd) (gx : mg x = some (.ref fa))
    (bn : ∀ (kV doc pm : Value) (an : Option Addr) (cdv ct : Value) (us ws : List Value), us.length = n → ws.length = ks.length → bindArgs (PySem.W.fnOf x x (defArgs st) (defBody st) (defScope st) .none kV doc pm an cdv ct) ⟨us, ks.zip ws⟩ = pure (ps.zip (arr is (us ++ ws))))
    (tk : Takes X W) (hr : Room k A) (hj : j ≤ k) (ha : Ea X W (e :: es) fs) (hkw : Ek X W kws fk)
    (hall : (backToKw pos (keywordEach kws X.env)).all (·.1.isSome) = true := by rfl) (hks : (backToKw pos (keywordEach kws X.env)).filterMap (·.1) = ks := by rfl)
    (hpl : ((backTo pos (starEach (e :: es) X.env)).any (·.1) || (backToKw pos (keywordEach kws X.env)).any (·.1.isNone)) = false := by rfl)
    (h1 : X.prog = P := by rfl) (h2 : X.w = w := by rfl) (h3 : X.K = K := by rfl) (h4 : X.mg = mg := by rfl) (h5 : X.base = base := by rfl) (h6 : X.A = A := by rfl) (hg : Gl X x := by rfl) (hdb : (x == ("__debug__" : Str)) = false := by decide) (he : starEach (e :: es) X.env = (false, eval e X.env) :: starEach es X.env := by rfl) :
    Ex X W (.Call (.Name x p) (e :: es) kws pos) (eCallK n ks.length ps.length is mf fs fk) := by
  subst h1 h2 h3 h4 h5 h6
  obtain ⟨f, fd', G, hm, hk, hb, oc, od, osl, lk⟩ := c.ex
  have e1 : f = fa := by
    rw [hm] at gx
    exact Value.ref.inj (Option.some.inj gx)
  subst e1
  obtain ⟨oc2, od2, dV, kV, doc, pm, an, cdv, ct, osl2, e2, lk2, hcd, hD, hK⟩ := F.ex
  rw [lk] at lk2
  have e3 : fd' = fd := by
    have := Option.some.inj lk2
    injection this with _ _ q _
    injection q
  subst e3
  have hdV : dV = .none := by
    rcases hD with ⟨_, q⟩ | ⟨q, _⟩
    · exact q
    · exact absurd rfl q
  have kb : KBn X.K fd' ps n ks (fun us ws => HM.arr is (us ++ ws)) (fun vs zs => HM.arr is (vs ++ zs)) :=
    ⟨fun s us ws _ l1 l2 => .of_eq (by rw [e2, hdV]; exact bn kV doc pm an cdv ct us ws l1 l2), fun r1 r2 => HM.Vals.arr (r1.append r2) is⟩
  refine ⟨fun m τ st σ H Q hL hS hP pins s I => ?_⟩
  refine wpAny_Call_Name_kw (ld_glob I hg hm ?_ hdb)
  have q : wA X (e :: es) σ H fun vs H1 => wK X kws σ H1 fun zs H2 => vs.length = n ∧ zs.length = ks.length ∧ spM X.K ps.length mf (HM.arr is (vs ++ zs)) H2 Q (WE W σ) :=
    ha.run m τ st σ H _ hL hS (hP.bind fun ds s1 m1 H1 vs e1 hS1 r1 hP1 => hkw.run m1 τ s1 σ H1 _ (hL.mono e1) hS1 (hP1.bind fun es s2 m2 H2 xs e2 hS2 r2 hP2 => by
      split at hP2
      · rename_i hl
        exact ⟨by rw [← r1.len]; exact hl.1, by rw [← r2.len]; exact hl.2.1, m2, s2, _, hl.2.2, hS2, RDs.arr ((r1.mono e2).append r2) is, hP2⟩
      · exact hP2.elim))
  refine PySem.W.callWith_KW (h₀ := X.base) I.ok.mod.kin hk hall (thn (q pos pins s I) fun us s1 ⟨vs, H1, I1, r, q1⟩ => ?_) hpl he
  refine thn (q1 pos pins s1 I1) fun ws s2 ⟨zs, H2, I2, rz, l1, l2, q2⟩ => ⟨I2.kIn, ?_⟩
  rw [hks]
  have r2 := kb.rel r rz
  refine wpAny_call (codeAny_mono (G.run X.A X.stack s2 H2 ⟨us, ks.zip ws⟩ _ _ Q (WE W σ) (hr.mono hj) I2.env0 (kb.to s2 us ws I2.kIn (r.length.symm.trans l1) (rz.length.symm.trans l2)) r2 q2) fun r s' hq => ?_)
  cases r with
  | error e => exact passAt tk σ pins H2 s2 e s' I2 hq
  | ok fl =>
    cases fl with
    | ret u => exact I2.after hq
    | next => exact False.elim hq
    | brk => exact False.elim hq
    | cont => exact False.elim hq
theorem ex_ck0 {P : Program} {w : World} {K : PySem.W.Frag} {mg : Str → Option Value} {base : Heap} {A : Around} {j k : Nat} {ps ks : List Str} {is : List Nat} {mf : FM} {x : Str} {st : Stmt} {fa : Addr} {fd : FuncData} (c : Cal P w K mg base x j ps mf) (F : FnP K x st fa fd) (gx : mg x = some (.ref fa))
    (bn : ∀ (kV doc pm : Value) (an : Option Addr) (cdv ct : Value) (us ws : List Value), us.length = 0 → ws.length = ks.length → bindArgs (PySem.W.fnOf x x (defArgs st) (defBody st) (defScope st) .none kV doc pm an cdv ct) ⟨us, ks.zip ws⟩ = pure (ps.zip (arr is (us ++ ws))))
    (tk : Takes X W) (hr : Room k A) (hj : j ≤ k) (hkw : Ek X W kws fk)
    (hall : (backToKw pos (keywordEach kws X.env)).all (·.1.isSome) = true := by rfl) (hks : (backToKw pos (keywordEach kws X.env)).filterMap (·.1) = ks := by rfl)
    (hpl : ((backTo pos (starEach [] X.env)).any (·.1) || (backToKw pos (keywordEach kws X.env)).any (·.1.isNone)) = false := by rfl)
    (h1 : X.prog = P := by rfl) (h2 : X.w = w := by rfl) (h3 : X.K = K := by rfl) (h4 : X.mg = mg := by rfl) (h5 : X.base = base := by rfl) (h6 : X.A = A := by rfl) (hg : Gl X x := by rfl) (hdb : (x == ("__debug__" : Str)) = false := by decide) :
    Ex X W (.Call (.Name x p) [] kws pos) (eCallK 0 ks.length ps.length is mf aNil fk) := by
  subst h1 h2 h3 h4 h5 h6
  obtain ⟨f, fd', G, hm, hk, hb, oc, od, osl, lk⟩ := c.ex
  have e1 : f = fa := by
    rw [hm] at gx
    exact Value.ref.inj (Option.some.inj gx)
  subst e1
  obtain ⟨oc2, od2, dV, kV, doc, pm, an, cdv, ct, osl2, e2, lk2, hcd, hD, hK⟩ := F.ex
  rw [lk] at lk2
  have e3 : fd' = fd := by
    have := Option.some.inj lk2
    injection this with _ _ q _
    injection q
  subst e3
  have hdV : dV = .none := by
    rcases hD with ⟨_, q⟩ | ⟨q, _⟩
    · exact q
    · exact absurd rfl q
  have kb : KBn X.K fd' ps 0 ks (fun us ws => HM.arr is (us ++ ws)) (fun vs zs => HM.arr is (vs ++ zs)) :=
    ⟨fun s us ws _ l1 l2 => .of_eq (by rw [e2, hdV]; exact bn kV doc pm an cdv ct us ws l1 l2), fun r1 r2 => HM.Vals.arr (r1.append r2) is⟩
  refine ⟨fun m τ st σ H Q hL hS hP pins s I => ?_⟩
  refine wpAny_Call_Name_kw (ld_glob I hg hm ?_ hdb)
  have q : wK X kws σ H fun zs H2 => zs.length = ks.length ∧ spM X.K ps.length mf (HM.arr is zs) H2 Q (WE W σ) := by
    have hP : Pe X.K (fun c d H' => W c d σ H') (RD X.K) m H ((fk τ st).bind fun es s2 => if ([] : List D).length = 0 ∧ es.length = ks.length ∧ (HM.arr is ([] ++ es)).length = ps.length then mf (HM.arr is ([] ++ es)) s2 else .bad) Q := hP
    exact hkw.run m τ st σ H _ hL hS (hP.bind fun es s2 m2 H2 xs e2 hS2 r2 hP2 => by
      split at hP2
      · rename_i hl
        exact ⟨by rw [← r2.len]; exact hl.2.1, m2, s2, _, hl.2.2, hS2, RDs.arr r2 is, hP2⟩
      · exact hP2.elim)
  refine PySem.W.callWith_KW0 (h₀ := X.base) I.ok.mod.kin hk hall (thn (q pos pins s I) fun ws s2 ⟨zs, H2, I2, rz, l2, q2⟩ => ⟨I2.kIn, ?_⟩) hpl
  rw [hks]
  have r2 : Vals (HM.arr is zs) (HM.arr is ([] ++ ws)) := HM.Vals.arr rz is
  refine wpAny_call (codeAny_mono (G.run X.A X.stack s2 H2 ⟨[], ks.zip ws⟩ _ _ Q (WE W σ) (hr.mono hj) I2.env0 (kb.to s2 [] ws I2.kIn rfl (rz.length.symm.trans l2)) r2 q2) fun r s' hq => ?_)
  cases r with
  | error e => exact passAt tk σ pins H2 s2 e s' I2 hq
  | ok fl =>
    cases fl with
    | ret u => exact I2.after hq
    | next => exact False.elim hq
    | brk => exact False.elim hq
    | cont => exact False.elim hq
end
end HM

/-! HM, part 13: max and min of tuples, index. -/
namespace HM
open PySem PySem.Spec PyProof.Rows L2
section
variable {prog : Program} {w : World} {A : Around} {E : Value → Shared → Prop} {s : Shared}
/-- the greatest of a tuple's ints -/
theorem tup_max {t : Addr} {xs : Array (Int × Tok)} {Q : Value → Shared → Prop} (hh : A.handled = none) (ht : s.heap.IsTuple t (intItems xs)) (hne : 0 < xs.size)
    (h : ∀ v h' tk, (intItems xs)[argBest (fun i j => decide (numAt xs i > numAt xs j)) (xs.size - 1)]? = some v → (∀ b o, s.heap.get? b = some o → h'.get? b = some o) → Q v { s with heap := h', toks := tk }) :
    wpAny (model prog w) A (call (.builtin "max") [.ref t]) Q E s := by
  obtain ⟨ob, o1, _, _, _⟩ := id ht
  have sz : (intItems xs).size = xs.size := by simp [intItems]
  refine call_max_walk (wpAny_pyIter_tuple ht ?_)
  refine ⟨_, [_, t], [_], _, _, _, _, rfl, Walks.tuple (A := A.in1) hh s.heap.objs.size t (Nat.ne_of_lt (Heap.lt_size o1)) (intItems xs), ⟨⟨_, Heap.get?_push_size _ rfl, rfl, rfl⟩, ht.push _⟩, fun b hb => ?_, by omega, CmpOf.ints_gt (numAt xs) (fun _ _ => intItems_at), fun v h' tk hP hk => ?_⟩
  · rcases List.mem_cons.mp hb with rfl | hb
    · exact Heap.lt_size (Heap.get?_push_size _ rfl)
    · rw [List.mem_singleton.mp hb]
      exact Heap.lt_size (Heap.get?_push_of_some _ o1)
  · rw [sz] at hP
    exact h v h' tk hP fun b o e => hk b o (fun hm => absurd (Heap.lt_size e) (by rw [List.mem_singleton.mp hm]; exact Nat.lt_irrefl _)) (Heap.get?_push_of_some _ e)
theorem tup_min {t : Addr} {xs : Array (Int × Tok)} {Q : Value → Shared → Prop} (hh : A.handled = none) (ht : s.heap.IsTuple t (intItems xs)) (hne : 0 < xs.size)
    (h : ∀ v h' tk, (intItems xs)[argBest (fun i j => decide (numAt xs i < numAt xs j)) (xs.size - 1)]? = some v → (∀ b o, s.heap.get? b = some o → h'.get? b = some o) → Q v { s with heap := h', toks := tk }) :
    wpAny (model prog w) A (call (.builtin "min") [.ref t]) Q E s := by
  obtain ⟨ob, o1, _, _, _⟩ := id ht
  have sz : (intItems xs).size = xs.size := by simp [intItems]
  refine call_min_walk (wpAny_pyIter_tuple ht ?_)
  refine ⟨_, [_, t], [_], _, _, _, _, rfl, Walks.tuple (A := A.in1) hh s.heap.objs.size t (Nat.ne_of_lt (Heap.lt_size o1)) (intItems xs), ⟨⟨_, Heap.get?_push_size _ rfl, rfl, rfl⟩, ht.push _⟩, fun b hb => ?_, by omega, CmpOf.ints_lt (numAt xs) (fun _ _ => intItems_at), fun v h' tk hP hk => ?_⟩
  · rcases List.mem_cons.mp hb with rfl | hb
    · exact Heap.lt_size (Heap.get?_push_size _ rfl)
    · rw [List.mem_singleton.mp hb]
      exact Heap.lt_size (Heap.get?_push_of_some _ o1)
  · rw [sz] at hP
    exact h v h' tk hP fun b o e => hk b o (fun hm => absurd (Heap.lt_size e) (by rw [List.mem_singleton.mp hm]; exact Nat.lt_irrefl _)) (Heap.get?_push_of_some _ e)
end
section
variable {X : Cx} {W : WX} {e : Expr} {pos p : Pos}
def rMaxT (K : PySem.W.Frag) : List V → Hp → VK → Prop := fun vs H Q => ∃ (a : Addr) (ns : List Int), vs = [V.ref a] ∧ SqT K H a (ns.map V.int) ∧ 0 < ns.length ∧ ∀ m, m ∈ ns → (∀ y, y ∈ ns → y ≤ m) → Q (.int m) H
def rMinT (K : PySem.W.Frag) : List V → Hp → VK → Prop := fun vs H Q => ∃ (a : Addr) (ns : List Int), vs = [V.ref a] ∧ SqT K H a (ns.map V.int) ∧ 0 < ns.length ∧ ∀ m, m ∈ ns → (∀ y, y ∈ ns → m ≤ y) → Q (.int m) H
theorem cr_maxT (hc : X.calm = true) : CallR X (.builtin "max") (rMaxT X.K) := by
  intro pins s σ H vs us Q I r h
  obtain ⟨a, ns, rfl, hs, hne, q⟩ := h
  obtain ⟨its, rv, hl, _⟩ := I.tuple hs
  rw [Vals.ref1 r]
  have hi := rv.ints
  obtain ⟨xs, e⟩ := hi.allInts.items
  have hn : numsOf (intItems xs).toList = ns := by rw [← e]; exact hi.numsOf
  rw [nums_intItems] at hn
  subst hn
  obtain ⟨ob, ho, hcl, n, hd⟩ := hl
  have ht : s.heap.IsTuple a (intItems xs) := by
    rw [← e]
    exact ⟨ob, ho, hcl, n, hd⟩
  have hsz : 0 < xs.size := by simpa using hne
  refine tup_max (I.ok.hd hc) ht hsz fun v h' tk hv hk => ?_
  obtain ⟨t, rfl⟩ := intItems_at hv
  obtain ⟨h1, h2⟩ := argBest_gt (numAt xs) (xs.size - 1)
  refine ⟨.int _, H, I.kept hk, ⟨_, rfl⟩, q _ ?_ fun y hy => ?_⟩
  · rw [numAt_eq]
    exact PySem.getD_mem (by rw [List.length_map, Array.length_toList]; omega)
  · obtain ⟨j, hj, rfl⟩ := mem_getD hy
    rw [List.length_map, Array.length_toList] at hj
    rw [← numAt_eq]
    exact h2 j (by omega)
theorem cr_minT (hc : X.calm = true) : CallR X (.builtin "min") (rMinT X.K) := by
  intro pins s σ H vs us Q I r h
  obtain ⟨a, ns, rfl, hs, hne, q⟩ := h
  obtain ⟨its, rv, hl, _⟩ := I.tuple hs
  rw [Vals.ref1 r]
  have hi := rv.ints
  obtain ⟨xs, e⟩ := hi.allInts.items
  have hn : numsOf (intItems xs).toList = ns := by rw [← e]; exact hi.numsOf
  rw [nums_intItems] at hn
  subst hn
  obtain ⟨ob, ho, hcl, n, hd⟩ := hl
  have ht : s.heap.IsTuple a (intItems xs) := by
    rw [← e]
    exact ⟨ob, ho, hcl, n, hd⟩
  have hsz : 0 < xs.size := by simpa using hne
  refine tup_min (I.ok.hd hc) ht hsz fun v h' tk hv hk => ?_
  obtain ⟨t, rfl⟩ := intItems_at hv
  obtain ⟨h1, h2⟩ := argBest_lt (numAt xs) (xs.size - 1)
  refine ⟨.int _, H, I.kept hk, ⟨_, rfl⟩, q _ ?_ fun y hy => ?_⟩
  · rw [numAt_eq]
    exact PySem.getD_mem (by rw [List.length_map, Array.length_toList]; omega)
  · obtain ⟨j, hj, rfl⟩ := mem_getD hy
    rw [List.length_map, Array.length_toList] at hj
    rw [← numAt_eq]
    exact h2 j (by omega)
theorem max_uniq {ns : List Int} {k m : Int} (hk : maxI ns = some k) (hm : m ∈ ns) (hy : ∀ y ∈ ns, y ≤ m) : m = k := by
  cases ns with
  | nil => cases hk
  | cons n ns =>
    have hk : some (ns.foldl max n) = some k := hk
    cases hk
    obtain ⟨h1, h2, h3⟩ := foldl_max_ge ns n
    refine Int.le_antisymm ?_ ?_
    · rcases List.mem_cons.mp hm with rfl | hm
      · exact h1
      · exact h2 m hm
    · rcases h3 with h3 | h3
      · rw [h3]
        exact hy n (List.mem_cons_self ..)
      · exact hy _ (List.mem_cons_of_mem _ h3)
theorem min_uniq {ns : List Int} {k m : Int} (hk : minI ns = some k) (hm : m ∈ ns) (hy : ∀ y ∈ ns, m ≤ y) : m = k := by
  cases ns with
  | nil => cases hk
  | cons n ns =>
    have hk : some (ns.foldl min n) = some k := hk
    cases hk
    obtain ⟨h1, h2, h3⟩ := foldl_min_le ns n
    refine Int.le_antisymm ?_ ?_
    · rcases h3 with h3 | h3
      · rw [h3]
        exact hy n (List.mem_cons_self ..)
      · exact hy _ (List.mem_cons_of_mem _ h3)
    · rcases List.mem_cons.mp hm with rfl | hm
      · exact h1
      · exact h2 m hm
theorem maxI_pos {ns : List Int} {k : Int} (hk : maxI ns = some k) : 0 < ns.length := by
  cases ns with
  | nil => cases hk
  | cons n ns => simp
theorem minI_pos {ns : List Int} {k : Int} (hk : minI ns = some k) : 0 < ns.length := by
  cases ns with
  | nil => cases hk
  | cons n ns => simp
theorem sv_max (hc : X.calm = true) : CallS X (.builtin "max") gMax := ⟨_, (cr_max hc).or (cr_maxT hc), fun m st H ds v E Q hS r hP => by
  obtain ⟨a, vs, rfl, q, rs⟩ := r
  unfold gMax at hP
  split at hP
  · rename_i k hk
    cases hn : intsD ds with
    | none =>
      rw [hn] at hk
      cases hk
    | some ns =>
      rw [hn] at hk
      have hk : maxI ns = some k := hk
      have e := intsD_V rs hn
      subst e
      have fin : ∀ mm, mm ∈ ns → (∀ y, y ∈ ns → y ≤ mm) → Q (.int mm) H := fun mm hm hy => by
        rw [max_uniq hk hm hy]
        exact hP.now hS (.int _)
      rcases q with q | q
      · exact .inl ⟨a, ns, rfl, q, maxI_pos hk, fin⟩
      · exact .inr ⟨a, ns, rfl, q, maxI_pos hk, fin⟩
  · exact hP.elim⟩
theorem sv_min (hc : X.calm = true) : CallS X (.builtin "min") gMin := ⟨_, (cr_min hc).or (cr_minT hc), fun m st H ds v E Q hS r hP => by
  obtain ⟨a, vs, rfl, q, rs⟩ := r
  unfold gMin at hP
  split at hP
  · rename_i k hk
    cases hn : intsD ds with
    | none =>
      rw [hn] at hk
      cases hk
    | some ns =>
      rw [hn] at hk
      have hk : minI ns = some k := hk
      have e := intsD_V rs hn
      subst e
      have fin : ∀ mm, mm ∈ ns → (∀ y, y ∈ ns → mm ≤ y) → Q (.int mm) H := fun mm hm hy => by
        rw [min_uniq hk hm hy]
        exact hP.now hS (.int _)
      rcases q with q | q
      · exact .inl ⟨a, ns, rfl, q, minI_pos hk, fin⟩
      · exact .inr ⟨a, ns, rfl, q, minI_pos hk, fin⟩
  · exact hP.elim⟩
end
/-! ### tuple(range(..)), list(range(..)) -/
section
variable {X : Cx} {W : WX} {e a b : Expr} {pos p p2 : Pos} {fa fb : EM D}
def okLen (j : Int) : Bool := decide (j.toNat ≤ 16777216) && decide (0 ≤ j)
theorem rng_rds {K : PySem.W.Frag} {m : List Addr} {H : Hp} {i j : Int} : RDs K m H (rng i j) (rgV i j) := by
  have e1 : rng i j = ((List.range (j - i).toNat).map fun k : Nat => i + (k : Int)).map D.int := by
    unfold rng
    rw [List.map_map]
    rfl
  have e2 : rgV i j = ((List.range (j - i).toNat).map fun k : Nat => i + (k : Int)).map V.int := by
    unfold rgV
    rw [List.map_map]
    rfl
  rw [e1, e2]
  exact RDs.ints _
theorem rg_ok {i j : Int} (hi : okLen i = true) (hj : okLen j = true) : RgOk i j := by
  unfold okLen at hi hj
  rw [Bool.and_eq_true, decide_eq_true_eq, decide_eq_true_eq] at hi hj
  exact RgOk.of_le hi.2 (by omega) (by omega) hj.2
def kTup (i j : Int) (st : Store) : ER D := if okLen i && okLen j then .ok (.tup (rng i j)) st else .bad
def kLst (i j : Int) (st : Store) : ER D := if okLen i && okLen j then .ok (.ref st.length) (st ++ [.lst (rng i j)]) else .bad
def eRg1 (k : Int → Int → Store → ER D) (fa : EM D) : EM D := fun τ st => (fa τ st).bind fun d s1 => match d with
  | .int j => k 0 j s1
  | _ => .bad
def eRg2 (k : Int → Int → Store → ER D) (fa fb : EM D) : EM D := fun τ st => (fa τ st).bind fun d s1 => (fb τ s1).bind fun e s2 => match d, e with
  | .int i, .int j => k i j s2
  | _, _ => .bad
theorem kTup_ok {K : PySem.W.Frag} {E : XK} {m : List Addr} {st : Store} {H : Hp} {Q : VK} {i j : Int} (hS : SS K m st H) (hP : Pe K E (RD K) m H (kTup i j st) Q) : RgOk i j ∧ ∀ q, H q = none → Q (.ref q) (upd H q (.tup (rgV i j))) := by
  unfold kTup at hP
  split at hP
  · rename_i hc
    rw [Bool.and_eq_true] at hc
    exact ⟨rg_ok hc.1 hc.2, hP.tup hS rng_rds⟩
  · exact hP.elim
theorem kLst_ok {K : PySem.W.Frag} {E : XK} {m : List Addr} {st : Store} {H : Hp} {Q : VK} {i j : Int} (hS : SS K m st H) (hP : Pe K E (RD K) m H (kLst i j st) Q) : RgOk i j ∧ ∀ q, H q = none → Q (.ref q) (upd H q (.lst (rgV i j))) := by
  unfold kLst at hP
  split at hP
  · rename_i hc
    rw [Bool.and_eq_true] at hc
    exact ⟨rg_ok hc.1 hc.2, hP.lst hS rng_rds⟩
  · exact hP.elim
theorem ex_tupRg1 (hc : X.calm = true) (hg : Gl X "tuple") (hm : X.mg "tuple" = none) (hg2 : Gl X "range") (hm2 : X.mg "range" = none) (ha : Ex X W a fa) (na : starEach [.Call (.Name "range" p2) [a] [] pos] X.env = (false, eval (.Call (.Name "range" p2) [a] [] pos) X.env) :: starEach [] X.env := by rfl) (nb : starEach [a] X.env = (false, eval a X.env) :: starEach [] X.env := by rfl) {pos2 : Pos} :
    Ex X W (.Call (.Name "tuple" p) [.Call (.Name "range" p2) [a] [] pos] [] pos2) (eRg1 kTup fa) := by
  refine ⟨fun m τ st σ H Q hL hS hP pins s I => (pe_tupRg hc hg hm (prg_1 hg2 hm2 peW nb) na).run pins s σ H Q I ?_⟩
  refine ha.run m τ st σ H _ hL hS (hP.bind fun d s1 m1 H1 v e1 hS1 r1 hP1 => ?_)
  split at hP1
  · cases r1
    exact ⟨_, rfl, kTup_ok hS1 hP1⟩
  · exact hP1.elim
theorem ex_lstRg1 (hc : X.calm = true) (hg : Gl X "list") (hm : X.mg "list" = none) (hg2 : Gl X "range") (hm2 : X.mg "range" = none) (ha : Ex X W a fa) (na : starEach [.Call (.Name "range" p2) [a] [] pos] X.env = (false, eval (.Call (.Name "range" p2) [a] [] pos) X.env) :: starEach [] X.env := by rfl) (nb : starEach [a] X.env = (false, eval a X.env) :: starEach [] X.env := by rfl) {pos2 : Pos} :
    Ex X W (.Call (.Name "list" p) [.Call (.Name "range" p2) [a] [] pos] [] pos2) (eRg1 kLst fa) := by
  refine ⟨fun m τ st σ H Q hL hS hP pins s I => (pe_listRg hc hg hm (prg_1 hg2 hm2 peW nb) na).run pins s σ H Q I ?_⟩
  refine ha.run m τ st σ H _ hL hS (hP.bind fun d s1 m1 H1 v e1 hS1 r1 hP1 => ?_)
  split at hP1
  · cases r1
    exact ⟨_, rfl, kLst_ok hS1 hP1⟩
  · exact hP1.elim
end
/-! ### zip of two -/
section
variable {X : Cx} {W : WX} {a b : Expr} {pos p tpos : Pos} {fa fb : EM D}
theorem zipD_at {xs ys : List D} {i : Nat} {d : D} (h : (zipD xs ys)[i]? = some d) : ∃ x y, xs[i]? = some x ∧ ys[i]? = some y ∧ d = .tup [x, y] := by
  unfold zipD at h
  rw [List.getElem?_map] at h
  cases hz : (List.zip xs ys)[i]? with
  | none =>
    rw [hz] at h
    cases h
  | some q =>
    rw [hz] at h
    cases h
    obtain ⟨h1, h2⟩ := List.getElem?_zip_eq_some.mp hz
    exact ⟨_, _, h1, h2, rfl⟩
theorem zipD_len (xs ys : List D) : (zipD xs ys).length = min xs.length ys.length := by
  unfold zipD
  rw [List.length_map, List.length_zip]
theorem j_zipT {K : PySem.W.Frag} {m0 : List Addr} {H0 : Hp} {a b : Addr} {vs us : List V} {xs ys : List D} (hq : SqT K H0 a vs) (rs : RDs K m0 H0 xs vs) (hq2 : SqT K H0 b us) (rs2 : RDs K m0 H0 ys us) : JOk K m0 H0 (.fix (zipD xs ys)) (RZ.ItzT K a b) := fun m H st e s _ => by
  have q1 := e.tup a vs hq
  have q2 := e.tup b us hq2
  have r1 := rs.mono e
  have r2 := rs2.mono e
  refine ⟨fun i d hd => ?_, vs, us, q1, q2, ?_⟩
  · obtain ⟨x, y, hx, hy, rfl⟩ := zipD_at (show (zipD xs ys)[i]? = some d from hd)
    obtain ⟨v, hv, rv⟩ := r1.get hx
    obtain ⟨u, hu, ru⟩ := r2.get hy
    refine ⟨⟨vs, us, v, u, q1, q2, hv, hu⟩, fun z H' hz => ?_⟩
    obtain ⟨T, v', u', rfl, hT, rfl, g1, g2⟩ := hz
    have z1 := g1 vs q1
    have z2 := g2 us q2
    rw [hv] at z1
    rw [hu] at z2
    cases z1
    cases z2
    exact ⟨Ext.fresh hT, s.fresh hT, .tup (SqT.of upd_same) (.cons (rv.mono (Ext.fresh hT)) (.cons (ru.mono (Ext.fresh hT)) .nil))⟩
  · show vs.length ≤ (zipD xs ys).length ∨ us.length ≤ (zipD xs ys).length
    rw [zipD_len, rs.len, rs2.len]
    omega
theorem j_zipL {K : PySem.W.Frag} {m0 : List Addr} {H0 : Hp} {a b : Addr} {n k : Nat} {xs ys : List D} (ha : m0[n]? = some a) (hb : m0[k]? = some b) : JOk K m0 H0 (.two n k xs ys) (Itz K a b) := fun m H st e s hc => by
  have hc : (decide (lstAt st n = some xs) && decide (lstAt st k = some ys)) = true := hc
  rw [Bool.and_eq_true, decide_eq_true_eq, decide_eq_true_eq] at hc
  obtain ⟨vs, h1, r1⟩ := s.list hc.1 (e.pre n a ha)
  obtain ⟨us, h2, r2⟩ := s.list hc.2 (e.pre k b hb)
  have q1 : SqL K H a vs := SqL.of h1
  have q2 : SqL K H b us := SqL.of h2
  refine ⟨fun i d hd => ?_, vs, us, q1, q2, ?_⟩
  · obtain ⟨x, y, hx, hy, rfl⟩ := zipD_at (show (zipD xs ys)[i]? = some d from hd)
    obtain ⟨v, hv, rv⟩ := r1.get hx
    obtain ⟨u, hu, ru⟩ := r2.get hy
    refine ⟨⟨vs, us, v, u, q1, q2, hv, hu⟩, fun z H' hz => ?_⟩
    obtain ⟨T, v', u', rfl, hT, rfl, g1, g2⟩ := hz
    have z1 := g1 vs q1
    have z2 := g2 us q2
    rw [hv] at z1
    rw [hu] at z2
    cases z1
    cases z2
    exact ⟨Ext.fresh hT, s.fresh hT, .tup (SqT.of upd_same) (.cons (rv.mono (Ext.fresh hT)) (.cons (ru.mono (Ext.fresh hT)) .nil))⟩
  · show vs.length ≤ (zipD xs ys).length ∨ us.length ≤ (zipD xs ys).length
    rw [zipD_len, r1.len, r2.len]
    omega
def zip2 (d e : D) (st : Store) : ER Sq := match d, e with
  | .tup xs, .tup ys => .ok (.fix (zipD xs ys)) st
  | .ref n, .ref k => match lstAt st n, lstAt st k with
    | some xs, some ys => .ok (.two n k xs ys) st
    | _, _ => .bad
  | _, _ => .bad
def iZip (fa fb : EM D) : EM Sq := fun τ st => (fa τ st).bind fun d s1 => (fb τ s1).bind fun e s2 => zip2 d e s2
theorem ei_zip {elts : List Expr} {kk : Nat} (hg : Gl X "zip") (hm : X.mg "zip" = none) (ha : Ex X W a fa) (hb : Ex X W b fb)
    (hs : starEach [a, b] X.env = (false, eval a X.env) :: starEach [b] X.env := by rfl) (hs2 : starEach [b] X.env = (false, eval b X.env) :: starEach [] X.env := by rfl) (hpl : (backTo pos (starEach [b] X.env)).any (·.1) = false := by rfl) :
    Ei X W (.Tuple elts kk tpos) (.Call (.Name "zip" p) [a, b] [] pos) (iZip fa fb) := by
  refine ⟨fun m τ st σ H R hL hS hP pins s I => (RZ.pi_zipA (elts := elts) (kk := kk) (tpos := tpos) hg hm (pa_cons peW (pa_cons peW pa_nil hs2) hs) hs hpl).run pins s σ H R I ?_⟩
  refine two ha hb hL hS hP fun m2 st2 H2 dx dy x y e2 hS2 r1 r2 hP2 => ?_
  unfold zip2 at hP2
  split at hP2
  · cases r1 with
    | tup q rs =>
      cases r2 with
      | tup q2 rs2 => exact ⟨_, _, _, _, rfl, .inr ⟨q, q2, hP2.now hS2 (j_zipT q rs q2 rs2)⟩⟩
  · split at hP2
    · rename_i xs ys hx hy
      cases r1 with
      | ref q =>
        cases r2 with
        | ref q2 =>
          obtain ⟨vs, h1, _⟩ := hS2.list hx q
          obtain ⟨us, h2, _⟩ := hS2.list hy q2
          exact ⟨_, _, vs, us, rfl, .inl ⟨SqL.of h1, SqL.of h2, hP2.now hS2 (j_zipL q q2)⟩⟩
    · exact hP2.elim
  · exact hP2.elim
end
end HM

/-! HM, part S: how mirrors are computed (simp). -/
namespace HM
open PySem PySem.Spec PyProof.Rows L2
section
variable {α β : Type} {τ : Sl} {st : Store} {f g h fa fb fc fe fo fi : EM D} {fs : EM (List D)} {ga gb : EM Bool} {i n : Nat} {d : D} {u v : SM}
@[simp] theorem eVar_e (hh : τ[i]? = some (some d)) : eVar i τ st = .ok d st := by unfold eVar; rw [hh]
@[simp] theorem eC_e : eC d τ st = .ok d st := rfl
@[simp] theorem eBin_e {o : O2} : eBin o fa fb τ st = (fa τ st).bind fun x s1 => (fb τ s1).bind fun y s2 => o x y s2 := rfl
@[simp] theorem eUn_e {o : O1} : eUn o fa τ st = (fa τ st).bind o := rfl
@[simp] theorem tBl_e : tBl fa τ st = (fa τ st).bind dBl := rfl
@[simp] theorem dBl_e {b : Bool} : dBl (.bl b) st = .ok b st := rfl
def oTru (d : D) (st : Store) : ER Bool := match dTru st d with
  | some b => .ok b st
  | none => .bad
@[simp] theorem tVal_e : tVal fa τ st = (fa τ st).bind oTru := rfl
@[simp] theorem oTru_bl {b : Bool} : oTru (.bl b) st = .ok b st := rfl
@[simp] theorem oTru_int {k : Int} : oTru (.int k) st = .ok (k != 0) st := rfl
@[simp] theorem oTru_non : oTru .non st = .ok false st := rfl
@[simp] theorem oTru_tup {xs : List D} : oTru (.tup xs) st = .ok (!xs.isEmpty) st := rfl
@[simp] theorem tAnd_e : HM.tAnd ga gb τ st = (ga τ st).bind fun x s1 => if x then gb τ s1 else .ok false s1 := rfl
@[simp] theorem tOr_e : HM.tOr ga gb τ st = (ga τ st).bind fun x s1 => if x then .ok true s1 else gb τ s1 := rfl
@[simp] theorem tNot_e : HM.tNot ga τ st = (ga τ st).bind fun x s1 => .ok (!x) s1 := rfl
@[simp] theorem tYes_e : HM.tYes τ st = .ok true st := rfl
def oAndV (k : Store → ER D) (d : D) (st : Store) : ER D := match dTru st d with
  | some true => k st
  | some false => .ok d st
  | none => .bad
def oOrV (k : Store → ER D) (d : D) (st : Store) : ER D := match dTru st d with
  | some true => .ok d st
  | some false => k st
  | none => .bad
def oNotV (d : D) (st : Store) : ER D := match dTru st d with
  | some b => .ok (.bl !b) st
  | none => .bad
@[simp] theorem eAnd_e : eAnd fa fb τ st = (fa τ st).bind (oAndV (fb τ)) := rfl
@[simp] theorem eOr_e : eOr fa fb τ st = (fa τ st).bind (oOrV (fb τ)) := rfl
@[simp] theorem eNot_e : eNot fa τ st = (fa τ st).bind oNotV := rfl
@[simp] theorem oAndV_bl {k : Store → ER D} {b : Bool} : oAndV k (.bl b) st = if b then k st else .ok (.bl false) st := by cases b <;> rfl
@[simp] theorem oOrV_bl {k : Store → ER D} {b : Bool} : oOrV k (.bl b) st = if b then .ok (.bl true) st else k st := by cases b <;> rfl
@[simp] theorem oNotV_bl {b : Bool} : oNotV (.bl b) st = .ok (.bl !b) st := rfl
@[simp] theorem eIf_e : eIf ga fa fb τ st = (ga τ st).bind fun x s1 => if x then fa τ s1 else fb τ s1 := rfl
@[simp] theorem aNil_e : aNil τ st = .ok [] st := rfl
@[simp] theorem aCons_e : aCons f fs τ st = (f τ st).bind fun x s1 => (fs τ s1).bind fun xs s2 => .ok (x :: xs) s2 := rfl
@[simp] theorem eTup_e : eTup fs τ st = (fs τ st).bind fun xs s1 => if xs.length ≤ 16777216 then .ok (.tup xs) s1 else .bad := rfl
@[simp] theorem eLst_e : eLst fs τ st = (fs τ st).bind fun xs s1 => if xs.length ≤ 16777216 then .ok (.ref s1.length) (s1 ++ [.lst xs]) else .bad := rfl
@[simp] theorem eCall_e {mf : FM} : eCall n mf fs τ st = (fs τ st).bind fun ds s1 => if ds.length = n then mf ds s1 else .bad := rfl
@[simp] theorem eCB_e {mf : FM} : eCB mf fs τ st = (fs τ st).bind mf := rfl
@[simp] theorem eCS_e {g : SM1} : eCS g fs τ st = (fs τ st).bind g := rfl
@[simp] theorem eEl_e : eEl fs τ st = (fs τ st).bind fun ds s1 => .ok (.ref s1.length) (s1 ++ [.lst ds]) := rfl
def oSeq (d : D) (st : Store) : ER (List D) := match dSeq st d with
  | some xs => .ok xs st
  | none => .bad
@[simp] theorem sEx_e : sEx f τ st = (f τ st).bind oSeq := rfl
@[simp] theorem oSeq_tup {xs : List D} : oSeq (.tup xs) st = .ok xs st := rfl
@[simp] theorem oSeq_rol {xs : List D} : oSeq (.rol xs) st = .ok xs st := rfl
@[simp] theorem eChain_e {o o' : O2} : eChain o o' fa fb fc τ st = (fa τ st).bind fun x s1 => (fb τ s1).bind fun y s2 => (o x y s2).bind fun z s3 => match z with
  | .bl true => (fc τ s3).bind fun w s4 => o' y w s4
  | .bl false => .ok (.bl false) s3
  | _ => .bad := rfl
/-! values -/
@[simp] theorem oAdd_int {i j : Int} : oAdd (.int i) (.int j) st = .ok (.int (i + j)) st := rfl
@[simp] theorem oIAdd_int {i j : Int} : oIAdd (.int i) (.int j) st = .ok (.int (i + j)) st := rfl
@[simp] theorem oAdd_str {a b : List Nat} : oAdd (.str a) (.str b) st = if a.length + b.length ≤ 16777216 then .ok (.str (a ++ b)) st else .bad := rfl
@[simp] theorem oAdd_tup {a b : List D} : oAdd (.tup a) (.tup b) st = if a.length + b.length ≤ 16777216 then .ok (.tup (a ++ b)) st else .bad := rfl
@[simp] theorem oInt_e {i j : Int} {k : Int → Int → Int} : oInt k (.int i) (.int j) st = .ok (.int (k i j)) st := rfl
@[simp] theorem oIntC_e {i j : Int} {C : Int → Int → Bool} {k : Int → Int → Int} (hc : C i j = true) : oIntC C k (.int i) (.int j) st = .ok (.int (k i j)) st := by
  show (if C i j = true then _ else _) = _
  rw [if_pos hc]
@[simp] theorem oCmp_e {i j : Int} {k : Int → Int → Bool} : oCmp k (.int i) (.int j) st = .ok (.bl (k i j)) st := rfl
@[simp] theorem oNeg_e {i : Int} : oNeg (.int i) st = .ok (.int (-i)) st := rfl
@[simp] theorem oEq_int {i j : Int} : oEq (.int i) (.int j) st = .ok (.bl (decide (i = j))) st := rfl
@[simp] theorem oNe_int {i j : Int} : oNe (.int i) (.int j) st = .ok (.bl !(decide (i = j))) st := rfl
@[simp] theorem oEq_str {a b : List Nat} : oEq (.str a) (.str b) st = .ok (.bl (decide (a = b))) st := rfl
@[simp] theorem oNe_str {a b : List Nat} : oNe (.str a) (.str b) st = .ok (.bl !(decide (a = b))) st := rfl
@[simp] theorem oEq_bl {a b : Bool} : oEq (.bl a) (.bl b) st = .ok (.bl (decide (a = b))) st := rfl
@[simp] theorem oNe_bl {a b : Bool} : oNe (.bl a) (.bl b) st = .ok (.bl !(decide (a = b))) st := rfl
@[simp] theorem oEq_tup {a b : List D} (ha : (D.tup a).plain 60 = true) (hb : (D.tup b).plain 60 = true) : oEq (.tup a) (.tup b) st = .ok (.bl (decide (a = b))) st := by
  simp [oEq, dEq, D.pd, ha, hb]
@[simp] theorem oNe_tup {a b : List D} (ha : (D.tup a).plain 60 = true) (hb : (D.tup b).plain 60 = true) : oNe (.tup a) (.tup b) st = .ok (.bl !(decide (a = b))) st := by
  simp [oNe, dEq, D.pd, ha, hb]
@[simp] theorem plain_tup {n : Nat} {xs : List D} : (D.tup xs).plain (n + 1) = xs.all (D.plain n) := rfl
@[simp] theorem plain_int {n : Nat} {k : Int} : (D.int k).plain n = true := by cases n <;> rfl
@[simp] theorem plain_non {n : Nat} : D.non.plain n = true := by cases n <;> rfl
@[simp] theorem plain_str {n : Nat} {x : List Nat} : (D.str x).plain n = x.all fun c => decide (c < 1114112) := by cases n <;> rfl
@[simp] theorem oIs_bl {a b : Bool} : oIs (.bl a) (.bl b) st = .ok (.bl (decide (a = b))) st := rfl
@[simp] theorem oIsNot_bl {a b : Bool} : oIsNot (.bl a) (.bl b) st = .ok (.bl !(decide (a = b))) st := rfl
@[simp] theorem oIs_non : oIs .non .non st = .ok (.bl true) st := rfl
@[simp] theorem oIs_int {i : Int} : oIs (.int i) .non st = .ok (.bl false) st := rfl
@[simp] theorem oIs_tup {xs : List D} : oIs (.tup xs) .non st = .ok (.bl false) st := rfl
@[simp] theorem oIsNot_non : oIsNot .non .non st = .ok (.bl false) st := rfl
@[simp] theorem oIsNot_int {i : Int} : oIsNot (.int i) .non st = .ok (.bl true) st := rfl
@[simp] theorem oIsNot_tup {xs : List D} : oIsNot (.tup xs) .non st = .ok (.bl true) st := rfl
def ofO (st : Store) : Option D → ER D
  | some d => .ok d st
  | none => .bad
@[simp] theorem ofO_some : ofO st (some d) = .ok d st := rfl
@[simp] theorem oIx_tup {xs : List D} {k : Int} : oIx (.tup xs) (.int k) st = ofO st (atI xs k) := by
  unfold oIx ofO
  simp only <;> (split <;> simp_all)
theorem oIx_ref {xs : List D} {m : Nat} {k : Int} (hh : lstAt st m = some xs) : oIx (.ref m) (.int k) st = ofO st (atI xs k) := by
  unfold oIx ofO
  simp only [hh] <;> (split <;> simp_all)
@[simp] theorem atI_0 {α : Type} {x : α} {xs : List α} : atI (x :: xs) 0 = some x := by simp [atI, ixN]
@[simp] theorem atI_1 {α : Type} {x y : α} {xs : List α} : atI (x :: y :: xs) 1 = some y := atI_nat (j := 1) rfl
@[simp] theorem atI_2 {α : Type} {x y z : α} {xs : List α} : atI (x :: y :: z :: xs) 2 = some z := atI_nat (j := 2) rfl
@[simp] theorem atI_3 {α : Type} {x y z w : α} {xs : List α} : atI (x :: y :: z :: w :: xs) 3 = some w := atI_nat (j := 3) rfl
/-! built-ins -/
@[simp] theorem fInt_int {i : Int} : fInt [.int i] st = .ok (.int i) st := rfl
@[simp] theorem fInt_bl {b : Bool} : fInt [.bl b] st = .ok (.int (if b then 1 else 0)) st := rfl
@[simp] theorem fAbs_e {i : Int} : fAbs [.int i] st = .ok (.int (i.natAbs : Nat)) st := rfl
@[simp] theorem fGcd_e {i j : Int} : fGcd [.int i, .int j] st = .ok (.int (Nat.gcd i.natAbs j.natAbs : Nat)) st := rfl
@[simp] theorem fLen_tup {xs : List D} : fLen [.tup xs] st = .ok (.int xs.length) st := rfl
@[simp] theorem fLen_rol {xs : List D} : fLen [.rol xs] st = .ok (.int xs.length) st := rfl
theorem fLen_ref {xs : List D} {m : Nat} (hh : lstAt st m = some xs) : fLen [.ref m] st = .ok (.int xs.length) st := by simp [fLen, dSeq, hh]
@[simp] theorem fTuple_tup {xs : List D} : fTuple [.tup xs] st = .ok (.tup xs) st := rfl
theorem fTuple_ref {xs : List D} {m : Nat} (hh : lstAt st m = some xs) : fTuple [.ref m] st = .ok (.tup xs) st := by simp [fTuple, dSeq, hh]
@[simp] theorem gTuple_e {xs : List D} : gTuple xs st = .ok (.tup xs) st := rfl
@[simp] theorem gLen_e {xs : List D} : gLen xs st = .ok (.int xs.length) st := rfl
@[simp] theorem fMin2_e {i j : Int} : fMin2 [.int i, .int j] st = .ok (.int (if j < i then j else i)) st := rfl
@[simp] theorem fMax2_e {i j : Int} : fMax2 [.int i, .int j] st = .ok (.int (if j > i then j else i)) st := rfl
theorem fIsi_e {t c : String} {b : Bool} (h1 : dTy st d = some t) (h2 : isiT t c = some b) : fIsi [d, .ty c] st = .ok (.bl b) st := by simp [fIsi, h1, h2]
theorem isi1 : isiT "int" "int" = some true := by decide +kernel
theorem isi2 : isiT "int" "bool" = some false := by decide +kernel
theorem isi3 : isiT "bool" "int" = some true := by decide +kernel
theorem isi4 : isiT "bool" "bool" = some true := by decide +kernel
theorem isi5 : isiT "tuple" "tuple" = some true := by decide +kernel
theorem isi6 : isiT "tuple" "int" = some false := by decide +kernel
theorem isi7 : isiT "str" "str" = some true := by decide +kernel
theorem isi8 : isiT "str" "int" = some false := by decide +kernel
theorem isi9 : isiT "NoneType" "int" = some false := by decide +kernel
@[simp] theorem fIsi_ii {i : Int} : fIsi [.int i, .ty "int"] st = .ok (.bl true) st := fIsi_e rfl isi1
@[simp] theorem fIsi_ib {i : Int} : fIsi [.int i, .ty "bool"] st = .ok (.bl false) st := fIsi_e rfl isi2
@[simp] theorem fIsi_bi {i : Bool} : fIsi [.bl i, .ty "int"] st = .ok (.bl true) st := fIsi_e rfl isi3
@[simp] theorem fIsi_bb {i : Bool} : fIsi [.bl i, .ty "bool"] st = .ok (.bl true) st := fIsi_e rfl isi4
@[simp] theorem fIsi_tt {xs : List D} : fIsi [.tup xs, .ty "tuple"] st = .ok (.bl true) st := fIsi_e rfl isi5
@[simp] theorem fIsi_ti {xs : List D} : fIsi [.tup xs, .ty "int"] st = .ok (.bl false) st := fIsi_e rfl isi6
@[simp] theorem fIsi_ss {x : List Nat} : fIsi [.str x, .ty "str"] st = .ok (.bl true) st := fIsi_e rfl isi7
@[simp] theorem fIsi_si {x : List Nat} : fIsi [.str x, .ty "int"] st = .ok (.bl false) st := fIsi_e rfl isi8
@[simp] theorem fIsi_ni : fIsi [.non, .ty "int"] st = .ok (.bl false) st := fIsi_e rfl isi9
/-! statements -/
def SR.seq (r : SR) (k : SM) : SR := match r with
  | .nx τ s => k τ s
  | r => r
@[simp] theorem seq_nx {k : SM} : (SR.nx τ st).seq k = k τ st := rfl
@[simp] theorem seq_rt {k : SM} : (SR.rt d st).seq k = .rt d st := rfl
@[simp] theorem seq_bad {k : SM} : SR.bad.seq k = .bad := rfl
@[simp] theorem seq_exc {x : Xc} {k : SM} : (SR.exc x τ st).seq k = .exc x τ st := rfl
@[simp] theorem seq_bk {k : SM} : (SR.bk τ st).seq k = .bk τ st := rfl
@[simp] theorem seq_ct {k : SM} : (SR.ct τ st).seq k = .ct τ st := rfl
@[simp] theorem sSeq_e : sSeq u v τ st = (u τ st).seq v := by
  unfold sSeq SR.seq
  rfl
@[simp] theorem sNil_e : sNil τ st = .nx τ st := rfl
@[simp] theorem sIf_e : sIf ga u v τ st = bindE (ga τ st) τ fun b s1 => if b then u τ s1 else v τ s1 := rfl
@[simp] theorem sSet_e : sSet i fe τ st = bindE (fe τ st) τ fun d s1 => .nx (τ.set i (some d)) s1 := rfl
@[simp] theorem sRet_e : sRet fe τ st = bindE (fe τ st) τ fun d s1 => .rt d s1 := rfl
@[simp] theorem sRetN_e : sRetN τ st = .rt .non st := rfl
@[simp] theorem sExpr_e : sExpr fe τ st = bindE (fe τ st) τ fun _ s1 => .nx τ s1 := rfl
@[simp] theorem sRaise_e {x : Xc} : sRaise x τ st = .exc x τ st := rfl
@[simp] theorem sBrk_e : sBrk τ st = .bk τ st := rfl
@[simp] theorem sCnt_e : sCnt τ st = .ct τ st := rfl
@[simp] theorem bindE_bind {r : ER α} {k : α → Store → ER β} {k' : β → Store → SR} : bindE (r.bind k) τ k' = bindE r τ fun a s => bindE (k a s) τ k' := by cases r <;> rfl
@[simp] theorem bind_bind {γ : Type} {r : ER α} {k : α → Store → ER β} {k' : β → Store → ER γ} : (r.bind k).bind k' = r.bind fun a s => (k a s).bind k' := by cases r <;> rfl
@[simp] theorem bind_ite {c : Prop} [Decidable c] {r r' : ER α} {k : α → Store → ER β} : (if c then r else r').bind k = if c then r.bind k else r'.bind k := by split <;> rfl
@[simp] theorem bindE_ite {c : Prop} [Decidable c] {r r' : ER α} {k : α → Store → SR} : bindE (if c then r else r') τ k = if c then bindE r τ k else bindE r' τ k := by split <;> rfl
def SR.fin : SR → ER D
  | .nx _ s => .ok .non s
  | .rt d s => .ok d s
  | .exc x _ s => .exc x s
  | _ => .bad
@[simp] theorem fin_nx : (SR.nx τ st).fin = .ok .non st := rfl
@[simp] theorem fin_rt : (SR.rt d st).fin = .ok d st := rfl
@[simp] theorem fin_exc {x : Xc} : (SR.exc x τ st).fin = .exc x st := rfl
@[simp] theorem fin_bad : SR.bad.fin = .bad := rfl
theorem runB_e {ds : List D} : runB n u ds st = (u (ent n ds) st).fin := rfl
@[simp] theorem fin_ite {c : Prop} [Decidable c] {r r' : SR} : (if c then r else r').fin = if c then r.fin else r'.fin := by split <;> rfl
@[simp] theorem seq_ite {c : Prop} [Decidable c] {r r' : SR} {k : SM} : (if c then r else r').seq k = if c then r.seq k else r'.seq k := by split <;> rfl
@[simp] theorem ent_0 : ent n [] = List.replicate n none := by simp [ent]
@[simp] theorem ent_cons {x : D} {xs : List D} : ent (n + 1) (x :: xs) = some x :: ent n xs := by
  simp [ent]
end
end HM

/-! HM, part T: lists written to, loops, the draws' store. -/
namespace HM
open PySem PySem.Spec PyProof.Rows L2
section
variable {α β : Type} {τ : Sl} {st : Store} {f g h fa fb fc fe fo fi : EM D} {fs : EM (List D)} {ga gb : EM Bool} {i n m : Nat} {d v : D} {xs ys : List D} {u w : SM}
theorem lstAt_set (hh : lstAt st n = some xs) : lstAt (st.set n (.lst ys)) n = some ys := by
  have : n < st.length := by
    unfold lstAt at hh
    split at hh
    · rename_i e
      exact (List.getElem?_eq_some_iff.mp e).1
    · cases hh
  simp [lstAt, this]
theorem lstAt_ne {c : Cell} (hh : m ≠ n) : lstAt (st.set n c) m = lstAt st m := by
  unfold lstAt
  rw [List.getElem?_set_ne (Ne.symm hh)]
theorem oSet_ref {k : Int} {j : Nat} (hh : lstAt st m = some xs) (hj : ixN xs.length k = some j) : oSet (.ref m) (.int k) v st = some (st.set m (.lst (xs.set j v))) := by
  simp [oSet, hh, hj]
theorem oGetL_ref {k : Int} (hh : lstAt st m = some xs) : oGetL (.ref m) (.int k) st = ofO st (atI xs k) := by
  unfold oGetL ofO
  simp only [hh] <;> (split <;> simp_all)
def ofS (τ : Sl) : Option Store → SR
  | some s => .nx τ s
  | none => .bad
@[simp] theorem ofS_some : ofS τ (some st) = .nx τ st := rfl
@[simp] theorem sSub_e : sSub fo fi fe τ st = bindE (fe τ st) τ fun v s1 => bindE (fo τ s1) τ fun o s2 => bindE (fi τ s2) τ fun i s3 => ofS τ (oSet o i v s3) := by
  unfold sSub ofS
  rfl
@[simp] theorem sAugS_e {o : O2} : sAugS o fo fi fe τ st = bindE (fo τ st) τ fun x s1 => bindE (fi τ s1) τ fun i s2 => bindE (oGetL x i s2) τ fun y s3 => bindE (fe τ s3) τ fun z s4 => bindE (o y z s4) τ fun v s5 => ofS τ (oSet x i v s5) := by
  unfold sAugS ofS
  rfl
theorem sAug_e {o : O2} (hh : τ[i]? = some (some d)) : sAug i o fe τ st = bindE (fe τ st) τ fun y s1 => bindE (o d y s1) τ fun z s2 => .nx (τ.set i (some z)) s2 := by
  unfold sAug
  rw [hh]
def ofA (set : D → Sl → Option Sl) (τ : Sl) (d : D) (st : Store) : SR := match set d τ with
  | some τ1 => .nx τ1 st
  | none => .bad
@[simp] theorem sAsg_e {set : D → Sl → Option Sl} : sAsg set fe τ st = bindE (fe τ st) τ (ofA set τ) := rfl
@[simp] theorem okMul_l {i j : Int} (hh : i.natAbs < 18446744073709551616) : okMul i j = true := decide_eq_true (.inl (.inl hh))
@[simp] theorem okMul_r {i j : Int} (hh : j.natAbs < 18446744073709551616) : okMul i j = true := decide_eq_true (.inl (.inr hh))
theorem okMod_of {i j : Int} (hh : j ≠ 0) : okMod i j = true := decide_eq_true hh
theorem okDiv_of {i j : Int} (hh : j ≠ 0) (h2 : j.natAbs.log2 < 9000) : okDiv i j = true := decide_eq_true ⟨hh, h2⟩
theorem log2_le {x k : Nat} (h : x < 2 ^ k) : x.log2 ≤ k := by
  by_cases z : x = 0
  · subst z
    exact Nat.zero_le _
  · exact Nat.le_of_lt ((Nat.log2_lt z).mpr h)
/-! for loops -/
theorem sFor_e {fi : EM Sq} {set : D → Sl → Option Sl} : sFor fi set u τ st = bindE (fi τ st) τ fun q s1 => forL q set u q.items τ s1 := rfl
def ofQ (st : Store) : Option Sq → ER Sq
  | some q => .ok q st
  | none => .bad
@[simp] theorem ofQ_some {q : Sq} : ofQ st (some q) = .ok q st := rfl
@[simp] theorem iEx_e : iEx f τ st = (f τ st).bind fun d s1 => ofQ s1 (dSq s1 d) := by
  unfold iEx ofQ
  rfl
@[simp] theorem dSq_tup : dSq st (.tup xs) = some (.fix xs) := rfl
@[simp] theorem dSq_rol : dSq st (.rol xs) = some (.fix xs) := rfl
theorem dSq_ref (hh : lstAt st n = some xs) : dSq st (.ref n) = some (.cell n xs) := by simp [dSq, hh]
@[simp] theorem items_fix : (Sq.fix xs).items = xs := rfl
@[simp] theorem items_cell : (Sq.cell n xs).items = xs := rfl
@[simp] theorem iEl_e : iEl fs τ st = (fs τ st).bind fun xs s1 => .ok (.fix xs) s1 := rfl
def rg1 (d : D) (st : Store) : ER Sq := match d with
  | .int j => if okRng j then .ok (.fix (rng 0 j)) st else .bad
  | _ => .bad
def rg2 (d e : D) (st : Store) : ER Sq := match d, e with
  | .int i, .int j => if okRng i && okRng j then .ok (.fix (rng i j)) st else .bad
  | _, _ => .bad
@[simp] theorem iRg1_e : iRg1 f τ st = (f τ st).bind rg1 := rfl
@[simp] theorem iRg2_e : iRg2 fa fb τ st = (fa τ st).bind fun d s1 => (fb τ s1).bind fun e s2 => rg2 d e s2 := rfl
theorem okRng_of {j : Int} (hh : j.natAbs < 4611686018427387904) : okRng j = true := decide_eq_true hh
theorem rg1_int {j : Int} (hh : j.natAbs < 4611686018427387904) : rg1 (.int j) st = .ok (.fix (rng 0 j)) st := by simp [rg1, okRng_of hh]
theorem rg2_int {i j : Int} (hi : i.natAbs < 4611686018427387904) (hh : j.natAbs < 4611686018427387904) : rg2 (.int i) (.int j) st = .ok (.fix (rng i j)) st := by simp [rg2, okRng_of hh, okRng_of hi]
/-- a loop, by an invariant -/
theorem for_inv {set : D → Sl → Option Sl} {q : Sq} (P : Nat → Sl → Store → Prop) (hc : ∀ k τ st, P k τ st → q.chk st = true) :
    ∀ (xs : List D) (k : Nat) (τ : Sl) (st : Store), P k τ st →
    (∀ i d τ st, xs[i]? = some d → P (k + i) τ st → ∃ τ1, set d τ = some τ1 ∧ ∃ τ2 s2, (u τ1 st = .nx τ2 s2 ∨ u τ1 st = .ct τ2 s2) ∧ P (k + i + 1) τ2 s2) →
    ∃ τ' st', forL q set u xs τ st = .nx τ' st' ∧ P (k + xs.length) τ' st'
  | [], k, τ, st, h0, _ => ⟨τ, st, by
      unfold forL
      rw [if_pos (hc _ _ _ h0)], h0⟩
  | d :: ds, k, τ, st, h0, hs => by
    obtain ⟨τ1, e1, τ2, s2, e2, h2⟩ := hs 0 d τ st rfl h0
    obtain ⟨τ', st', e3, h3⟩ := for_inv (q := q) P hc ds (k + 1) τ2 s2 h2 fun i d τ st hi hp => by
      have := hs (i + 1) d τ st hi (by rwa [show k + (i + 1) = k + 1 + i by omega])
      rwa [show k + (i + 1) + 1 = k + 1 + i + 1 by omega] at this
    refine ⟨τ', st', ?_, ?_⟩
    · unfold forL
      rw [if_pos (hc _ _ _ h0), e1]
      rcases e2 with e2 | e2 <;> simp only [e2, e3]
    · rw [List.length_cons]
      rwa [show k + (ds.length + 1) = k + 1 + ds.length by omega]
/-! comprehensions -/
def lc1 (own : List Nat) (set : D → Sl → Option Sl) (ft : EM Bool) (fe : EM D) (τ : Sl) (q : Sq) (st : Store) : ER (List D) := if q.items.length ≤ 16777216 then compL q set ft fe (wipeD τ own) q.items [] st else .bad
theorem lComp_e {own : List Nat} {fi : EM Sq} {set : D → Sl → Option Sl} {ft : EM Bool} : lComp own fi set ft fe τ st = (fi τ st).bind (lc1 own set ft fe τ) := rfl
/-- a comprehension without tests -/
theorem comp_inv {set : D → Sl → Option Sl} {q : Sq} (P : List D → Store → Prop) (hc : ∀ acc st, P acc st → q.chk st = true) :
    ∀ (xs acc : List D) (st : Store), P acc st →
    (∀ i d acc' st, xs[i]? = some d → acc'.length = acc.length + i → P acc' st → ∃ τ1, set d τ = some τ1 ∧ ∃ x s2, fe τ1 st = .ok x s2 ∧ P (acc' ++ [x]) s2) →
    ∃ ys st', compL q set tYes fe τ xs acc st = .ok ys st' ∧ P ys st' ∧ ys.length = acc.length + xs.length
  | [], acc, st, h0, _ => ⟨acc, st, by
      unfold compL
      rw [if_pos (hc _ _ h0)], h0, rfl⟩
  | d :: ds, acc, st, h0, hs => by
    obtain ⟨τ1, e1, x, s2, e2, h2⟩ := hs 0 d acc st rfl rfl h0
    obtain ⟨ys, st', e3, h3, h4⟩ := comp_inv (q := q) P hc ds (acc ++ [x]) s2 h2 fun i d acc' st hi ha hp => hs (i + 1) d acc' st hi (by simp at ha; omega) hp
    refine ⟨ys, st', ?_, h3, by simp at h4; simp; omega⟩
    unfold compL
    rw [if_pos (hc _ _ h0), e1]
    simp only [tYes, ER.bindN_ok, if_true, e2]
    exact e3
end
/-! the draws' store: cell 0 holds the script's numbers, cell 1 the place -/
structure DS (ns : List Int) (st : Store) : Prop where
  c0 : lstAt st 0 = some (ns.map D.int)
  c1 : ∃ p h q : Int, 0 ≤ p ∧ lstAt st 1 = some [.ref 0, .int p, .int h, .int q]
/-- what a draw may change -/
structure Fr (a b : Store) : Prop where
  len : a.length ≤ b.length
  at' : ∀ n, n ≠ 1 → n < a.length → b[n]? = a[n]?
theorem Fr.refl {a : Store} : Fr a a := ⟨Nat.le_refl _, fun _ _ _ => rfl⟩
theorem Fr.trans {a b c : Store} (x : Fr a b) (y : Fr b c) : Fr a c := ⟨Nat.le_trans x.len y.len, fun n h1 h2 => (y.at' n h1 (Nat.lt_of_lt_of_le h2 x.len)).trans (x.at' n h1 h2)⟩
theorem Fr.lst {a b : Store} {n : Nat} {xs : List D} (x : Fr a b) (h : lstAt a n = some xs) (hn : n ≠ 1) : lstAt b n = some xs := by
  have := x.at' n hn (lstAt_lt h)
  unfold lstAt at h ⊢
  rwa [this]
theorem Fr.app {a : Store} {c : Cell} : Fr a (a ++ [c]) := ⟨by simp, fun n _ h => by rw [List.getElem?_append_left h]⟩
theorem DS.app {ns : List Int} {st : Store} {c : Cell} (h : DS ns st) : DS ns (st ++ [c]) := by
  obtain ⟨c0, p, hh, q, hp, c1⟩ := h
  exact ⟨by rw [lstAt_left (lstAt_lt c0)]; exact c0, p, hh, q, hp, by rw [lstAt_left (lstAt_lt c1)]; exact c1⟩
end HM

/-! HM, part U: how the mirrors of parts 10 to 12 are computed. -/
namespace HM
open PySem PySem.Spec PyProof.Rows L2
section
variable {τ : Sl} {st : Store} {f g fo fi : EM D} {fs : EM (List D)} {fl fh : EM (Option Int)} {i n m : Nat} {d v x : D} {xs ys : List D}
@[simp] theorem eM_e {T : String} {g : MM} : eM T g fo fs τ st = (fo τ st).bind fun d s1 => if okT T s1 d then (fs τ s1).bind fun ds s2 => g d ds s2 else .bad := rfl
theorem okT_ref (hh : lstAt st n = some xs) : okT "list" st (.ref n) = true := by simp [okT, hh]
@[simp] theorem okT_str {z : List Nat} : okT "str" st (.str z) = true := rfl
theorem mAppend_ref (hh : lstAt st n = some xs) (hl : xs.length < 16777216) : mAppend (.ref n) [x] st = .ok .non (st.set n (.lst (xs ++ [x]))) := by simp [mAppend, hh, hl]
theorem mInsert_ref {k : Nat} (hh : lstAt st n = some xs) (hl : xs.length < 16777216) (hk : k < 9223372036854775808) : mInsert (.ref n) [.int k, x] st = .ok .non (st.set n (.lst (xs.take k ++ [x] ++ xs.drop k))) := by
  have h2 : okIx (k : Int) = true := decide_eq_true (by omega)
  simp [mInsert, hh, hl, h2]
theorem mExtend_ref (hh : lstAt st n = some xs) (h2 : lstAt st m = some ys) (hl : xs.length + ys.length ≤ 16777216) : mExtend (.ref n) [.ref m] st = .ok .non (st.set n (.lst (xs ++ ys))) := by simp [mExtend, hh, h2, hl]
theorem mPop_ref (hh : lstAt st n = some (xs ++ [x])) : mPop (.ref n) [] st = .ok x (st.set n (.lst xs)) := by simp [mPop, hh]
theorem mJoin_tup {a : List Nat} {ys : List (List Nat)} (hl : (ys.map List.length).sum + ys.length * a.length ≤ 16777216) : mJoin (.str a) [.tup (ys.map D.str)] st = .ok (.str (joinD a ys)) st := by
  simp [mJoin, dSeq, strsD_map, hl]
theorem mJoin_ref {a : List Nat} {ys : List (List Nat)} (hh : lstAt st n = some (ys.map D.str)) (hl : (ys.map List.length).sum + ys.length * a.length ≤ 16777216) : mJoin (.str a) [.ref n] st = .ok (.str (joinD a ys)) st := by
  simp [mJoin, dSeq, hh, strsD_map, hl]
def ofB (st : Store) : Option Bool → ER D
  | some b => .ok (.bl b) st
  | none => .bad
@[simp] theorem ofB_some {b : Bool} : ofB st (some b) = .ok (.bl b) st := rfl
@[simp] theorem oIn_e : oIn x v st = ofB st (dIn x v st) := by
  unfold oIn ofB
  rfl
@[simp] theorem oNotIn_e : oNotIn x v st = ofB st ((dIn x v st).map fun b => !b) := by
  unfold oNotIn ofB
  cases dIn x v st <;> rfl
@[simp] theorem dIn_sign {c : Nat} {z : List Nat} : dIn (.str [c]) (.str z) st = some (decide (c ∈ z)) := rfl
theorem dIn_flat (hy : dSeq st v = some ys) (h1 : x.flat = true) (h2 : ys.all D.flat = true) : dIn x v st = some (ys.any fun y => eqF y x) := by
  unfold dIn
  split
  · rename_i c z
    cases hy
  · simp [hy, h1, h2]
@[simp] theorem dSeq_tup : dSeq st (.tup xs) = some xs := rfl
@[simp] theorem dSeq_rol : dSeq st (.rol xs) = some xs := rfl
theorem dSeq_ref (hh : lstAt st n = some xs) : dSeq st (.ref n) = some xs := hh
@[simp] theorem flat_int {k : Int} : (D.int k).flat = true := rfl
@[simp] theorem flat_str {k : List Nat} : (D.str k).flat = true := rfl
@[simp] theorem flat_bl {k : Bool} : (D.bl k).flat = true := rfl
@[simp] theorem flat_non : D.non.flat = true := rfl
@[simp] theorem eqF_int {a b : Int} : eqF (.int a) (.int b) = decide (a = b) := rfl
@[simp] theorem eqF_str {a b : List Nat} : eqF (.str a) (.str b) = decide (a = b) := rfl
@[simp] theorem dIn_tup {k : Int} : dIn (.int k) (.tup ys) st = if ys.all D.flat then some (ys.any fun y => eqF y (.int k)) else if ys.all (D.plain 59) then some (decide (D.int k ∈ ys)) else none := by
  simp [dIn, dSeq] <;> rfl
@[simp] theorem eSl_e : eSl f fl fh τ st = (f τ st).bind fun d s1 => (fl τ s1).bind fun l s2 => (fh τ s2).bind fun h s3 => dCut d l h s3 := rfl
@[simp] theorem oNone_e : oNone τ st = .ok none st := rfl
def ofI (d : D) (st : Store) : ER (Option Int) := match d with
  | .int i => .ok (some i) st
  | _ => .bad
@[simp] theorem ofI_int {k : Int} : ofI (.int k) st = .ok (some k) st := rfl
@[simp] theorem oSome_e : oSome f τ st = (f τ st).bind ofI := rfl
theorem sIx_n {n d k : Nat} : HT.sIx n d (some (k : Int)) = min k n := HT.sIx_nat n d k
@[simp] theorem sIx_0 {n d : Nat} : HT.sIx n d none = d := rfl
theorem dCut_str {z : List Nat} {lo hi : Option Int} (hz : z.length ≤ 16777216) : dCut (.str z) lo hi st = .ok (.str (cutD z lo hi)) st := by simp [dCut, hz]
theorem dCut_ref {lo hi : Option Int} (hh : lstAt st n = some xs) : dCut (.ref n) lo hi st = .ok (.ref st.length) (st ++ [.lst (cutD xs lo hi)]) := by simp [dCut, hh]
theorem cutD_nn {α : Type} {zs : List α} {a b : Nat} : cutD zs (some (a : Int)) (some (b : Int)) = (zs.drop (min a zs.length)).take (min b zs.length - min a zs.length) := by
  unfold cutD
  rw [sIx_n, sIx_n]
theorem cutD_to {α : Type} {zs : List α} {b : Nat} : cutD zs none (some (b : Int)) = zs.take b := by
  unfold cutD
  rw [sIx_n, sIx_0, List.drop_zero, Nat.sub_zero]
  exact PySem.W.kmk_take_min ..
theorem cutD_from {α : Type} {zs : List α} {a : Nat} : cutD zs (some (a : Int)) none = zs.drop a := by
  unfold cutD
  rw [sIx_n, sIx_0]
  rw [show zs.drop (min a zs.length) = zs.drop a from PySem.W.kmk_drop_min ..]
  refine List.take_of_length_le ?_
  rw [List.length_drop]
  omega
theorem gSum_ints {ns : List Int} : gSum (ns.map D.int) st = .ok (.int ns.sum) st := by simp [gSum, intsD_map]
theorem gAllB_bls {bs : List Bool} : gAllB (bs.map D.bl) st = .ok (.bl (bs.all id)) st := by simp [gAllB, blsD_map]
theorem gAnyB_bls {bs : List Bool} : gAnyB (bs.map D.bl) st = .ok (.bl (bs.any id)) st := by simp [gAnyB, blsD_map]
@[simp] theorem oMul_int {a b : Int} (hc : okMul a b = true) : oMul (.int a) (.int b) st = .ok (.int (a * b)) st := by simp [oMul, hc]
theorem oMul_str {z : List Nat} {k : Int} (h2 : 2 ≤ k) (hz : k ≤ 16777216) (hl : z.length * k.toNat ≤ 16777216) : oMul (.str z) (.int k) st = .ok (.str (repD k.toNat z)) st := by
  simp [oMul, h2, hz, hl]
theorem fLcm_W {a b : Int} (ha : a.natAbs < 2 ^ 9000) (hb : b.natAbs < 2 ^ 9000) : fLcm [.int a, .int b] st = .ok (.int (Nat.lcm a.natAbs b.natAbs : Nat)) st := by
  unfold fLcm
  simp only [decide_eq_true ha, decide_eq_true hb, Bool.and_self, if_true]
theorem fLcm_e {a b : Int} (ha : a.natAbs < 18446744073709551616) (hb : b.natAbs < 18446744073709551616) : fLcm [.int a, .int b] st = .ok (.int (Nat.lcm a.natAbs b.natAbs : Nat)) st :=
  fLcm_W (Nat.lt_of_lt_of_le ha (Nat.pow_le_pow_right (n := 2) (i := 64) (by decide) (by decide))) (Nat.lt_of_lt_of_le hb (Nat.pow_le_pow_right (n := 2) (i := 64) (by decide) (by decide)))
theorem fList_tup : fList [.tup xs] st = .ok (.ref st.length) (st ++ [.lst xs]) := rfl
theorem fList_ref (hh : lstAt st n = some xs) : fList [.ref n] st = .ok (.ref st.length) (st ++ [.lst xs]) := by simp [fList, dSeq, hh]
theorem sExL_e : sExL f τ st = (f τ st).bind fun d s1 => match dSeqL s1 d with
  | some xs => .ok xs s1
  | none => .bad := rfl
theorem oAdd_ref (hh : lstAt st n = some xs) (h2 : lstAt st m = some ys) (hl : xs.length + ys.length ≤ 16777216) : oAdd (.ref n) (.ref m) st = .ok (.ref st.length) (st ++ [.lst (xs ++ ys)]) := by simp [oAdd, hh, h2, hl]
theorem oIx_str {z : List Nat} {k : Nat} {c : Nat} (hz : z.length ≤ 16777216) (hk : z[k]? = some c) : oIx (.str z) (.int k) st = .ok (.str [c]) st := by
  have := atI_nat (xs := z) (j := k) (v := c) hk
  simp [oIx, hz, this]
theorem fLen_str {z : List Nat} (hz : z.length ≤ 16777216) : fLen [.str z] st = .ok (.int z.length) st := by simp [fLen, hz]
end
/-- a while loop, by an invariant with a measure -/
theorem while_inv {g : EM Bool} {u : SM} (P : Nat → Sl → Store → Prop) (Done : Sl → Store → Prop)
    (hs : ∀ n τ st, P n τ st → (∃ s1, g τ st = .ok false s1 ∧ Done τ s1) ∨ (∃ s1, g τ st = .ok true s1 ∧ ∃ τ2 s2, (u τ s1 = .nx τ2 s2 ∨ u τ s1 = .ct τ2 s2) ∧ ∃ m, m < n ∧ P m τ2 s2)) :
    ∀ (k n : Nat) (τ : Sl) (st : Store), n < k → P n τ st → ∃ τ' st', whileN g u k τ st = .nx τ' st' ∧ Done τ' st'
  | 0, _, _, _, h, _ => absurd h (Nat.not_lt_zero _)
  | k + 1, n, τ, st, h, hp => by
    unfold whileN
    rcases hs n τ st hp with ⟨s1, e, hd⟩ | ⟨s1, e, τ2, s2, e2, m, hm, hp2⟩
    · rw [e, bindE_ok, if_neg Bool.false_ne_true]
      exact ⟨τ, s1, rfl, hd⟩
    · rw [e, bindE_ok, if_pos rfl]
      obtain ⟨τ', st', e3, hd⟩ := while_inv P Done hs k m τ2 s2 (by omega) hp2
      refine ⟨τ', st', ?_, hd⟩
      rcases e2 with e2 | e2 <;> simp only [e2] <;> exact e3
/-- a comprehension that reads alone -/
theorem comp_map {α : Type} {q : Sq} {set : D → Sl → Option Sl} {fe : EM D} {τ : Sl} {st : Store} (hq : q.chk st = true) (g h : α → D) : ∀ (xs : List α) (acc : List D), (∀ a ∈ xs, ∃ τ1, set (g a) τ = some τ1 ∧ fe τ1 st = .ok (h a) st) → compL q set tYes fe τ (xs.map g) acc st = .ok (acc ++ xs.map h) st
  | [], acc, _ => by
    rw [List.map_nil, List.map_nil, List.append_nil]
    unfold compL
    rw [if_pos hq]
  | a :: xs, acc, hs => by
    obtain ⟨τ1, e1, e2⟩ := hs a (List.mem_cons_self ..)
    rw [List.map_cons]
    unfold compL
    rw [if_pos hq, e1]
    simp only [tYes, ER.bindN_ok, if_true, e2]
    rw [comp_map hq g h xs (acc ++ [h a]) fun b hb => hs b (List.mem_cons_of_mem _ hb), List.map_cons, List.append_assoc]
    rfl
/-- a loop that folds -/
theorem for_fold {α β : Type} {q : Sq} {set : D → Sl → Option Sl} {u : SM} {st : Store} (hq : q.chk st = true) (g : α → D) (F : β → α → β) (E : β → Option D → Sl) (I : β → Prop) : ∀ (xs : List α) (b : β) (t : Option D), I b →
    (∀ b t a, a ∈ xs → I b → I (F b a) ∧ ∃ τ1, set (g a) (E b t) = some τ1 ∧ u τ1 st = .nx (E (F b a) (some (g a))) st) → (∃ t', forL q set u (xs.map g) (E b t) st = .nx (E (xs.foldl F b) t') st) ∧ I (xs.foldl F b)
  | [], b, t, hI, _ => ⟨⟨t, by rw [List.map_nil, forL, if_pos hq]; rfl⟩, hI⟩
  | a :: xs, b, t, hI, hs => by
    obtain ⟨h1, τ1, e1, e2⟩ := hs b t a (List.mem_cons_self ..) hI
    obtain ⟨⟨t', e3⟩, h3⟩ := for_fold hq g F E I xs (F b a) (some (g a)) h1 fun b t a ha => hs b t a (List.mem_cons_of_mem _ ha)
    refine ⟨⟨t', ?_⟩, h3⟩
    rw [List.map_cons, forL, if_pos hq, e1]
    simp only [e2]
    exact e3
end HM

/-! HM, part V: growth of stores, comprehensions with tests, keyword calls. -/
namespace HM
open PySem PySem.Spec PyProof.Rows L2
section
variable {τ : Sl} {st : Store} {fs fk : EM (List D)} {n k np : Nat} {is : List Nat} {mf : FM}
@[simp] theorem eCallK_e : eCallK n k np is mf fs fk τ st = (fs τ st).bind fun ds s1 => (fk τ s1).bind fun es s2 => if ds.length = n ∧ es.length = k ∧ (arr is (ds ++ es)).length = np then mf (arr is (ds ++ es)) s2 else .bad := rfl
end
/-- cells are added alone -/
structure Gr (a b : Store) : Prop where
  ex : ∃ l, b = a ++ l
theorem Gr.refl {a : Store} : Gr a a := ⟨[], by simp⟩
theorem Gr.app {a : Store} {c : Cell} : Gr a (a ++ [c]) := ⟨[c], rfl⟩
theorem Gr.trans {a b c : Store} (x : Gr a b) (y : Gr b c) : Gr a c := by
  obtain ⟨l, rfl⟩ := x.ex
  obtain ⟨m, rfl⟩ := y.ex
  exact ⟨l ++ m, by simp⟩
theorem Gr.lst {a b : Store} {n : Nat} {xs : List D} (x : Gr a b) (h : lstAt a n = some xs) : lstAt b n = some xs := by
  obtain ⟨l, rfl⟩ := x.ex
  rw [lstAt_left (lstAt_lt h)]
  exact h
theorem Gr.fr {a b : Store} (x : Gr a b) : Fr a b := by
  obtain ⟨l, rfl⟩ := x.ex
  exact ⟨by simp, fun n _ h => by rw [List.getElem?_append_left h]⟩
theorem Gr.ds {a b : Store} {ns : List Int} (x : Gr a b) (H : DS ns a) : DS ns b := by
  obtain ⟨c0, p, h, q, hp, c1⟩ := H
  exact ⟨x.lst c0, p, h, q, hp, x.lst c1⟩
/-- the last cell is written -/
theorem Gr.put {a b : Store} {m : Nat} {c : Cell} (x : Gr a b) (h : a.length ≤ m) : Gr a (b.set m c) := by
  obtain ⟨l, rfl⟩ := x.ex
  exact ⟨l.set (m - a.length) c, List.set_append_right m c h⟩
theorem Gr.len {a b : Store} (x : Gr a b) : a.length ≤ b.length := by
  obtain ⟨l, rfl⟩ := x.ex
  simp
theorem DS.put2 {ns : List Int} {s : Store} {m : Nat} {c : Cell} (H : DS ns s) (h0 : m ≠ 0) (h1 : m ≠ 1) : DS ns (s.set m c) := by
  obtain ⟨c0, p, h, q, hp, c1⟩ := H
  exact ⟨by rw [lstAt_ne (Ne.symm h0)]; exact c0, p, h, q, hp, by rw [lstAt_ne (Ne.symm h1)]; exact c1⟩
theorem Fr.put2 {st s : Store} {m : Nat} {c : Cell} (F : Fr st s) (h : st.length ≤ m) : Fr st (s.set m c) :=
  ⟨by rw [List.length_set]; exact F.len, fun n h1 h2 => by rw [List.getElem?_set_ne (by omega)]; exact F.at' n h1 h2⟩
theorem DS.len {ns : List Int} {s : Store} (H : DS ns s) : 2 ≤ s.length := by
  obtain ⟨p, h, q, _, c1⟩ := H.c1
  exact lstAt_lt c1
theorem rng_eq (n : Nat) : rng 0 n = (List.range n).map fun k => D.int (k : Nat) := by
  unfold rng
  simp
theorem rng_mem {n : Nat} {i : Nat} {d : D} (h : (rng 0 n)[i]? = some d) : ∃ k : Nat, k < n ∧ d = .int k := by
  rw [rng_eq, List.getElem?_map] at h
  cases hx : (List.range n)[i]? with
  | none => rw [hx] at h; cases h
  | some a =>
    have := List.mem_range.mp (List.mem_of_getElem? hx)
    rw [hx] at h
    exact ⟨a, this, (Option.some.inj h).symm⟩
@[simp] theorem iZip_e {fa fb : EM D} {τ : Sl} {st : Store} : iZip fa fb τ st = (fa τ st).bind fun d s1 => (fb τ s1).bind fun e s2 => zip2 d e s2 := rfl
@[simp] theorem zip2_tup {xs ys : List D} {st : Store} : zip2 (.tup xs) (.tup ys) st = .ok (.fix (zipD xs ys)) st := rfl
def okRg (k : Int → Int → Store → ER D) (d : D) (st : Store) : ER D := match d with
  | .int j => k 0 j st
  | _ => .bad
@[simp] theorem eRg1_e {k : Int → Int → Store → ER D} {fa : EM D} {τ : Sl} {st : Store} : eRg1 k fa τ st = (fa τ st).bind (okRg k) := rfl
@[simp] theorem okRg_int {k : Int → Int → Store → ER D} {j : Int} {st : Store} : okRg k (.int j) st = k 0 j st := rfl
theorem rng_len {n : Nat} : (rng 0 (n : Nat)).length = n := by
  unfold rng
  simp
theorem lstAt_new {a : Store} {xs : List D} : lstAt (a ++ [.lst xs]) a.length = some xs := by simp [lstAt]
/-- a comprehension with a test -/
theorem comp_gen {q : Sq} {set : D → Sl → Option Sl} {ft : EM Bool} {fe : EM D} {τ : Sl} (P : Nat → List D → Store → Prop) (hc : ∀ k acc st, P k acc st → q.chk st = true) :
    ∀ (xs : List D) (k : Nat) (acc : List D) (st : Store), P k acc st →
    (∀ (i : Nat) (d : D) (acc' : List D) (st : Store), xs[i]? = some d → P (k + i) acc' st → ∃ τ1, set d τ = some τ1 ∧ ∃ b s1, ft τ1 st = .ok b s1 ∧ (b = false → P (k + i + 1) acc' s1) ∧ (b = true → ∃ x s2, fe τ1 s1 = .ok x s2 ∧ P (k + i + 1) (acc' ++ [x]) s2)) →
    ∃ ys st', compL q set ft fe τ xs acc st = .ok ys st' ∧ P (k + xs.length) ys st'
  | [], k, acc, st, h0, _ => ⟨acc, st, by
      unfold compL
      rw [if_pos (hc _ _ _ h0)], h0⟩
  | d :: ds, k, acc, st, h0, hs => by
    obtain ⟨τ1, e1, b, s1, e2, h2, h3⟩ := hs 0 d acc st rfl h0
    have next : ∀ acc s, P (k + 1) acc s → ∃ ys st', compL q set ft fe τ ds acc s = .ok ys st' ∧ P (k + (d :: ds).length) ys st' := fun acc s h => by
      rw [List.length_cons, show k + (ds.length + 1) = k + 1 + ds.length by omega]
      refine comp_gen P hc ds (k + 1) acc s h fun i d acc' st hi hp => ?_
      rw [show k + 1 + i = k + (i + 1) by omega] at hp ⊢
      exact hs (i + 1) d acc' st hi hp
    unfold compL
    rw [if_pos (hc _ _ _ h0), e1]
    simp only [e2, ER.bindN_ok]
    cases b with
    | false => exact next _ _ (h2 rfl)
    | true =>
      obtain ⟨x, s2, e3, h4⟩ := h3 rfl
      simp only [if_true, e3, ER.bindN_ok]
      exact next _ _ h4
/-- a comprehension with a test that reads alone -/
theorem comp_fil {α : Type} {q : Sq} {set : D → Sl → Option Sl} {ft : EM Bool} {fe : EM D} {τ : Sl} {st : Store} (hq : q.chk st = true) (g h : α → D) (p : α → Bool) : ∀ (xs : List α) (acc : List D), (∀ a ∈ xs, ∃ τ1, set (g a) τ = some τ1 ∧ ft τ1 st = .ok (p a) st ∧ (p a = true → fe τ1 st = .ok (h a) st)) → compL q set ft fe τ (xs.map g) acc st = .ok (acc ++ (xs.filter p).map h) st
  | [], acc, _ => by
    rw [List.map_nil, List.filter_nil, List.map_nil, List.append_nil]
    unfold compL
    rw [if_pos hq]
  | a :: xs, acc, hs => by
    obtain ⟨τ1, e1, e2, e3⟩ := hs a (List.mem_cons_self ..)
    have ih := fun acc => comp_fil hq g h p xs acc fun b hb => hs b (List.mem_cons_of_mem _ hb)
    rw [List.map_cons, List.filter_cons]
    unfold compL
    rw [if_pos hq, e1]
    simp only [e2, ER.bindN_ok]
    cases hp : p a with
    | false => simp only [Bool.false_eq_true, if_false]; exact ih acc
    | true =>
      simp only [if_true, e3 hp, ER.bindN_ok]
      rw [ih, List.map_cons, List.append_assoc]
      rfl
theorem forL_nil {set : D → Sl → Option Sl} {u : SM} {q : Sq} {τ : Sl} {st : Store} (hq : q.chk st = true) : forL q set u [] τ st = .nx τ st := by
  rw [forL, if_pos hq]
theorem forL_nx {set : D → Sl → Option Sl} {u : SM} {q : Sq} {τ τ1 τ2 : Sl} {st s2 : Store} {d : D} {ds : List D} (hq : q.chk st = true) (h1 : set d τ = some τ1) (h2 : u τ1 st = .nx τ2 s2) : forL q set u (d :: ds) τ st = forL q set u ds τ2 s2 := by
  rw [forL, if_pos hq, h1]
  simp only [h2]
theorem forL_ct {set : D → Sl → Option Sl} {u : SM} {q : Sq} {τ τ1 τ2 : Sl} {st s2 : Store} {d : D} {ds : List D} (hq : q.chk st = true) (h1 : set d τ = some τ1) (h2 : u τ1 st = .ct τ2 s2) : forL q set u (d :: ds) τ st = forL q set u ds τ2 s2 := by
  rw [forL, if_pos hq, h1]
  simp only [h2]
theorem forL_rt {set : D → Sl → Option Sl} {u : SM} {q : Sq} {τ τ1 : Sl} {st s2 : Store} {d x : D} {ds : List D} (hq : q.chk st = true) (h1 : set d τ = some τ1) (h2 : u τ1 st = .rt x s2) : forL q set u (d :: ds) τ st = .rt x s2 := by
  rw [forL, if_pos hq, h1]
  simp only [h2]
theorem forL_bk {set : D → Sl → Option Sl} {u : SM} {q : Sq} {τ τ1 τ2 : Sl} {st s2 : Store} {d : D} {ds : List D} (hq : q.chk st = true) (h1 : set d τ = some τ1) (h2 : u τ1 st = .bk τ2 s2) : forL q set u (d :: ds) τ st = .nx τ2 s2 := by
  rw [forL, if_pos hq, h1]
  simp only [h2]
theorem map_mem {α : Type} {f : α → D} {xs : List α} {i : Nat} {d : D} (h : (xs.map f)[i]? = some d) : ∃ a ∈ xs, d = f a := by
  rw [List.getElem?_map] at h
  cases hx : xs[i]? with
  | none => simp [hx] at h
  | some a => exact ⟨a, List.mem_of_getElem? hx, by simpa [hx] using h.symm⟩
theorem any_eqF {cs : List Int} {k : Int} : ((cs.map D.int).any fun y => eqF y (.int k)) = decide (k ∈ cs) := by
  induction cs with
  | nil => rfl
  | cons c cs ih =>
    rw [List.map_cons, List.any_cons, ih]
    by_cases h : k = c <;> simp [h, eq_comm]
theorem dIn_ints {cs : List Int} {k : Int} {st : Store} : dIn (.int k) (.tup (cs.map D.int)) st = some (decide (k ∈ cs)) := by
  rw [dIn_tup, if_pos, any_eqF]
  rw [List.all_eq_true]
  intro x hx
  obtain ⟨c, _, rfl⟩ := List.mem_map.mp hx
  rfl
end HM

namespace K24
open PySem PySem.Spec PyProof.Rows L2 HM
def top (i : Nat) : Stmt := PySem.Challenge.pw_closedratios_k24_whole_spreads.main.body.getD i (.Pass ⟨0, 0, 0, 0⟩)
abbrev s_ratio : Stmt := top 3
abbrev s_plus : Stmt := top 4
abbrev s_minus : Stmt := top 5
abbrev s_times : Stmt := top 6
abbrev s_over : Stmt := top 7
abbrev s_power : Stmt := top 8
abbrev s_is_below : Stmt := top 9
abbrev s_chances : Stmt := top 11
abbrev s_reduced : Stmt := top 12
abbrev s_lowest : Stmt := top 13
abbrev s_inner_share : Stmt := top 15
abbrev s_end_share : Stmt := top 16
abbrev s_answer_share : Stmt := top 17
abbrev s_spread_share : Stmt := top 18
abbrev s_spread_chances : Stmt := top 19
abbrev s_spread_row : Stmt := top 20
abbrev s_spread_rows : Stmt := top 21
abbrev s_factor_of : Stmt := top 23
abbrev s_greater_loss : Stmt := top 24
abbrev s_row_loss : Stmt := top 25
abbrev s_rows_loss : Stmt := top 26
abbrev s__law_begin : Stmt := top 28
abbrev s__law_draw : Stmt := top 29
abbrev s__law_pick : Stmt := top 30
abbrev s__law_is_int : Stmt := top 31
abbrev s__law_is_ints : Stmt := top 32
abbrev s__law_gcd : Stmt := top 33
abbrev s__law_f : Stmt := top 34
abbrev s__law_is_frac : Stmt := top 35
abbrev s__law_is_ratio : Stmt := top 36
abbrev s__law_powers : Stmt := top 37
abbrev s__law_factor : Stmt := top 38
abbrev s__law_is_lowest : Stmt := top 39
abbrev s__law_share : Stmt := top 40
abbrev s__law_is_spread : Stmt := top 41
abbrev s__law_is_held : Stmt := top 42
abbrev s__law_is_within : Stmt := top 43
abbrev s__law_apart : Stmt := top 44
abbrev s__law_losses_right : Stmt := top 45
abbrev s_law : Stmt := top 46
def q_ONE : D := .tup [.int 1, .int 1]
def N_ratio : List PySem.Str := ["n", "d", "common"]
theorem sc_ratio : FnScope N_ratio ["n", "d"] (defScope s_ratio) := ⟨rfl, rfl, rfl, by decide +kernel, rfl, by decide +kernel, by decide +kernel⟩
def m_ratio : SM := (sSeq (sIf (tBl (eBin oEq (eVar 1) (eC (.int 0)))) (sRaise ⟨.ty "ZeroDivisionError", []⟩) sNil)
    (sSeq (sSet 2 (eCB fGcd (aCons (eVar 0) (aCons (eVar 1) aNil))))
    (sSeq (sIf (tBl (eBin oLt (eVar 1) (eC (.int 0)))) (sSet 2 (eUn oNeg (eVar 2))) sNil)
    (sRet (eTup (aCons (eBin oDiv (eVar 0) (eVar 2)) (aCons (eBin oDiv (eVar 1) (eVar 2)) aNil)))))))
theorem ok_ratio {P : Program} {w : World} {K : PySem.W.Frag} {mg : PySem.Str → Option Value} {base : Heap} {f : Addr} {fd : FuncData} (F : FnP K "ratio" s_ratio f fd) (gx : mg "ratio" = some (.ref f)) (g_gcd : mg "gcd" = some (.builtin "math.gcd")) (z_ZeroDivisionError : mg "ZeroDivisionError" = none) :
    Cal P w K mg base "ratio" 1 ["n", "d"] (runB 3 (m_ratio)) :=
  cal_mk (k := 0) F sc_ratio gx (fun _ _ _ _ _ _ us hl => match us, hl with | [_, _], _ => rfl) fun cdv A outer s H E hr tk hp =>
    (sx_cons (sx_if (et_cmp (m_eq hr.units) (xv 1) ex_int (nomark _)) (sx_one (sx_raiseB (by rfl) tk exb_ZeroDivisionError (by rfl) z_ZeroDivisionError boot_ZeroDivisionError)) sx_nil)
    (sx_cons (sx_set sc_ratio.nd (ex_callF c_gcd (by rfl) g_gcd (ea_cons (xv 0) (ea_cons (xv 1) ea_nil))))
    (sx_cons (sx_if (et_cmp m_lt (xv 1) ex_int (nomark _)) (sx_one (sx_set sc_ratio.nd (ex_un m_neg (xv 2)))) sx_nil)
    (sx_one (sx_ret (ex_tup (ea_cons (ex_op m_div (xv 0) (xv 2)) (ea_cons (ex_op m_div (xv 1) (xv 2)) ea_nil))))))))
def N_plus : List PySem.Str := ["x", "y"]
theorem sc_plus : FnScope N_plus ["x", "y"] (defScope s_plus) := ⟨rfl, rfl, rfl, by decide +kernel, rfl, by decide +kernel, by decide +kernel⟩
def m_plus (f_ratio : FM) : SM := (sSeq (sIf (tBl (eBin oEq (eBin oIx (eVar 0) (eC (.int 1))) (eBin oIx (eVar 1) (eC (.int 1))))) (sRet (eCall 2 f_ratio (aCons (eBin oAdd (eBin oIx (eVar 0) (eC (.int 0))) (eBin oIx (eVar 1) (eC (.int 0)))) (aCons (eBin oIx (eVar 0) (eC (.int 1))) aNil)))) sNil)
    (sRet (eCall 2 f_ratio (aCons (eBin oAdd (eBin oMul (eBin oIx (eVar 0) (eC (.int 0))) (eBin oIx (eVar 1) (eC (.int 1)))) (eBin oMul (eBin oIx (eVar 1) (eC (.int 0))) (eBin oIx (eVar 0) (eC (.int 1))))) (aCons (eBin oMul (eBin oIx (eVar 0) (eC (.int 1))) (eBin oIx (eVar 1) (eC (.int 1)))) aNil)))))
theorem ok_plus {P : Program} {w : World} {K : PySem.W.Frag} {mg : PySem.Str → Option Value} {base : Heap} {f : Addr} {fd : FuncData} {f_ratio : FM} (F : FnP K "plus" s_plus f fd) (gx : mg "plus" = some (.ref f)) (c_ratio : Cal P w K mg base "ratio" 1 ["n", "d"] f_ratio) :
    Cal P w K mg base "plus" 2 ["x", "y"] (runB 2 (m_plus f_ratio)) :=
  cal_mk (k := 1) F sc_plus gx (fun _ _ _ _ _ _ us hl => match us, hl with | [_, _], _ => rfl) fun cdv A outer s H E hr tk hp =>
    (sx_cons (sx_if (et_cmp (m_eq hr.units) (ex_ix m_ix (xv 0) ex_int) (ex_ix m_ix (xv 1) ex_int) (nomark _)) (sx_one (sx_ret (ex_c1 c_ratio tk hr (by decide) (ea_cons (ex_op m_add (ex_ix m_ix (xv 0) ex_int) (ex_ix m_ix (xv 1) ex_int)) (ea_cons (ex_ix m_ix (xv 0) ex_int) ea_nil))))) sx_nil)
    (sx_one (sx_ret (ex_c1 c_ratio tk hr (by decide) (ea_cons (ex_op m_add (ex_op m_mul (ex_ix m_ix (xv 0) ex_int) (ex_ix m_ix (xv 1) ex_int)) (ex_op m_mul (ex_ix m_ix (xv 1) ex_int) (ex_ix m_ix (xv 0) ex_int))) (ea_cons (ex_op m_mul (ex_ix m_ix (xv 0) ex_int) (ex_ix m_ix (xv 1) ex_int)) ea_nil))))))
def N_minus : List PySem.Str := ["x", "y"]
theorem sc_minus : FnScope N_minus ["x", "y"] (defScope s_minus) := ⟨rfl, rfl, rfl, by decide +kernel, rfl, by decide +kernel, by decide +kernel⟩
def m_minus (f_ratio : FM) : SM := (sRet (eCall 2 f_ratio (aCons (eBin oSub (eBin oMul (eBin oIx (eVar 0) (eC (.int 0))) (eBin oIx (eVar 1) (eC (.int 1)))) (eBin oMul (eBin oIx (eVar 1) (eC (.int 0))) (eBin oIx (eVar 0) (eC (.int 1))))) (aCons (eBin oMul (eBin oIx (eVar 0) (eC (.int 1))) (eBin oIx (eVar 1) (eC (.int 1)))) aNil))))
theorem ok_minus {P : Program} {w : World} {K : PySem.W.Frag} {mg : PySem.Str → Option Value} {base : Heap} {f : Addr} {fd : FuncData} {f_ratio : FM} (F : FnP K "minus" s_minus f fd) (gx : mg "minus" = some (.ref f)) (c_ratio : Cal P w K mg base "ratio" 1 ["n", "d"] f_ratio) :
    Cal P w K mg base "minus" 2 ["x", "y"] (runB 2 (m_minus f_ratio)) :=
  cal_mk (k := 1) F sc_minus gx (fun _ _ _ _ _ _ us hl => match us, hl with | [_, _], _ => rfl) fun cdv A outer s H E hr tk hp =>
    (sx_one (sx_ret (ex_c1 c_ratio tk hr (by decide) (ea_cons (ex_op m_sub (ex_op m_mul (ex_ix m_ix (xv 0) ex_int) (ex_ix m_ix (xv 1) ex_int)) (ex_op m_mul (ex_ix m_ix (xv 1) ex_int) (ex_ix m_ix (xv 0) ex_int))) (ea_cons (ex_op m_mul (ex_ix m_ix (xv 0) ex_int) (ex_ix m_ix (xv 1) ex_int)) ea_nil)))))
def N_times : List PySem.Str := ["x", "y"]
theorem sc_times : FnScope N_times ["x", "y"] (defScope s_times) := ⟨rfl, rfl, rfl, by decide +kernel, rfl, by decide +kernel, by decide +kernel⟩
def m_times (f_ratio : FM) : SM := (sRet (eCall 2 f_ratio (aCons (eBin oMul (eBin oIx (eVar 0) (eC (.int 0))) (eBin oIx (eVar 1) (eC (.int 0)))) (aCons (eBin oMul (eBin oIx (eVar 0) (eC (.int 1))) (eBin oIx (eVar 1) (eC (.int 1)))) aNil))))
theorem ok_times {P : Program} {w : World} {K : PySem.W.Frag} {mg : PySem.Str → Option Value} {base : Heap} {f : Addr} {fd : FuncData} {f_ratio : FM} (F : FnP K "times" s_times f fd) (gx : mg "times" = some (.ref f)) (c_ratio : Cal P w K mg base "ratio" 1 ["n", "d"] f_ratio) :
    Cal P w K mg base "times" 2 ["x", "y"] (runB 2 (m_times f_ratio)) :=
  cal_mk (k := 1) F sc_times gx (fun _ _ _ _ _ _ us hl => match us, hl with | [_, _], _ => rfl) fun cdv A outer s H E hr tk hp =>
    (sx_one (sx_ret (ex_c1 c_ratio tk hr (by decide) (ea_cons (ex_op m_mul (ex_ix m_ix (xv 0) ex_int) (ex_ix m_ix (xv 1) ex_int)) (ea_cons (ex_op m_mul (ex_ix m_ix (xv 0) ex_int) (ex_ix m_ix (xv 1) ex_int)) ea_nil)))))
def N_over : List PySem.Str := ["x", "y"]
theorem sc_over : FnScope N_over ["x", "y"] (defScope s_over) := ⟨rfl, rfl, rfl, by decide +kernel, rfl, by decide +kernel, by decide +kernel⟩
def m_over (f_ratio : FM) : SM := (sRet (eCall 2 f_ratio (aCons (eBin oMul (eBin oIx (eVar 0) (eC (.int 0))) (eBin oIx (eVar 1) (eC (.int 1)))) (aCons (eBin oMul (eBin oIx (eVar 0) (eC (.int 1))) (eBin oIx (eVar 1) (eC (.int 0)))) aNil))))
theorem ok_over {P : Program} {w : World} {K : PySem.W.Frag} {mg : PySem.Str → Option Value} {base : Heap} {f : Addr} {fd : FuncData} {f_ratio : FM} (F : FnP K "over" s_over f fd) (gx : mg "over" = some (.ref f)) (c_ratio : Cal P w K mg base "ratio" 1 ["n", "d"] f_ratio) :
    Cal P w K mg base "over" 2 ["x", "y"] (runB 2 (m_over f_ratio)) :=
  cal_mk (k := 1) F sc_over gx (fun _ _ _ _ _ _ us hl => match us, hl with | [_, _], _ => rfl) fun cdv A outer s H E hr tk hp =>
    (sx_one (sx_ret (ex_c1 c_ratio tk hr (by decide) (ea_cons (ex_op m_mul (ex_ix m_ix (xv 0) ex_int) (ex_ix m_ix (xv 1) ex_int)) (ea_cons (ex_op m_mul (ex_ix m_ix (xv 0) ex_int) (ex_ix m_ix (xv 1) ex_int)) ea_nil)))))
def N_power : List PySem.Str := ["x", "k", "found", "base", "left"]
theorem sc_power : FnScope N_power ["x", "k"] (defScope s_power) := ⟨rfl, rfl, rfl, by decide +kernel, rfl, by decide +kernel, by decide +kernel⟩
def m_power (f_times : FM) : SM := (sSeq (sSet 2 (eC q_ONE))
    (sSeq (sSet 3 (eVar 0))
    (sSeq (sSet 4 (eVar 1))
    (sSeq (whileN (tBl (eBin oGt (eVar 4) (eC (.int 0)))) (sSeq (sIf (tVal (eBin oAnd (eVar 4) (eC (.int 1)))) (sSet 2 (eCall 2 f_times (aCons (eVar 2) (aCons (eVar 3) aNil)))) sNil)
    (sSeq (sSet 3 (eCall 2 f_times (aCons (eVar 3) (aCons (eVar 3) aNil))))
    (sSet 4 (eBin oShr (eVar 4) (eC (.int 1)))))) big)
    (sRet (eVar 2))))))
theorem ok_power {P : Program} {w : World} {K : PySem.W.Frag} {mg : PySem.Str → Option Value} {base : Heap} {f : Addr} {fd : FuncData} {f_times : FM} (F : FnP K "power" s_power f fd) (gx : mg "power" = some (.ref f)) (c_times : Cal P w K mg base "times" 2 ["x", "y"] f_times) (k_ONE : Con K mg "ONE" q_ONE) :
    Cal P w K mg base "power" 3 ["x", "k"] (runB 5 (m_power f_times)) :=
  cal_mk (k := 2) F sc_power gx (fun _ _ _ _ _ _ us hl => match us, hl with | [_, _], _ => rfl) fun cdv A outer s H E hr tk hp =>
    (sx_cons (sx_set sc_power.nd (ex_con k_ONE))
    (sx_cons (sx_set sc_power.nd (xv 0))
    (sx_cons (sx_set sc_power.nd (xv 1))
    (sx_cons (sx_while big hp (et_cmp m_gt (xv 4) ex_int (nomark _)) (sx_cons (sx_if (et_val (ex_op m_and (xv 4) ex_int)) (sx_one (sx_set sc_power.nd (ex_c1 c_times tk hr (by decide) (ea_cons (xv 2) (ea_cons (xv 3) ea_nil))))) sx_nil)
    (sx_cons (sx_set sc_power.nd (ex_c1 c_times tk hr (by decide) (ea_cons (xv 3) (ea_cons (xv 3) ea_nil))))
    (sx_one (sx_set sc_power.nd (ex_op m_shr (xv 4) ex_int))))))
    (sx_one (sx_ret (xv 2)))))))
def N_is_below : List PySem.Str := ["x", "y"]
theorem sc_is_below : FnScope N_is_below ["x", "y"] (defScope s_is_below) := ⟨rfl, rfl, rfl, by decide +kernel, rfl, by decide +kernel, by decide +kernel⟩
def m_is_below : SM := (sRet (eBin oLt (eBin oMul (eBin oIx (eVar 0) (eC (.int 0))) (eBin oIx (eVar 1) (eC (.int 1)))) (eBin oMul (eBin oIx (eVar 1) (eC (.int 0))) (eBin oIx (eVar 0) (eC (.int 1))))))
theorem ok_is_below {P : Program} {w : World} {K : PySem.W.Frag} {mg : PySem.Str → Option Value} {base : Heap} {f : Addr} {fd : FuncData} (F : FnP K "is_below" s_is_below f fd) (gx : mg "is_below" = some (.ref f))  :
    Cal P w K mg base "is_below" 1 ["x", "y"] (runB 2 (m_is_below)) :=
  cal_mk (k := 0) F sc_is_below gx (fun _ _ _ _ _ _ us hl => match us, hl with | [_, _], _ => rfl) fun cdv A outer s H E hr tk hp =>
    (sx_one (sx_ret (ex_cmp m_lt (ex_op m_mul (ex_ix m_ix (xv 0) ex_int) (ex_ix m_ix (xv 1) ex_int)) (ex_op m_mul (ex_ix m_ix (xv 1) ex_int) (ex_ix m_ix (xv 0) ex_int)) (nomark _))))
def N_chances : List PySem.Str := ["weights", "whole", "weight"]
theorem sc_chances : FnScope N_chances ["weights"] (defScope s_chances) := ⟨rfl, rfl, rfl, by decide +kernel, rfl, by decide +kernel, by decide +kernel⟩
def m_chances (f_ratio : FM) : SM := (sSeq (sSet 1 (eCS gSum (sEx (eVar 0))))
    (sRet (eCS gTuple (lComp [2] (iEx (eVar 0)) (gN 2) tYes (eCall 2 f_ratio (aCons (eVar 2) (aCons (eVar 1) aNil)))))))
theorem ok_chances {P : Program} {w : World} {K : PySem.W.Frag} {mg : PySem.Str → Option Value} {base : Heap} {f : Addr} {fd : FuncData} {f_ratio : FM} (F : FnP K "chances" s_chances f fd) (gx : mg "chances" = some (.ref f)) (c_ratio : Cal P w K mg base "ratio" 1 ["n", "d"] f_ratio) (z_sum : mg "sum" = none) (z_tuple : mg "tuple" = none) :
    Cal P w K mg base "chances" 2 ["weights"] (runB 3 (m_chances f_ratio)) :=
  cal_mk (k := 1) F sc_chances gx (fun _ _ _ _ _ _ us hl => match us, hl with | [_], _ => rfl) fun cdv A outer s H E hr tk hp =>
    (sx_cons (sx_set sc_chances.nd (ex_callBs (s_sum (by rfl)) (by rfl) z_sum bt_sum (es_ex (xv 0))))
    (sx_one (sx_ret (ex_callTs s_tuple (by rfl) z_tuple bt_tuple (es_el (el_comp (own := [(("weight" : PySem.Str), 2)]) (by rfl) sc_chances.nd (ei_ex (xv 0)) (blkOk_by (N := N_chances) (sc := (defScope s_chances)) (by decide +kernel)) (fun _ _ _ _ _ => (eg_name sc_chances.nd)) (fun _ _ _ _ _ => ets_nil) (fun _ _ _ _ _ => (ex_c1 c_ratio tk0 hr (by decide) (ea_cons (xv 2) (ea_cons (xv 1) ea_nil))))))))))
def N_reduced : List PySem.Str := ["weights", "common", "weight"]
theorem sc_reduced : FnScope N_reduced ["weights"] (defScope s_reduced) := ⟨rfl, rfl, rfl, by decide +kernel, rfl, by decide +kernel, by decide +kernel⟩
def m_reduced : SM := (sSeq (sSet 1 (eC (.int 0)))
    (sSeq (sFor (iEx (eVar 0)) (gN 2) (sSet 1 (eCB fGcd (aCons (eVar 1) (aCons (eVar 2) aNil)))))
    (sRet (eCS gTuple (lComp [2] (iEx (eVar 0)) (gN 2) tYes (eBin oDiv (eVar 2) (eVar 1)))))))
theorem ok_reduced {P : Program} {w : World} {K : PySem.W.Frag} {mg : PySem.Str → Option Value} {base : Heap} {f : Addr} {fd : FuncData} (F : FnP K "reduced" s_reduced f fd) (gx : mg "reduced" = some (.ref f)) (g_gcd : mg "gcd" = some (.builtin "math.gcd")) (z_tuple : mg "tuple" = none) :
    Cal P w K mg base "reduced" 1 ["weights"] (runB 3 (m_reduced)) :=
  cal_mk (k := 0) F sc_reduced gx (fun _ _ _ _ _ _ us hl => match us, hl with | [_], _ => rfl) fun cdv A outer s H E hr tk hp =>
    (sx_cons (sx_set sc_reduced.nd ex_int)
    (sx_cons (sx_for hp (by rfl) (ei_ex (xv 0)) (eg_name sc_reduced.nd) (sx_one (sx_set sc_reduced.nd (ex_callF c_gcd (by rfl) g_gcd (ea_cons (xv 1) (ea_cons (xv 2) ea_nil))))))
    (sx_one (sx_ret (ex_callTs s_tuple (by rfl) z_tuple bt_tuple (es_el (el_comp (own := [(("weight" : PySem.Str), 2)]) (by rfl) sc_reduced.nd (ei_ex (xv 0)) (blkOk_by (N := N_reduced) (sc := (defScope s_reduced)) (by decide +kernel)) (fun _ _ _ _ _ => (eg_name sc_reduced.nd)) (fun _ _ _ _ _ => ets_nil) (fun _ _ _ _ _ => (ex_op m_div (xv 2) (xv 1))))))))))
def N_lowest : List PySem.Str := ["row", "below", "part"]
theorem sc_lowest : FnScope N_lowest ["row"] (defScope s_lowest) := ⟨rfl, rfl, rfl, by decide +kernel, rfl, by decide +kernel, by decide +kernel⟩
def m_lowest (f_reduced : FM) : SM := (sSeq (sSet 1 (eC (.int 1)))
    (sSeq (sFor (iEx (eVar 0)) (gN 2) (sSet 1 (eCB fLcm (aCons (eVar 1) (aCons (eBin oIx (eVar 2) (eC (.int 1))) aNil)))))
    (sRet (eCall 1 f_reduced (aCons (eEl (lComp [2] (iEx (eVar 0)) (gN 2) tYes (eBin oMul (eBin oIx (eVar 2) (eC (.int 0))) (eBin oDiv (eVar 1) (eBin oIx (eVar 2) (eC (.int 1))))))) aNil)))))
theorem ok_lowest {P : Program} {w : World} {K : PySem.W.Frag} {mg : PySem.Str → Option Value} {base : Heap} {f : Addr} {fd : FuncData} {f_reduced : FM} (F : FnP K "lowest" s_lowest f fd) (gx : mg "lowest" = some (.ref f)) (c_reduced : Cal P w K mg base "reduced" 1 ["weights"] f_reduced) (g_lcm : mg "lcm" = some (.builtin "math.lcm")) :
    Cal P w K mg base "lowest" 2 ["row"] (runB 3 (m_lowest f_reduced)) :=
  cal_mk (k := 1) F sc_lowest gx (fun _ _ _ _ _ _ us hl => match us, hl with | [_], _ => rfl) fun cdv A outer s H E hr tk hp =>
    (sx_cons (sx_set sc_lowest.nd ex_int)
    (sx_cons (sx_for hp (by rfl) (ei_ex (xv 0)) (eg_name sc_lowest.nd) (sx_one (sx_set sc_lowest.nd (ex_callF c_lcm (by rfl) g_lcm (ea_cons (xv 1) (ea_cons (ex_ix m_ix (xv 2) ex_int) ea_nil))))))
    (sx_one (sx_ret (ex_c1 c_reduced tk hr (by decide) (ea_cons (ex_el (el_comp (own := [(("part" : PySem.Str), 2)]) (by rfl) sc_lowest.nd (ei_ex (xv 0)) (blkOk_by (N := N_lowest) (sc := (defScope s_lowest)) (by decide +kernel)) (fun _ _ _ _ _ => (eg_name sc_lowest.nd)) (fun _ _ _ _ _ => ets_nil) (fun _ _ _ _ _ => (ex_op m_mul (ex_ix m_ix (xv 2) ex_int) (ex_op m_div (xv 1) (ex_ix m_ix (xv 2) ex_int)))))) ea_nil))))))
def N_inner_share : List PySem.Str := ["x"]
theorem sc_inner_share : FnScope N_inner_share ["x"] (defScope s_inner_share) := ⟨rfl, rfl, rfl, by decide +kernel, rfl, by decide +kernel, by decide +kernel⟩
def m_inner_share (f_over : FM) (f_minus : FM) (f_plus : FM) : SM := (sRet (eCall 2 f_over (aCons (eCall 2 f_minus (aCons (eC q_ONE) (aCons (eVar 0) aNil))) (aCons (eCall 2 f_plus (aCons (eC q_ONE) (aCons (eVar 0) aNil))) aNil))))
theorem ok_inner_share {P : Program} {w : World} {K : PySem.W.Frag} {mg : PySem.Str → Option Value} {base : Heap} {f : Addr} {fd : FuncData} {f_over f_minus f_plus : FM} (F : FnP K "inner_share" s_inner_share f fd) (gx : mg "inner_share" = some (.ref f)) (c_over : Cal P w K mg base "over" 2 ["x", "y"] f_over) (c_minus : Cal P w K mg base "minus" 2 ["x", "y"] f_minus) (c_plus : Cal P w K mg base "plus" 2 ["x", "y"] f_plus) (k_ONE : Con K mg "ONE" q_ONE) :
    Cal P w K mg base "inner_share" 3 ["x"] (runB 1 (m_inner_share f_over f_minus f_plus)) :=
  cal_mk (k := 2) F sc_inner_share gx (fun _ _ _ _ _ _ us hl => match us, hl with | [_], _ => rfl) fun cdv A outer s H E hr tk hp =>
    (sx_one (sx_ret (ex_c1 c_over tk hr (by decide) (ea_cons (ex_c1 c_minus tk hr (by decide) (ea_cons (ex_con k_ONE) (ea_cons (xv 0) ea_nil))) (ea_cons (ex_c1 c_plus tk hr (by decide) (ea_cons (ex_con k_ONE) (ea_cons (xv 0) ea_nil))) ea_nil)))))
def N_end_share : List PySem.Str := ["x"]
theorem sc_end_share : FnScope N_end_share ["x"] (defScope s_end_share) := ⟨rfl, rfl, rfl, by decide +kernel, rfl, by decide +kernel, by decide +kernel⟩
def m_end_share (f_over : FM) (f_plus : FM) : SM := (sRet (eCall 2 f_over (aCons (eC q_ONE) (aCons (eCall 2 f_plus (aCons (eC q_ONE) (aCons (eVar 0) aNil))) aNil))))
theorem ok_end_share {P : Program} {w : World} {K : PySem.W.Frag} {mg : PySem.Str → Option Value} {base : Heap} {f : Addr} {fd : FuncData} {f_over f_plus : FM} (F : FnP K "end_share" s_end_share f fd) (gx : mg "end_share" = some (.ref f)) (c_over : Cal P w K mg base "over" 2 ["x", "y"] f_over) (c_plus : Cal P w K mg base "plus" 2 ["x", "y"] f_plus) (k_ONE : Con K mg "ONE" q_ONE) :
    Cal P w K mg base "end_share" 3 ["x"] (runB 1 (m_end_share f_over f_plus)) :=
  cal_mk (k := 2) F sc_end_share gx (fun _ _ _ _ _ _ us hl => match us, hl with | [_], _ => rfl) fun cdv A outer s H E hr tk hp =>
    (sx_one (sx_ret (ex_c1 c_over tk hr (by decide) (ea_cons (ex_con k_ONE) (ea_cons (ex_c1 c_plus tk hr (by decide) (ea_cons (ex_con k_ONE) (ea_cons (xv 0) ea_nil))) ea_nil)))))
def N_answer_share : List PySem.Str := ["top", "answer", "x"]
theorem sc_answer_share : FnScope N_answer_share ["top", "answer", "x"] (defScope s_answer_share) := ⟨rfl, rfl, rfl, by decide +kernel, rfl, by decide +kernel, by decide +kernel⟩
def m_answer_share (f_inner_share : FM) (f_end_share : FM) : SM := (sSeq (sIf (tBl (eChain oLt oLt (eC (.int 0)) (eVar 1) (eVar 0))) (sRet (eCall 1 f_inner_share (aCons (eVar 2) aNil))) sNil)
    (sRet (eCall 1 f_end_share (aCons (eVar 2) aNil))))
theorem ok_answer_share {P : Program} {w : World} {K : PySem.W.Frag} {mg : PySem.Str → Option Value} {base : Heap} {f : Addr} {fd : FuncData} {f_inner_share f_end_share : FM} (F : FnP K "answer_share" s_answer_share f fd) (gx : mg "answer_share" = some (.ref f)) (c_inner_share : Cal P w K mg base "inner_share" 3 ["x"] f_inner_share) (c_end_share : Cal P w K mg base "end_share" 3 ["x"] f_end_share) :
    Cal P w K mg base "answer_share" 4 ["top", "answer", "x"] (runB 3 (m_answer_share f_inner_share f_end_share)) :=
  cal_mk (k := 3) F sc_answer_share gx (fun _ _ _ _ _ _ us hl => match us, hl with | [_, _, _], _ => rfl) fun cdv A outer s H E hr tk hp =>
    (sx_cons (sx_if (et_chain m_lt m_lt ex_int (xv 1) (xv 0)) (sx_one (sx_ret (ex_c1 c_inner_share tk hr (by decide) (ea_cons (xv 2) ea_nil)))) sx_nil)
    (sx_one (sx_ret (ex_c1 c_end_share tk hr (by decide) (ea_cons (xv 2) ea_nil)))))
def N_spread_share : List PySem.Str := ["top", "value", "answer", "x"]
theorem sc_spread_share : FnScope N_spread_share ["top", "value", "answer", "x"] (defScope s_spread_share) := ⟨rfl, rfl, rfl, by decide +kernel, rfl, by decide +kernel, by decide +kernel⟩
def m_spread_share (f_times : FM) (f_answer_share : FM) (f_power : FM) : SM := (sSeq (sIf (tBl (eBin oEq (eVar 0) (eC (.int 0)))) (sRet (eC q_ONE)) sNil)
    (sRet (eCall 2 f_times (aCons (eCall 3 f_answer_share (aCons (eVar 0) (aCons (eVar 2) (aCons (eVar 3) aNil)))) (aCons (eCall 2 f_power (aCons (eVar 3) (aCons (eCB fAbs (aCons (eBin oSub (eVar 2) (eVar 1)) aNil)) aNil))) aNil)))))
theorem ok_spread_share {P : Program} {w : World} {K : PySem.W.Frag} {mg : PySem.Str → Option Value} {base : Heap} {f : Addr} {fd : FuncData} {f_times f_answer_share f_power : FM} (F : FnP K "spread_share" s_spread_share f fd) (gx : mg "spread_share" = some (.ref f)) (c_times : Cal P w K mg base "times" 2 ["x", "y"] f_times) (c_answer_share : Cal P w K mg base "answer_share" 4 ["top", "answer", "x"] f_answer_share) (c_power : Cal P w K mg base "power" 3 ["x", "k"] f_power) (k_ONE : Con K mg "ONE" q_ONE) (z_abs : mg "abs" = none) :
    Cal P w K mg base "spread_share" 5 ["top", "value", "answer", "x"] (runB 4 (m_spread_share f_times f_answer_share f_power)) :=
  cal_mk (k := 4) F sc_spread_share gx (fun _ _ _ _ _ _ us hl => match us, hl with | [_, _, _, _], _ => rfl) fun cdv A outer s H E hr tk hp =>
    (sx_cons (sx_if (et_cmp (m_eq hr.units) (xv 0) ex_int (nomark _)) (sx_one (sx_ret (ex_con k_ONE))) sx_nil)
    (sx_one (sx_ret (ex_c1 c_times tk hr (by decide) (ea_cons (ex_c1 c_answer_share tk hr (by decide) (ea_cons (xv 0) (ea_cons (xv 2) (ea_cons (xv 3) ea_nil)))) (ea_cons (ex_c1 c_power tk hr (by decide) (ea_cons (xv 3) (ea_cons (ex_callB c_abs (by rfl) z_abs bt_abs (ea_cons (ex_op m_sub (xv 2) (xv 1)) ea_nil)) ea_nil))) ea_nil))))))
def N_spread_chances : List PySem.Str := ["top", "value", "p", "q", "x", "answer"]
theorem sc_spread_chances : FnScope N_spread_chances ["top", "value", "p", "q"] (defScope s_spread_chances) := ⟨rfl, rfl, rfl, by decide +kernel, rfl, by decide +kernel, by decide +kernel⟩
def m_spread_chances (f_ratio : FM) (f_spread_share : FM) : SM := (sSeq (sSet 4 (eCall 2 f_ratio (aCons (eVar 2) (aCons (eVar 3) aNil))))
    (sRet (eCS gTuple (lComp [5] (iRg1 (eBin oAdd (eVar 0) (eC (.int 1)))) (gN 5) tYes (eCall 4 f_spread_share (aCons (eVar 0) (aCons (eVar 1) (aCons (eVar 5) (aCons (eVar 4) aNil)))))))))
theorem ok_spread_chances {P : Program} {w : World} {K : PySem.W.Frag} {mg : PySem.Str → Option Value} {base : Heap} {f : Addr} {fd : FuncData} {f_ratio f_spread_share : FM} (F : FnP K "spread_chances" s_spread_chances f fd) (gx : mg "spread_chances" = some (.ref f)) (c_ratio : Cal P w K mg base "ratio" 1 ["n", "d"] f_ratio) (c_spread_share : Cal P w K mg base "spread_share" 5 ["top", "value", "answer", "x"] f_spread_share) (z_range : mg "range" = none) (z_tuple : mg "tuple" = none) :
    Cal P w K mg base "spread_chances" 6 ["top", "value", "p", "q"] (runB 6 (m_spread_chances f_ratio f_spread_share)) :=
  cal_mk (k := 5) F sc_spread_chances gx (fun _ _ _ _ _ _ us hl => match us, hl with | [_, _, _, _], _ => rfl) fun cdv A outer s H E hr tk hp =>
    (sx_cons (sx_set sc_spread_chances.nd (ex_c1 c_ratio tk hr (by decide) (ea_cons (xv 2) (ea_cons (xv 3) ea_nil))))
    (sx_one (sx_ret (ex_callTs s_tuple (by rfl) z_tuple bt_tuple (es_el (el_comp (own := [(("answer" : PySem.Str), 5)]) (by rfl) sc_spread_chances.nd (ei_range1 (by rfl) z_range (ex_op m_add (xv 0) ex_int)) (blkOk_by (N := N_spread_chances) (sc := (defScope s_spread_chances)) (by decide +kernel)) (fun _ _ _ _ _ => (eg_name sc_spread_chances.nd)) (fun _ _ _ _ _ => ets_nil) (fun _ _ _ _ _ => (ex_c1 c_spread_share tk0 hr (by decide) (ea_cons (xv 0) (ea_cons (xv 1) (ea_cons (xv 5) (ea_cons (xv 4) ea_nil))))))))))))
def N_spread_row : List PySem.Str := ["top", "value", "p", "q"]
theorem sc_spread_row : FnScope N_spread_row ["top", "value", "p", "q"] (defScope s_spread_row) := ⟨rfl, rfl, rfl, by decide +kernel, rfl, by decide +kernel, by decide +kernel⟩
def m_spread_row (f_lowest : FM) (f_spread_chances : FM) : SM := (sRet (eCall 1 f_lowest (aCons (eCall 4 f_spread_chances (aCons (eVar 0) (aCons (eVar 1) (aCons (eVar 2) (aCons (eVar 3) aNil))))) aNil)))
theorem ok_spread_row {P : Program} {w : World} {K : PySem.W.Frag} {mg : PySem.Str → Option Value} {base : Heap} {f : Addr} {fd : FuncData} {f_lowest f_spread_chances : FM} (F : FnP K "spread_row" s_spread_row f fd) (gx : mg "spread_row" = some (.ref f)) (c_lowest : Cal P w K mg base "lowest" 2 ["row"] f_lowest) (c_spread_chances : Cal P w K mg base "spread_chances" 6 ["top", "value", "p", "q"] f_spread_chances) :
    Cal P w K mg base "spread_row" 7 ["top", "value", "p", "q"] (runB 4 (m_spread_row f_lowest f_spread_chances)) :=
  cal_mk (k := 6) F sc_spread_row gx (fun _ _ _ _ _ _ us hl => match us, hl with | [_, _, _, _], _ => rfl) fun cdv A outer s H E hr tk hp =>
    (sx_one (sx_ret (ex_c1 c_lowest tk hr (by decide) (ea_cons (ex_c1 c_spread_chances tk hr (by decide) (ea_cons (xv 0) (ea_cons (xv 1) (ea_cons (xv 2) (ea_cons (xv 3) ea_nil))))) ea_nil))))
def N_spread_rows : List PySem.Str := ["top", "p", "q", "value"]
theorem sc_spread_rows : FnScope N_spread_rows ["top", "p", "q"] (defScope s_spread_rows) := ⟨rfl, rfl, rfl, by decide +kernel, rfl, by decide +kernel, by decide +kernel⟩
def m_spread_rows (f_spread_row : FM) : SM := (sRet (eCS gTuple (lComp [3] (iRg1 (eBin oAdd (eVar 0) (eC (.int 1)))) (gN 3) tYes (eCall 4 f_spread_row (aCons (eVar 0) (aCons (eVar 3) (aCons (eVar 1) (aCons (eVar 2) aNil))))))))
theorem ok_spread_rows {P : Program} {w : World} {K : PySem.W.Frag} {mg : PySem.Str → Option Value} {base : Heap} {f : Addr} {fd : FuncData} {f_spread_row : FM} (F : FnP K "spread_rows" s_spread_rows f fd) (gx : mg "spread_rows" = some (.ref f)) (c_spread_row : Cal P w K mg base "spread_row" 7 ["top", "value", "p", "q"] f_spread_row) (z_range : mg "range" = none) (z_tuple : mg "tuple" = none) :
    Cal P w K mg base "spread_rows" 8 ["top", "p", "q"] (runB 4 (m_spread_rows f_spread_row)) :=
  cal_mk (k := 7) F sc_spread_rows gx (fun _ _ _ _ _ _ us hl => match us, hl with | [_, _, _], _ => rfl) fun cdv A outer s H E hr tk hp =>
    (sx_one (sx_ret (ex_callTs s_tuple (by rfl) z_tuple bt_tuple (es_el (el_comp (own := [(("value" : PySem.Str), 3)]) (by rfl) sc_spread_rows.nd (ei_range1 (by rfl) z_range (ex_op m_add (xv 0) ex_int)) (blkOk_by (N := N_spread_rows) (sc := (defScope s_spread_rows)) (by decide +kernel)) (fun _ _ _ _ _ => (eg_name sc_spread_rows.nd)) (fun _ _ _ _ _ => ets_nil) (fun _ _ _ _ _ => (ex_c1 c_spread_row tk0 hr (by decide) (ea_cons (xv 0) (ea_cons (xv 3) (ea_cons (xv 1) (ea_cons (xv 2) ea_nil)))))))))))
def N_factor_of : List PySem.Str := ["share", "less"]
theorem sc_factor_of : FnScope N_factor_of ["share", "less"] (defScope s_factor_of) := ⟨rfl, rfl, rfl, by decide +kernel, rfl, by decide +kernel, by decide +kernel⟩
def m_factor_of (f_over : FM) : SM := (sSeq (sIf (tBl (eBin oEq (eBin oIx (eVar 1) (eC (.int 0))) (eC (.int 0)))) (sRet (eC .non)) sNil)
    (sRet (eCall 2 f_over (aCons (eVar 0) (aCons (eVar 1) aNil)))))
theorem ok_factor_of {P : Program} {w : World} {K : PySem.W.Frag} {mg : PySem.Str → Option Value} {base : Heap} {f : Addr} {fd : FuncData} {f_over : FM} (F : FnP K "factor_of" s_factor_of f fd) (gx : mg "factor_of" = some (.ref f)) (c_over : Cal P w K mg base "over" 2 ["x", "y"] f_over) :
    Cal P w K mg base "factor_of" 3 ["share", "less"] (runB 2 (m_factor_of f_over)) :=
  cal_mk (k := 2) F sc_factor_of gx (fun _ _ _ _ _ _ us hl => match us, hl with | [_, _], _ => rfl) fun cdv A outer s H E hr tk hp =>
    (sx_cons (sx_if (et_cmp (m_eq hr.units) (ex_ix m_ix (xv 1) ex_int) ex_int (nomark _)) (sx_one (sx_ret ex_non)) sx_nil)
    (sx_one (sx_ret (ex_c1 c_over tk hr (by decide) (ea_cons (xv 0) (ea_cons (xv 1) ea_nil))))))
def N_greater_loss : List PySem.Str := ["loss", "other"]
theorem sc_greater_loss : FnScope N_greater_loss ["loss", "other"] (defScope s_greater_loss) := ⟨rfl, rfl, rfl, by decide +kernel, rfl, by decide +kernel, by decide +kernel⟩
def m_greater_loss (f_is_below : FM) : SM := (sSeq (sIf (tOr (tBl (eBin oIs (eVar 0) (eC .non))) (tBl (eBin oIs (eVar 1) (eC .non)))) (sRet (eC .non)) sNil)
    (sSeq (sIf (tVal (eCall 2 f_is_below (aCons (eVar 0) (aCons (eVar 1) aNil)))) (sRet (eVar 1)) sNil)
    (sRet (eVar 0))))
theorem ok_greater_loss {P : Program} {w : World} {K : PySem.W.Frag} {mg : PySem.Str → Option Value} {base : Heap} {f : Addr} {fd : FuncData} {f_is_below : FM} (F : FnP K "greater_loss" s_greater_loss f fd) (gx : mg "greater_loss" = some (.ref f)) (c_is_below : Cal P w K mg base "is_below" 1 ["x", "y"] f_is_below) :
    Cal P w K mg base "greater_loss" 2 ["loss", "other"] (runB 2 (m_greater_loss f_is_below)) :=
  cal_mk (k := 1) F sc_greater_loss gx (fun _ _ _ _ _ _ us hl => match us, hl with | [_, _], _ => rfl) fun cdv A outer s H E hr tk hp =>
    (sx_cons (sx_if (Ew.et (ew_or (et_cmp m_is (xv 0) ex_non (nomark _)) (ew_or1 (et_cmp m_is (xv 1) ex_non (nomark _))))) (sx_one (sx_ret ex_non)) sx_nil)
    (sx_cons (sx_if (et_val (ex_c1 c_is_below tk hr (by decide) (ea_cons (xv 0) (ea_cons (xv 1) ea_nil)))) (sx_one (sx_ret (xv 1))) sx_nil)
    (sx_one (sx_ret (xv 0)))))
def N_row_loss : List PySem.Str := ["row", "other", "loss", "share", "less"]
theorem sc_row_loss : FnScope N_row_loss ["row", "other"] (defScope s_row_loss) := ⟨rfl, rfl, rfl, by decide +kernel, rfl, by decide +kernel, by decide +kernel⟩
def m_row_loss (f_chances : FM) (f_greater_loss : FM) (f_factor_of : FM) : SM := (sSeq (sSet 2 (eC q_ONE))
    (sSeq (sFor (iZip (eCall 1 f_chances (aCons (eVar 0) aNil)) (eCall 1 f_chances (aCons (eVar 1) aNil))) (gT 2 (gCs 3 (gCs 4 gNil0))) (sIf (tBl (eBin oGt (eBin oIx (eVar 3) (eC (.int 0))) (eC (.int 0)))) (sSet 2 (eCall 2 f_greater_loss (aCons (eVar 2) (aCons (eCall 2 f_factor_of (aCons (eVar 3) (aCons (eVar 4) aNil))) aNil)))) sNil))
    (sRet (eVar 2))))
theorem ok_row_loss {P : Program} {w : World} {K : PySem.W.Frag} {mg : PySem.Str → Option Value} {base : Heap} {f : Addr} {fd : FuncData} {f_chances f_greater_loss f_factor_of : FM} (F : FnP K "row_loss" s_row_loss f fd) (gx : mg "row_loss" = some (.ref f)) (c_chances : Cal P w K mg base "chances" 2 ["weights"] f_chances) (c_greater_loss : Cal P w K mg base "greater_loss" 2 ["loss", "other"] f_greater_loss) (c_factor_of : Cal P w K mg base "factor_of" 3 ["share", "less"] f_factor_of) (k_ONE : Con K mg "ONE" q_ONE) (z_zip : mg "zip" = none) :
    Cal P w K mg base "row_loss" 4 ["row", "other"] (runB 5 (m_row_loss f_chances f_greater_loss f_factor_of)) :=
  cal_mk (k := 3) F sc_row_loss gx (fun _ _ _ _ _ _ us hl => match us, hl with | [_, _], _ => rfl) fun cdv A outer s H E hr tk hp =>
    (sx_cons (sx_set sc_row_loss.nd (ex_con k_ONE))
    (sx_cons (sx_for hp (by rfl) (ei_zip (by rfl) z_zip (ex_c1 c_chances tk hr (by decide) (ea_cons (xv 0) ea_nil)) (ex_c1 c_chances tk hr (by decide) (ea_cons (xv 1) ea_nil))) (eg_tup (by rfl) (egs_cons sc_row_loss.nd (egs_cons sc_row_loss.nd egs_nil))) (sx_one (sx_if (et_cmp m_gt (ex_ix m_ix (xv 3) ex_int) ex_int (nomark _)) (sx_one (sx_set sc_row_loss.nd (ex_c1 c_greater_loss tk hr (by decide) (ea_cons (xv 2) (ea_cons (ex_c1 c_factor_of tk hr (by decide) (ea_cons (xv 3) (ea_cons (xv 4) ea_nil))) ea_nil))))) sx_nil)))
    (sx_one (sx_ret (xv 2)))))
def N_rows_loss : List PySem.Str := ["rows", "pairs", "loss", "first", "second"]
theorem sc_rows_loss : FnScope N_rows_loss ["rows", "pairs"] (defScope s_rows_loss) := ⟨rfl, rfl, rfl, by decide +kernel, rfl, by decide +kernel, by decide +kernel⟩
def m_rows_loss (f_greater_loss : FM) (f_row_loss : FM) : SM := (sSeq (sSet 2 (eC q_ONE))
    (sSeq (sFor (iEx (eVar 1)) (gT 2 (gCs 3 (gCs 4 gNil0))) (sSet 2 (eCall 2 f_greater_loss (aCons (eVar 2) (aCons (eCall 2 f_row_loss (aCons (eBin oIx (eVar 0) (eVar 3)) (aCons (eBin oIx (eVar 0) (eVar 4)) aNil))) aNil)))))
    (sRet (eVar 2))))
theorem ok_rows_loss {P : Program} {w : World} {K : PySem.W.Frag} {mg : PySem.Str → Option Value} {base : Heap} {f : Addr} {fd : FuncData} {f_greater_loss f_row_loss : FM} (F : FnP K "rows_loss" s_rows_loss f fd) (gx : mg "rows_loss" = some (.ref f)) (c_greater_loss : Cal P w K mg base "greater_loss" 2 ["loss", "other"] f_greater_loss) (c_row_loss : Cal P w K mg base "row_loss" 4 ["row", "other"] f_row_loss) (k_ONE : Con K mg "ONE" q_ONE) :
    Cal P w K mg base "rows_loss" 5 ["rows", "pairs"] (runB 5 (m_rows_loss f_greater_loss f_row_loss)) :=
  cal_mk (k := 4) F sc_rows_loss gx (fun _ _ _ _ _ _ us hl => match us, hl with | [_, _], _ => rfl) fun cdv A outer s H E hr tk hp =>
    (sx_cons (sx_set sc_rows_loss.nd (ex_con k_ONE))
    (sx_cons (sx_for hp (by rfl) (ei_ex (xv 1)) (eg_tup (by rfl) (egs_cons sc_rows_loss.nd (egs_cons sc_rows_loss.nd egs_nil))) (sx_one (sx_set sc_rows_loss.nd (ex_c1 c_greater_loss tk hr (by decide) (ea_cons (xv 2) (ea_cons (ex_c1 c_row_loss tk hr (by decide) (ea_cons (ex_ix m_ix (xv 0) (xv 3)) (ea_cons (ex_ix m_ix (xv 0) (xv 4)) ea_nil))) ea_nil))))))
    (sx_one (sx_ret (xv 2)))))
def N__law_begin : List PySem.Str := ["script", "cell"]
theorem sc__law_begin : FnScope N__law_begin ["script"] (defScope s__law_begin) := ⟨rfl, rfl, rfl, by decide +kernel, rfl, by decide +kernel, by decide +kernel⟩
def m__law_begin : SM := (sRet (eLst (aCons (eEl (lComp [1] (iEx (eVar 0)) (gN 1) tYes (eCB fInt (aCons (eVar 1) aNil)))) (aCons (eC (.int 0)) (aCons (eC (.int 0)) (aCons (eC (.int 7)) aNil))))))
theorem ok__law_begin {P : Program} {w : World} {K : PySem.W.Frag} {mg : PySem.Str → Option Value} {base : Heap} {f : Addr} {fd : FuncData} (F : FnP K "_law_begin" s__law_begin f fd) (gx : mg "_law_begin" = some (.ref f)) (z_int : mg "int" = none) :
    Cal P w K mg base "_law_begin" 1 ["script"] (runB 2 (m__law_begin)) :=
  cal_mk (k := 0) F sc__law_begin gx (fun _ _ _ _ _ _ us hl => match us, hl with | [_], _ => rfl) fun cdv A outer s H E hr tk hp =>
    (sx_one (sx_ret (ex_lst (ea_cons (ex_el (el_comp (own := [(("cell" : PySem.Str), 1)]) (by rfl) sc__law_begin.nd (ei_ex (xv 0)) (blkOk_by (N := N__law_begin) (sc := (defScope s__law_begin)) (by decide +kernel)) (fun _ _ _ _ _ => (eg_name sc__law_begin.nd)) (fun _ _ _ _ _ => ets_nil) (fun _ _ _ _ _ => (ex_callT c_int (by rfl) z_int bt_int (ea_cons (xv 1) ea_nil))))) (ea_cons ex_int (ea_cons ex_int (ea_cons ex_int ea_nil)))))))
def N__law_draw : List PySem.Str := ["d", "many", "found", "size", "cell"]
theorem sc__law_draw : FnScope N__law_draw ["d", "many"] (defScope s__law_draw) := ⟨rfl, rfl, rfl, by decide +kernel, rfl, by decide +kernel, by decide +kernel⟩
def m__law_draw : SM := (sSeq (sIf (tBl (eBin oGt (eBin oIx (eVar 0) (eC (.int 2))) (eC (.int 0)))) (sSeq (sSet 2 (eBin oIx (eVar 0) (eC (.int 2))))
    (sSeq (sSub (eVar 0) (eC (.int 2)) (eBin oDiv (eVar 2) (eVar 1)))
    (sRet (eBin oMod (eCB fInt (aCons (eVar 2) aNil)) (eVar 1))))) sNil)
    (sSeq (sSet 3 (eC (.int 0)))
    (sSeq (sIf (tBl (eBin oLt (eBin oIx (eVar 0) (eC (.int 1))) (eCB fLen (aCons (eBin oIx (eVar 0) (eC (.int 0))) aNil)))) (sSeq (sSet 4 (eBin oIx (eBin oIx (eVar 0) (eC (.int 0))) (eBin oIx (eVar 0) (eC (.int 1)))))
    (sSet 3 (eBin oAdd (eBin oMul (eC (.int 2)) (eCB fAbs (aCons (eVar 4) aNil))) (eCB fInt (aCons (eBin oLt (eVar 4) (eC (.int 0))) aNil))))) sNil)
    (sSeq (sAugS oIAdd (eVar 0) (eC (.int 1)) (eC (.int 1)))
    (sSeq (sIf (tBl (eBin oGe (eVar 3) (eBin oMul (eC (.int 2)) (eBin oPow (eC (.int 10)) (eC (.int 18)))))) (sSeq (sSet 2 (eBin oMod (eCB fInt (aCons (eBin oDiv (eVar 3) (eC (.int 2))) aNil)) (eBin oShl (eC (.int 1)) (eC (.int 6000)))))
    (sSeq (sSub (eVar 0) (eC (.int 2)) (eBin oDiv (eVar 2) (eVar 1)))
    (sRet (eBin oMod (eCB fInt (aCons (eVar 2) aNil)) (eVar 1))))) sNil)
    (sSeq (sSub (eVar 0) (eC (.int 3)) (eBin oMod (eCB fInt (aCons (eBin oAdd (eBin oAdd (eBin oAdd (eBin oMul (eBin oIx (eVar 0) (eC (.int 3))) (eC (.int 48271))) (eBin oMul (eBin oMod (eCB fInt (aCons (eVar 3) aNil)) (eC (.int 2147483629))) (eC (.int 16807)))) (eBin oMul (eBin oIx (eVar 0) (eC (.int 1))) (eC (.int 69621)))) (eC (.int 11))) aNil)) (eC (.int 2147483647))))
    (sRet (eBin oMod (eCB fInt (aCons (eBin oDiv (eBin oIx (eVar 0) (eC (.int 3))) (eC (.int 16))) aNil)) (eVar 1)))))))))
theorem ok__law_draw {P : Program} {w : World} {K : PySem.W.Frag} {mg : PySem.Str → Option Value} {base : Heap} {f : Addr} {fd : FuncData} (F : FnP K "_law_draw" s__law_draw f fd) (gx : mg "_law_draw" = some (.ref f)) (z_int : mg "int" = none) (z_len : mg "len" = none) (z_abs : mg "abs" = none) :
    Cal P w K mg base "_law_draw" 1 ["d", "many"] (runB 5 (m__law_draw)) :=
  cal_mk (k := 0) F sc__law_draw gx (fun _ _ _ _ _ _ us hl => match us, hl with | [_, _], _ => rfl) fun cdv A outer s H E hr tk hp =>
    (sx_cons (sx_if (et_cmp m_gt (ex_ix m_ix (xv 0) ex_int) ex_int (nomark _)) (sx_cons (sx_set sc__law_draw.nd (ex_ix m_ix (xv 0) ex_int))
    (sx_cons (sx_sub (ex_op m_div (xv 2) (xv 1)) (xv 0) ex_int)
    (sx_one (sx_ret (ex_op m_mod (ex_callT c_int (by rfl) z_int bt_int (ea_cons (xv 2) ea_nil)) (xv 1)))))) sx_nil)
    (sx_cons (sx_set sc__law_draw.nd ex_int)
    (sx_cons (sx_if (et_cmp m_lt (ex_ix m_ix (xv 0) ex_int) (ex_callB c_len (by rfl) z_len bt_len (ea_cons (ex_ix m_ix (xv 0) ex_int) ea_nil)) (nomark _)) (sx_cons (sx_set sc__law_draw.nd (ex_ix m_ix (ex_ix m_ix (xv 0) ex_int) (ex_ix m_ix (xv 0) ex_int)))
    (sx_one (sx_set sc__law_draw.nd (ex_op m_add (ex_op m_mul ex_int (ex_callB c_abs (by rfl) z_abs bt_abs (ea_cons (xv 4) ea_nil))) (ex_callT c_int (by rfl) z_int bt_int (ea_cons (ex_cmp m_lt (xv 4) ex_int (nomark _)) ea_nil)))))) sx_nil)
    (sx_cons (sx_augS (xv 0) ex_int ex_int mi_add)
    (sx_cons (sx_if (et_cmp m_ge (xv 3) (ex_op m_mul ex_int (ex_op m_pow ex_int ex_int)) (nomark _)) (sx_cons (sx_set sc__law_draw.nd (ex_op m_mod (ex_callT c_int (by rfl) z_int bt_int (ea_cons (ex_op m_div (xv 3) ex_int) ea_nil)) (ex_op m_shl ex_int ex_int)))
    (sx_cons (sx_sub (ex_op m_div (xv 2) (xv 1)) (xv 0) ex_int)
    (sx_one (sx_ret (ex_op m_mod (ex_callT c_int (by rfl) z_int bt_int (ea_cons (xv 2) ea_nil)) (xv 1)))))) sx_nil)
    (sx_cons (sx_sub (ex_op m_mod (ex_callT c_int (by rfl) z_int bt_int (ea_cons (ex_op m_add (ex_op m_add (ex_op m_add (ex_op m_mul (ex_ix m_ix (xv 0) ex_int) ex_int) (ex_op m_mul (ex_op m_mod (ex_callT c_int (by rfl) z_int bt_int (ea_cons (xv 3) ea_nil)) ex_int) ex_int)) (ex_op m_mul (ex_ix m_ix (xv 0) ex_int) ex_int)) ex_int) ea_nil)) ex_int) (xv 0) ex_int)
    (sx_one (sx_ret (ex_op m_mod (ex_callT c_int (by rfl) z_int bt_int (ea_cons (ex_op m_div (ex_ix m_ix (xv 0) ex_int) ex_int) ea_nil)) (xv 1))))))))))
def N__law_pick : List PySem.Str := ["d", "row"]
theorem sc__law_pick : FnScope N__law_pick ["d", "row"] (defScope s__law_pick) := ⟨rfl, rfl, rfl, by decide +kernel, rfl, by decide +kernel, by decide +kernel⟩
def m__law_pick (f__law_draw : FM) : SM := (sRet (eBin oIx (eVar 1) (eCall 2 f__law_draw (aCons (eVar 0) (aCons (eCB fLen (aCons (eVar 1) aNil)) aNil)))))
theorem ok__law_pick {P : Program} {w : World} {K : PySem.W.Frag} {mg : PySem.Str → Option Value} {base : Heap} {f : Addr} {fd : FuncData} {f__law_draw : FM} (F : FnP K "_law_pick" s__law_pick f fd) (gx : mg "_law_pick" = some (.ref f)) (c__law_draw : Cal P w K mg base "_law_draw" 1 ["d", "many"] f__law_draw) (z_len : mg "len" = none) :
    Cal P w K mg base "_law_pick" 2 ["d", "row"] (runB 2 (m__law_pick f__law_draw)) :=
  cal_mk (k := 1) F sc__law_pick gx (fun _ _ _ _ _ _ us hl => match us, hl with | [_, _], _ => rfl) fun cdv A outer s H E hr tk hp =>
    (sx_one (sx_ret (ex_ix m_ix (xv 1) (ex_c1 c__law_draw tk hr (by decide) (ea_cons (xv 0) (ea_cons (ex_callB c_len (by rfl) z_len bt_len (ea_cons (xv 1) ea_nil)) ea_nil))))))
def N__law_is_int : List PySem.Str := ["thing"]
theorem sc__law_is_int : FnScope N__law_is_int ["thing"] (defScope s__law_is_int) := ⟨rfl, rfl, rfl, by decide +kernel, rfl, by decide +kernel, by decide +kernel⟩
def m__law_is_int : SM := (sRet (eAnd (eCB fIsi (aCons (eVar 0) (aCons (eC (.ty "int")) aNil))) (eNot (eCB fIsi (aCons (eVar 0) (aCons (eC (.ty "bool")) aNil))))))
theorem ok__law_is_int {P : Program} {w : World} {K : PySem.W.Frag} {mg : PySem.Str → Option Value} {base : Heap} {f : Addr} {fd : FuncData} (F : FnP K "_law_is_int" s__law_is_int f fd) (gx : mg "_law_is_int" = some (.ref f)) (z_int : mg "int" = none) (z_isinstance : mg "isinstance" = none) (z_bool : mg "bool" = none) :
    Cal P w K mg base "_law_is_int" 1 ["thing"] (runB 1 (m__law_is_int)) :=
  cal_mk (k := 0) F sc__law_is_int gx (fun _ _ _ _ _ _ us hl => match us, hl with | [_], _ => rfl) fun cdv A outer s H E hr tk hp =>
    (sx_one (sx_ret (ex_and (ex_callB c_isi (by rfl) z_isinstance bt_isinstance (ea_cons (xv 0) (ea_cons (ex_bltn (by rfl) z_int bt_int (by rfl) (fun _ _ => .ty _)) ea_nil))) (ex_one (ex_not (ex_callB c_isi (by rfl) z_isinstance bt_isinstance (ea_cons (xv 0) (ea_cons (ex_bltn (by rfl) z_bool bt_bool (by rfl) (fun _ _ => .ty _)) ea_nil))))))))
def N__law_is_ints : List PySem.Str := ["row", "part"]
theorem sc__law_is_ints : FnScope N__law_is_ints ["row"] (defScope s__law_is_ints) := ⟨rfl, rfl, rfl, by decide +kernel, rfl, by decide +kernel, by decide +kernel⟩
def m__law_is_ints (f__law_is_int : FM) : SM := (sRet (eAnd (eCB fIsi (aCons (eVar 0) (aCons (eC (.ty "tuple")) aNil))) (eCS gAllB (lComp [1] (iEx (eVar 0)) (gN 1) tYes (eCall 1 f__law_is_int (aCons (eVar 1) aNil))))))
theorem ok__law_is_ints {P : Program} {w : World} {K : PySem.W.Frag} {mg : PySem.Str → Option Value} {base : Heap} {f : Addr} {fd : FuncData} {f__law_is_int : FM} (F : FnP K "_law_is_ints" s__law_is_ints f fd) (gx : mg "_law_is_ints" = some (.ref f)) (c__law_is_int : Cal P w K mg base "_law_is_int" 1 ["thing"] f__law_is_int) (z_tuple : mg "tuple" = none) (z_isinstance : mg "isinstance" = none) (z_all : mg "all" = none) :
    Cal P w K mg base "_law_is_ints" 2 ["row"] (runB 2 (m__law_is_ints f__law_is_int)) :=
  cal_mk (k := 1) F sc__law_is_ints gx (fun _ _ _ _ _ _ us hl => match us, hl with | [_], _ => rfl) fun cdv A outer s H E hr tk hp =>
    (sx_one (sx_ret (ex_and (ex_callB c_isi (by rfl) z_isinstance bt_isinstance (ea_cons (xv 0) (ea_cons (ex_bltn (by rfl) z_tuple bt_tuple (by rfl) (fun _ _ => .ty _)) ea_nil))) (ex_one (ex_callBl (s_all (by rfl)) (by rfl) z_all bt_all (esl_el (el_comp (own := [(("part" : PySem.Str), 1)]) (by rfl) sc__law_is_ints.nd (ei_ex (xv 0)) (blkOk_by (N := N__law_is_ints) (sc := (defScope s__law_is_ints)) (by decide +kernel)) (fun _ _ _ _ _ => (eg_name sc__law_is_ints.nd)) (fun _ _ _ _ _ => ets_nil) (fun _ _ _ _ _ => (ex_c1 c__law_is_int tk0 hr (by decide) (ea_cons (xv 1) ea_nil))))))))))
def N__law_gcd : List PySem.Str := ["left", "right", "a", "b", "c"]
theorem sc__law_gcd : FnScope N__law_gcd ["left", "right"] (defScope s__law_gcd) := ⟨rfl, rfl, rfl, by decide +kernel, rfl, by decide +kernel, by decide +kernel⟩
def m__law_gcd : SM := (sSeq (sSet 2 (eCB fAbs (aCons (eVar 0) aNil)))
    (sSeq (sSet 3 (eCB fAbs (aCons (eVar 1) aNil)))
    (sSeq (whileN (tBl (eBin oGt (eVar 3) (eC (.int 0)))) (sSeq (sSet 4 (eBin oMod (eCB fInt (aCons (eVar 2) aNil)) (eVar 3)))
    (sSeq (sSet 2 (eVar 3))
    (sSet 3 (eVar 4)))) big)
    (sRet (eVar 2)))))
theorem ok__law_gcd {P : Program} {w : World} {K : PySem.W.Frag} {mg : PySem.Str → Option Value} {base : Heap} {f : Addr} {fd : FuncData} (F : FnP K "_law_gcd" s__law_gcd f fd) (gx : mg "_law_gcd" = some (.ref f)) (z_abs : mg "abs" = none) (z_int : mg "int" = none) :
    Cal P w K mg base "_law_gcd" 1 ["left", "right"] (runB 5 (m__law_gcd)) :=
  cal_mk (k := 0) F sc__law_gcd gx (fun _ _ _ _ _ _ us hl => match us, hl with | [_, _], _ => rfl) fun cdv A outer s H E hr tk hp =>
    (sx_cons (sx_set sc__law_gcd.nd (ex_callB c_abs (by rfl) z_abs bt_abs (ea_cons (xv 0) ea_nil)))
    (sx_cons (sx_set sc__law_gcd.nd (ex_callB c_abs (by rfl) z_abs bt_abs (ea_cons (xv 1) ea_nil)))
    (sx_cons (sx_while big hp (et_cmp m_gt (xv 3) ex_int (nomark _)) (sx_cons (sx_set sc__law_gcd.nd (ex_op m_mod (ex_callT c_int (by rfl) z_int bt_int (ea_cons (xv 2) ea_nil)) (xv 3)))
    (sx_cons (sx_set sc__law_gcd.nd (xv 3))
    (sx_one (sx_set sc__law_gcd.nd (xv 4))))))
    (sx_one (sx_ret (xv 2))))))
def N__law_f : List PySem.Str := ["n", "d", "common"]
theorem sc__law_f : FnScope N__law_f ["n", "d"] (defScope s__law_f) := ⟨rfl, rfl, rfl, by decide +kernel, rfl, by decide +kernel, by decide +kernel⟩
def m__law_f (f__law_gcd : FM) : SM := (sSeq (sSet 2 (eCall 2 f__law_gcd (aCons (eVar 0) (aCons (eVar 1) aNil))))
    (sSeq (sIf (tBl (eBin oLt (eVar 1) (eC (.int 0)))) (sSet 2 (eUn oNeg (eVar 2))) sNil)
    (sRet (eTup (aCons (eBin oDiv (eVar 0) (eVar 2)) (aCons (eBin oDiv (eVar 1) (eVar 2)) aNil))))))
theorem ok__law_f {P : Program} {w : World} {K : PySem.W.Frag} {mg : PySem.Str → Option Value} {base : Heap} {f : Addr} {fd : FuncData} {f__law_gcd : FM} (F : FnP K "_law_f" s__law_f f fd) (gx : mg "_law_f" = some (.ref f)) (c__law_gcd : Cal P w K mg base "_law_gcd" 1 ["left", "right"] f__law_gcd) :
    Cal P w K mg base "_law_f" 2 ["n", "d"] (runB 3 (m__law_f f__law_gcd)) :=
  cal_mk (k := 1) F sc__law_f gx (fun _ _ _ _ _ _ us hl => match us, hl with | [_, _], _ => rfl) fun cdv A outer s H E hr tk hp =>
    (sx_cons (sx_set sc__law_f.nd (ex_c1 c__law_gcd tk hr (by decide) (ea_cons (xv 0) (ea_cons (xv 1) ea_nil))))
    (sx_cons (sx_if (et_cmp m_lt (xv 1) ex_int (nomark _)) (sx_one (sx_set sc__law_f.nd (ex_un m_neg (xv 2)))) sx_nil)
    (sx_one (sx_ret (ex_tup (ea_cons (ex_op m_div (xv 0) (xv 2)) (ea_cons (ex_op m_div (xv 1) (xv 2)) ea_nil)))))))
def N__law_is_frac : List PySem.Str := ["thing"]
theorem sc__law_is_frac : FnScope N__law_is_frac ["thing"] (defScope s__law_is_frac) := ⟨rfl, rfl, rfl, by decide +kernel, rfl, by decide +kernel, by decide +kernel⟩
def m__law_is_frac (f__law_is_int : FM) (f__law_gcd : FM) : SM := (sSeq (sIf (tOr (HM.tNot (tVal (eCB fIsi (aCons (eVar 0) (aCons (eC (.ty "tuple")) aNil))))) (tBl (eBin oNe (eCB fLen (aCons (eVar 0) aNil)) (eC (.int 2))))) (sRet (eC (.bl false))) sNil)
    (sSeq (sIf (tOr (HM.tNot (tVal (eCall 1 f__law_is_int (aCons (eBin oIx (eVar 0) (eC (.int 0))) aNil)))) (HM.tNot (tVal (eCall 1 f__law_is_int (aCons (eBin oIx (eVar 0) (eC (.int 1))) aNil))))) (sRet (eC (.bl false))) sNil)
    (sRet (eAnd (eBin oGe (eBin oIx (eVar 0) (eC (.int 1))) (eC (.int 1))) (eBin oEq (eCall 2 f__law_gcd (aCons (eBin oIx (eVar 0) (eC (.int 0))) (aCons (eBin oIx (eVar 0) (eC (.int 1))) aNil))) (eC (.int 1)))))))
theorem ok__law_is_frac {P : Program} {w : World} {K : PySem.W.Frag} {mg : PySem.Str → Option Value} {base : Heap} {f : Addr} {fd : FuncData} {f__law_is_int f__law_gcd : FM} (F : FnP K "_law_is_frac" s__law_is_frac f fd) (gx : mg "_law_is_frac" = some (.ref f)) (c__law_is_int : Cal P w K mg base "_law_is_int" 1 ["thing"] f__law_is_int) (c__law_gcd : Cal P w K mg base "_law_gcd" 1 ["left", "right"] f__law_gcd) (z_tuple : mg "tuple" = none) (z_isinstance : mg "isinstance" = none) (z_len : mg "len" = none) :
    Cal P w K mg base "_law_is_frac" 2 ["thing"] (runB 1 (m__law_is_frac f__law_is_int f__law_gcd)) :=
  cal_mk (k := 1) F sc__law_is_frac gx (fun _ _ _ _ _ _ us hl => match us, hl with | [_], _ => rfl) fun cdv A outer s H E hr tk hp =>
    (sx_cons (sx_if (Ew.et (ew_or (et_not (et_val (ex_callB c_isi (by rfl) z_isinstance bt_isinstance (ea_cons (xv 0) (ea_cons (ex_bltn (by rfl) z_tuple bt_tuple (by rfl) (fun _ _ => .ty _)) ea_nil))))) (ew_or1 (et_cmp (m_ne hr.units) (ex_callB c_len (by rfl) z_len bt_len (ea_cons (xv 0) ea_nil)) ex_int (nomark _))))) (sx_one (sx_ret ex_bl)) sx_nil)
    (sx_cons (sx_if (Ew.et (ew_or (et_not (et_val (ex_c1 c__law_is_int tk hr (by decide) (ea_cons (ex_ix m_ix (xv 0) ex_int) ea_nil)))) (ew_or1 (et_not (et_val (ex_c1 c__law_is_int tk hr (by decide) (ea_cons (ex_ix m_ix (xv 0) ex_int) ea_nil))))))) (sx_one (sx_ret ex_bl)) sx_nil)
    (sx_one (sx_ret (ex_and (ex_cmp m_ge (ex_ix m_ix (xv 0) ex_int) ex_int (nomark _)) (ex_one (ex_cmp (m_eq hr.units) (ex_c1 c__law_gcd tk hr (by decide) (ea_cons (ex_ix m_ix (xv 0) ex_int) (ea_cons (ex_ix m_ix (xv 0) ex_int) ea_nil))) ex_int (nomark _))))))))
def N__law_is_ratio : List PySem.Str := ["thing"]
theorem sc__law_is_ratio : FnScope N__law_is_ratio ["thing"] (defScope s__law_is_ratio) := ⟨rfl, rfl, rfl, by decide +kernel, rfl, by decide +kernel, by decide +kernel⟩
def m__law_is_ratio (f__law_is_frac : FM) : SM := (sRet (eAnd (eCall 1 f__law_is_frac (aCons (eVar 0) aNil)) (eBin oGe (eBin oIx (eVar 0) (eC (.int 0))) (eC (.int 0)))))
theorem ok__law_is_ratio {P : Program} {w : World} {K : PySem.W.Frag} {mg : PySem.Str → Option Value} {base : Heap} {f : Addr} {fd : FuncData} {f__law_is_frac : FM} (F : FnP K "_law_is_ratio" s__law_is_ratio f fd) (gx : mg "_law_is_ratio" = some (.ref f)) (c__law_is_frac : Cal P w K mg base "_law_is_frac" 2 ["thing"] f__law_is_frac) :
    Cal P w K mg base "_law_is_ratio" 3 ["thing"] (runB 1 (m__law_is_ratio f__law_is_frac)) :=
  cal_mk (k := 2) F sc__law_is_ratio gx (fun _ _ _ _ _ _ us hl => match us, hl with | [_], _ => rfl) fun cdv A outer s H E hr tk hp =>
    (sx_one (sx_ret (ex_and (ex_c1 c__law_is_frac tk hr (by decide) (ea_cons (xv 0) ea_nil)) (ex_one (ex_cmp m_ge (ex_ix m_ix (xv 0) ex_int) ex_int (nomark _))))))
def N__law_powers : List PySem.Str := ["base", "most", "found", "k"]
theorem sc__law_powers : FnScope N__law_powers ["base", "most"] (defScope s__law_powers) := ⟨rfl, rfl, rfl, by decide +kernel, rfl, by decide +kernel, by decide +kernel⟩
def m__law_powers : SM := (sSeq (sSet 2 (eLst (aCons (eC (.int 1)) aNil)))
    (sSeq (sFor (iRg1 (eVar 1)) (gN 3) (sExpr (eM "list" mAppend (eVar 2) (aCons (eBin oMul (eBin oIx (eVar 2) (eVar 3)) (eVar 0)) aNil))))
    (sRet (eVar 2))))
theorem ok__law_powers {P : Program} {w : World} {K : PySem.W.Frag} {mg : PySem.Str → Option Value} {base : Heap} {f : Addr} {fd : FuncData} (F : FnP K "_law_powers" s__law_powers f fd) (gx : mg "_law_powers" = some (.ref f)) (z_range : mg "range" = none) :
    Cal P w K mg base "_law_powers" 1 ["base", "most"] (runB 4 (m__law_powers)) :=
  cal_mk (k := 0) F sc__law_powers gx (fun _ _ _ _ _ _ us hl => match us, hl with | [_, _], _ => rfl) fun cdv A outer s H E hr tk hp =>
    (sx_cons (sx_set sc__law_powers.nd (ex_lst (ea_cons ex_int ea_nil)))
    (sx_cons (sx_for hp (by rfl) (ei_range1 (by rfl) z_range (xv 1)) (eg_name sc__law_powers.nd) (sx_one (sx_expr (ex_m PySem.F.plainAttrs_list PySem.F.slot_list_append PySem.F.type_list_append me_append (xv 2) (ea_cons (ex_op m_mul (ex_ix m_ix (xv 2) (xv 3)) (xv 0)) ea_nil)))))
    (sx_one (sx_ret (xv 2)))))
def N__law_factor : List PySem.Str := ["d", "style", "m"]
theorem sc__law_factor : FnScope N__law_factor ["d"] (defScope s__law_factor) := ⟨rfl, rfl, rfl, by decide +kernel, rfl, by decide +kernel, by decide +kernel⟩
def m__law_factor (f__law_draw : FM) (f__law_pick : FM) : SM := (sSeq (sSet 1 (eCall 2 f__law_draw (aCons (eVar 0) (aCons (eC (.int 8)) aNil))))
    (sSeq (sIf (tBl (eBin oEq (eVar 1) (eC (.int 3)))) (sRet (eCall 2 f__law_pick (aCons (eVar 0) (aCons (eLst (aCons (eTup (aCons (eC (.int 1)) (aCons (eC (.int 2)) aNil))) (aCons (eTup (aCons (eC (.int 1)) (aCons (eC (.int 1000)) aNil))) (aCons (eTup (aCons (eC (.int 500)) (aCons (eC (.int 1000)) aNil))) (aCons (eTup (aCons (eC (.int 999)) (aCons (eC (.int 1000)) aNil))) aNil))))) aNil)))) sNil)
    (sSeq (sSet 2 (eBin oAdd (eC (.int 2)) (eCall 2 f__law_draw (aCons (eVar 0) (aCons (eIf (tOr (tBl (eBin oEq (eVar 1) (eC (.int 5)))) (tBl (eBin oEq (eVar 1) (eC (.int 6))))) (eC (.int 999)) (eC (.int 9))) aNil)))))
    (sRet (eTup (aCons (eBin oAdd (eC (.int 1)) (eCall 2 f__law_draw (aCons (eVar 0) (aCons (eBin oSub (eVar 2) (eC (.int 1))) aNil)))) (aCons (eVar 2) aNil)))))))
theorem ok__law_factor {P : Program} {w : World} {K : PySem.W.Frag} {mg : PySem.Str → Option Value} {base : Heap} {f : Addr} {fd : FuncData} {f__law_draw f__law_pick : FM} (F : FnP K "_law_factor" s__law_factor f fd) (gx : mg "_law_factor" = some (.ref f)) (c__law_draw : Cal P w K mg base "_law_draw" 1 ["d", "many"] f__law_draw) (c__law_pick : Cal P w K mg base "_law_pick" 2 ["d", "row"] f__law_pick) :
    Cal P w K mg base "_law_factor" 3 ["d"] (runB 3 (m__law_factor f__law_draw f__law_pick)) :=
  cal_mk (k := 2) F sc__law_factor gx (fun _ _ _ _ _ _ us hl => match us, hl with | [_], _ => rfl) fun cdv A outer s H E hr tk hp =>
    (sx_cons (sx_set sc__law_factor.nd (ex_c1 c__law_draw tk hr (by decide) (ea_cons (xv 0) (ea_cons ex_int ea_nil))))
    (sx_cons (sx_if (et_cmp (m_eq hr.units) (xv 1) ex_int (nomark _)) (sx_one (sx_ret (ex_c1 c__law_pick tk hr (by decide) (ea_cons (xv 0) (ea_cons (ex_lst (ea_cons (ex_tup (ea_cons ex_int (ea_cons ex_int ea_nil))) (ea_cons (ex_tup (ea_cons ex_int (ea_cons ex_int ea_nil))) (ea_cons (ex_tup (ea_cons ex_int (ea_cons ex_int ea_nil))) (ea_cons (ex_tup (ea_cons ex_int (ea_cons ex_int ea_nil))) ea_nil))))) ea_nil))))) sx_nil)
    (sx_cons (sx_set sc__law_factor.nd (ex_op m_add ex_int (ex_c1 c__law_draw tk hr (by decide) (ea_cons (xv 0) (ea_cons (ex_if (Ew.et (ew_or (et_cmp (m_eq hr.units) (xv 1) ex_int (nomark _)) (ew_or1 (et_cmp (m_eq hr.units) (xv 1) ex_int (nomark _))))) ex_int ex_int) ea_nil)))))
    (sx_one (sx_ret (ex_tup (ea_cons (ex_op m_add ex_int (ex_c1 c__law_draw tk hr (by decide) (ea_cons (xv 0) (ea_cons (ex_op m_sub (xv 2) ex_int) ea_nil)))) (ea_cons (xv 2) ea_nil))))))))
def N__law_is_lowest : List PySem.Str := ["row", "size", "common", "weight"]
theorem sc__law_is_lowest : FnScope N__law_is_lowest ["row", "size"] (defScope s__law_is_lowest) := ⟨rfl, rfl, rfl, by decide +kernel, rfl, by decide +kernel, by decide +kernel⟩
def m__law_is_lowest (f__law_is_ints : FM) (f__law_gcd : FM) : SM := (sSeq (sIf (tOr (HM.tNot (tVal (eCall 1 f__law_is_ints (aCons (eVar 0) aNil)))) (tBl (eBin oNe (eCB fLen (aCons (eVar 0) aNil)) (eVar 1)))) (sRet (eC (.bl false))) sNil)
    (sSeq (sSet 2 (eC (.int 0)))
    (sSeq (sFor (iEx (eVar 0)) (gN 3) (sSeq (sIf (tBl (eBin oLt (eVar 3) (eC (.int 0)))) (sRet (eC (.bl false))) sNil)
    (sSet 2 (eCall 2 f__law_gcd (aCons (eVar 2) (aCons (eVar 3) aNil))))))
    (sRet (eBin oEq (eVar 2) (eC (.int 1)))))))
theorem ok__law_is_lowest {P : Program} {w : World} {K : PySem.W.Frag} {mg : PySem.Str → Option Value} {base : Heap} {f : Addr} {fd : FuncData} {f__law_is_ints f__law_gcd : FM} (F : FnP K "_law_is_lowest" s__law_is_lowest f fd) (gx : mg "_law_is_lowest" = some (.ref f)) (c__law_is_ints : Cal P w K mg base "_law_is_ints" 2 ["row"] f__law_is_ints) (c__law_gcd : Cal P w K mg base "_law_gcd" 1 ["left", "right"] f__law_gcd) (z_len : mg "len" = none) :
    Cal P w K mg base "_law_is_lowest" 3 ["row", "size"] (runB 4 (m__law_is_lowest f__law_is_ints f__law_gcd)) :=
  cal_mk (k := 2) F sc__law_is_lowest gx (fun _ _ _ _ _ _ us hl => match us, hl with | [_, _], _ => rfl) fun cdv A outer s H E hr tk hp =>
    (sx_cons (sx_if (Ew.et (ew_or (et_not (et_val (ex_c1 c__law_is_ints tk hr (by decide) (ea_cons (xv 0) ea_nil)))) (ew_or1 (et_cmp (m_ne hr.units) (ex_callB c_len (by rfl) z_len bt_len (ea_cons (xv 0) ea_nil)) (xv 1) (nomark _))))) (sx_one (sx_ret ex_bl)) sx_nil)
    (sx_cons (sx_set sc__law_is_lowest.nd ex_int)
    (sx_cons (sx_for hp (by rfl) (ei_ex (xv 0)) (eg_name sc__law_is_lowest.nd) (sx_cons (sx_if (et_cmp m_lt (xv 3) ex_int (nomark _)) (sx_one (sx_ret ex_bl)) sx_nil)
    (sx_one (sx_set sc__law_is_lowest.nd (ex_c1 c__law_gcd tk hr (by decide) (ea_cons (xv 2) (ea_cons (xv 3) ea_nil)))))))
    (sx_one (sx_ret (ex_cmp (m_eq hr.units) (xv 2) ex_int (nomark _)))))))
def N__law_share : List PySem.Str := ["peak", "v", "a", "n", "m", "far", "up", "down"]
theorem sc__law_share : FnScope N__law_share ["peak", "v", "a", "n", "m"] (defScope s__law_share) := ⟨rfl, rfl, rfl, by decide +kernel, rfl, by decide +kernel, by decide +kernel⟩
def m__law_share (f__law_powers : FM) : SM := (sSeq (sIf (tBl (eBin oEq (eVar 0) (eC (.int 0)))) (sRet (eTup (aCons (eC (.int 1)) (aCons (eC (.int 1)) aNil)))) sNil)
    (sSeq (sSet 5 (eCB fAbs (aCons (eBin oSub (eVar 2) (eVar 1)) aNil)))
    (sSeq (sSet 6 (eBin oIx (eCall 2 f__law_powers (aCons (eVar 3) (aCons (eVar 5) aNil))) (eVar 5)))
    (sSeq (sSet 7 (eBin oIx (eCall 2 f__law_powers (aCons (eVar 4) (aCons (eVar 5) aNil))) (eVar 5)))
    (sSeq (sIf (tBl (eChain oLt oLt (eC (.int 0)) (eVar 2) (eVar 0))) (sRet (eTup (aCons (eBin oMul (eVar 6) (eBin oSub (eVar 4) (eVar 3))) (aCons (eBin oMul (eVar 7) (eBin oAdd (eVar 4) (eVar 3))) aNil)))) sNil)
    (sRet (eTup (aCons (eBin oMul (eVar 6) (eVar 4)) (aCons (eBin oMul (eVar 7) (eBin oAdd (eVar 4) (eVar 3))) aNil)))))))))
theorem ok__law_share {P : Program} {w : World} {K : PySem.W.Frag} {mg : PySem.Str → Option Value} {base : Heap} {f : Addr} {fd : FuncData} {f__law_powers : FM} (F : FnP K "_law_share" s__law_share f fd) (gx : mg "_law_share" = some (.ref f)) (c__law_powers : Cal P w K mg base "_law_powers" 1 ["base", "most"] f__law_powers) (z_abs : mg "abs" = none) :
    Cal P w K mg base "_law_share" 2 ["peak", "v", "a", "n", "m"] (runB 8 (m__law_share f__law_powers)) :=
  cal_mk (k := 1) F sc__law_share gx (fun _ _ _ _ _ _ us hl => match us, hl with | [_, _, _, _, _], _ => rfl) fun cdv A outer s H E hr tk hp =>
    (sx_cons (sx_if (et_cmp (m_eq hr.units) (xv 0) ex_int (nomark _)) (sx_one (sx_ret (ex_tup (ea_cons ex_int (ea_cons ex_int ea_nil))))) sx_nil)
    (sx_cons (sx_set sc__law_share.nd (ex_callB c_abs (by rfl) z_abs bt_abs (ea_cons (ex_op m_sub (xv 2) (xv 1)) ea_nil)))
    (sx_cons (sx_set sc__law_share.nd (ex_ix m_ix (ex_c1 c__law_powers tk hr (by decide) (ea_cons (xv 3) (ea_cons (xv 5) ea_nil))) (xv 5)))
    (sx_cons (sx_set sc__law_share.nd (ex_ix m_ix (ex_c1 c__law_powers tk hr (by decide) (ea_cons (xv 4) (ea_cons (xv 5) ea_nil))) (xv 5)))
    (sx_cons (sx_if (et_chain m_lt m_lt ex_int (xv 2) (xv 0)) (sx_one (sx_ret (ex_tup (ea_cons (ex_op m_mul (xv 6) (ex_op m_sub (xv 4) (xv 3))) (ea_cons (ex_op m_mul (xv 7) (ex_op m_add (xv 4) (xv 3))) ea_nil))))) sx_nil)
    (sx_one (sx_ret (ex_tup (ea_cons (ex_op m_mul (xv 6) (xv 4)) (ea_cons (ex_op m_mul (xv 7) (ex_op m_add (xv 4) (xv 3))) ea_nil))))))))))
def N__law_is_spread : List PySem.Str := ["rows", "peak", "n", "m", "v", "whole", "a", "share"]
theorem sc__law_is_spread : FnScope N__law_is_spread ["rows", "peak", "n", "m"] (defScope s__law_is_spread) := ⟨rfl, rfl, rfl, by decide +kernel, rfl, by decide +kernel, by decide +kernel⟩
def m__law_is_spread (f__law_is_lowest : FM) (f__law_share : FM) : SM := (sSeq (sIf (tOr (HM.tNot (tVal (eCB fIsi (aCons (eVar 0) (aCons (eC (.ty "tuple")) aNil))))) (tBl (eBin oNe (eCB fLen (aCons (eVar 0) aNil)) (eBin oAdd (eVar 1) (eC (.int 1)))))) (sRet (eC (.bl false))) sNil)
    (sSeq (sFor (iRg1 (eBin oAdd (eVar 1) (eC (.int 1)))) (gN 4) (sSeq (sIf (HM.tNot (tVal (eCall 2 f__law_is_lowest (aCons (eBin oIx (eVar 0) (eVar 4)) (aCons (eBin oAdd (eVar 1) (eC (.int 1))) aNil))))) (sRet (eC (.bl false))) sNil)
    (sSeq (sSet 5 (eCS gSum (sEx (eBin oIx (eVar 0) (eVar 4)))))
    (sFor (iRg1 (eBin oAdd (eVar 1) (eC (.int 1)))) (gN 6) (sSeq (sSet 7 (eCall 5 f__law_share (aCons (eVar 1) (aCons (eVar 4) (aCons (eVar 6) (aCons (eVar 2) (aCons (eVar 3) aNil)))))))
    (sIf (tBl (eBin oNe (eBin oMul (eBin oIx (eBin oIx (eVar 0) (eVar 4)) (eVar 6)) (eBin oIx (eVar 7) (eC (.int 1)))) (eBin oMul (eVar 5) (eBin oIx (eVar 7) (eC (.int 0)))))) (sRet (eC (.bl false))) sNil))))))
    (sRet (eC (.bl true)))))
theorem ok__law_is_spread {P : Program} {w : World} {K : PySem.W.Frag} {mg : PySem.Str → Option Value} {base : Heap} {f : Addr} {fd : FuncData} {f__law_is_lowest f__law_share : FM} (F : FnP K "_law_is_spread" s__law_is_spread f fd) (gx : mg "_law_is_spread" = some (.ref f)) (c__law_is_lowest : Cal P w K mg base "_law_is_lowest" 3 ["row", "size"] f__law_is_lowest) (c__law_share : Cal P w K mg base "_law_share" 2 ["peak", "v", "a", "n", "m"] f__law_share) (z_tuple : mg "tuple" = none) (z_isinstance : mg "isinstance" = none) (z_len : mg "len" = none) (z_range : mg "range" = none) (z_sum : mg "sum" = none) :
    Cal P w K mg base "_law_is_spread" 4 ["rows", "peak", "n", "m"] (runB 8 (m__law_is_spread f__law_is_lowest f__law_share)) :=
  cal_mk (k := 3) F sc__law_is_spread gx (fun _ _ _ _ _ _ us hl => match us, hl with | [_, _, _, _], _ => rfl) fun cdv A outer s H E hr tk hp =>
    (sx_cons (sx_if (Ew.et (ew_or (et_not (et_val (ex_callB c_isi (by rfl) z_isinstance bt_isinstance (ea_cons (xv 0) (ea_cons (ex_bltn (by rfl) z_tuple bt_tuple (by rfl) (fun _ _ => .ty _)) ea_nil))))) (ew_or1 (et_cmp (m_ne hr.units) (ex_callB c_len (by rfl) z_len bt_len (ea_cons (xv 0) ea_nil)) (ex_op m_add (xv 1) ex_int) (nomark _))))) (sx_one (sx_ret ex_bl)) sx_nil)
    (sx_cons (sx_for hp (by rfl) (ei_range1 (by rfl) z_range (ex_op m_add (xv 1) ex_int)) (eg_name sc__law_is_spread.nd) (sx_cons (sx_if (et_not (et_val (ex_c1 c__law_is_lowest tk hr (by decide) (ea_cons (ex_ix m_ix (xv 0) (xv 4)) (ea_cons (ex_op m_add (xv 1) ex_int) ea_nil))))) (sx_one (sx_ret ex_bl)) sx_nil)
    (sx_cons (sx_set sc__law_is_spread.nd (ex_callBs (s_sum (by rfl)) (by rfl) z_sum bt_sum (es_ex (ex_ix m_ix (xv 0) (xv 4)))))
    (sx_one (sx_for hp (by rfl) (ei_range1 (by rfl) z_range (ex_op m_add (xv 1) ex_int)) (eg_name sc__law_is_spread.nd) (sx_cons (sx_set sc__law_is_spread.nd (ex_c1 c__law_share tk hr (by decide) (ea_cons (xv 1) (ea_cons (xv 4) (ea_cons (xv 6) (ea_cons (xv 2) (ea_cons (xv 3) ea_nil)))))))
    (sx_one (sx_if (et_cmp (m_ne hr.units) (ex_op m_mul (ex_ix m_ix (ex_ix m_ix (xv 0) (xv 4)) (xv 6)) (ex_ix m_ix (xv 7) ex_int)) (ex_op m_mul (xv 5) (ex_ix m_ix (xv 7) ex_int)) (nomark _)) (sx_one (sx_ret ex_bl)) sx_nil))))))))
    (sx_one (sx_ret ex_bl))))
def N__law_is_held : List PySem.Str := ["rows", "less", "low", "v", "a", "part"]
theorem sc__law_is_held : FnScope N__law_is_held ["rows", "less"] (defScope s__law_is_held) := ⟨rfl, rfl, rfl, by decide +kernel, rfl, by decide +kernel, by decide +kernel⟩
def m__law_is_held : SM := (sSeq (sSet 2 (eBin oSub (eCB fLen (aCons (eVar 1) aNil)) (eC (.int 1))))
    (sSeq (sFor (iRg1 (eBin oAdd (eVar 2) (eC (.int 1)))) (gN 3) (sFor (iRg1 (eBin oAdd (eVar 2) (eC (.int 1)))) (gN 4) (sSeq (sSet 5 (eIf (tBl (eBin oLt (eVar 4) (eVar 2))) (eBin oIx (eBin oIx (eVar 0) (eVar 3)) (eVar 4)) (eCS gSum (sEx (eSl (eBin oIx (eVar 0) (eVar 3)) (oSome (eVar 4)) oNone)))))
    (sIf (tBl (eBin oNe (eBin oMul (eVar 5) (eCS gSum (sEx (eBin oIx (eVar 1) (eVar 3))))) (eBin oMul (eBin oIx (eBin oIx (eVar 1) (eVar 3)) (eVar 4)) (eCS gSum (sEx (eBin oIx (eVar 0) (eVar 3))))))) (sRet (eC (.bl false))) sNil))))
    (sRet (eC (.bl true)))))
theorem ok__law_is_held {P : Program} {w : World} {K : PySem.W.Frag} {mg : PySem.Str → Option Value} {base : Heap} {f : Addr} {fd : FuncData} (F : FnP K "_law_is_held" s__law_is_held f fd) (gx : mg "_law_is_held" = some (.ref f)) (z_len : mg "len" = none) (z_range : mg "range" = none) (z_sum : mg "sum" = none) :
    Cal P w K mg base "_law_is_held" 1 ["rows", "less"] (runB 6 (m__law_is_held)) :=
  cal_mk (k := 0) F sc__law_is_held gx (fun _ _ _ _ _ _ us hl => match us, hl with | [_, _], _ => rfl) fun cdv A outer s H E hr tk hp =>
    (sx_cons (sx_set sc__law_is_held.nd (ex_op m_sub (ex_callB c_len (by rfl) z_len bt_len (ea_cons (xv 1) ea_nil)) ex_int))
    (sx_cons (sx_for hp (by rfl) (ei_range1 (by rfl) z_range (ex_op m_add (xv 2) ex_int)) (eg_name sc__law_is_held.nd) (sx_one (sx_for hp (by rfl) (ei_range1 (by rfl) z_range (ex_op m_add (xv 2) ex_int)) (eg_name sc__law_is_held.nd) (sx_cons (sx_set sc__law_is_held.nd (ex_if (et_cmp m_lt (xv 4) (xv 2) (nomark _)) (ex_ix m_ix (ex_ix m_ix (xv 0) (xv 3)) (xv 4)) (ex_callBs (s_sum (by rfl)) (by rfl) z_sum bt_sum (es_ex (ex_sl (ex_ix m_ix (xv 0) (xv 3)) (eo_some (xv 4)) eo_none)))))
    (sx_one (sx_if (et_cmp (m_ne hr.units) (ex_op m_mul (xv 5) (ex_callBs (s_sum (by rfl)) (by rfl) z_sum bt_sum (es_ex (ex_ix m_ix (xv 1) (xv 3))))) (ex_op m_mul (ex_ix m_ix (ex_ix m_ix (xv 1) (xv 3)) (xv 4)) (ex_callBs (s_sum (by rfl)) (by rfl) z_sum bt_sum (es_ex (ex_ix m_ix (xv 0) (xv 3))))) (nomark _)) (sx_one (sx_ret ex_bl)) sx_nil))))))
    (sx_one (sx_ret ex_bl))))
def N__law_is_within : List PySem.Str := ["rows", "v", "w", "n", "m", "far", "up", "down", "mine", "theirs", "is_reached", "a", "left", "right"]
theorem sc__law_is_within : FnScope N__law_is_within ["rows", "v", "w", "n", "m"] (defScope s__law_is_within) := ⟨rfl, rfl, rfl, by decide +kernel, rfl, by decide +kernel, by decide +kernel⟩
def m__law_is_within (f__law_powers : FM) : SM := (sSeq (sSet 5 (eCB fAbs (aCons (eBin oSub (eVar 1) (eVar 2)) aNil)))
    (sSeq (sSet 6 (eBin oIx (eCall 2 f__law_powers (aCons (eVar 4) (aCons (eVar 5) aNil))) (eVar 5)))
    (sSeq (sSet 7 (eBin oIx (eCall 2 f__law_powers (aCons (eVar 3) (aCons (eVar 5) aNil))) (eVar 5)))
    (sSeq (sSet 8 (eCS gSum (sEx (eBin oIx (eVar 0) (eVar 1)))))
    (sSeq (sSet 9 (eCS gSum (sEx (eBin oIx (eVar 0) (eVar 2)))))
    (sSeq (sSet 10 (eC (.bl false)))
    (sSeq (sFor (iRg1 (eCB fLen (aCons (eVar 0) aNil))) (gN 11) (sSeq (sSet 12 (eBin oMul (eBin oMul (eBin oIx (eBin oIx (eVar 0) (eVar 1)) (eVar 11)) (eVar 9)) (eVar 7)))
    (sSeq (sSet 13 (eBin oMul (eBin oMul (eBin oIx (eBin oIx (eVar 0) (eVar 2)) (eVar 11)) (eVar 8)) (eVar 6)))
    (sSeq (sIf (tBl (eBin oGt (eVar 12) (eVar 13))) (sRet (eC (.bl false))) sNil)
    (sIf (tBl (eBin oEq (eVar 12) (eVar 13))) (sSet 10 (eC (.bl true))) sNil)))))
    (sRet (eVar 10)))))))))
theorem ok__law_is_within {P : Program} {w : World} {K : PySem.W.Frag} {mg : PySem.Str → Option Value} {base : Heap} {f : Addr} {fd : FuncData} {f__law_powers : FM} (F : FnP K "_law_is_within" s__law_is_within f fd) (gx : mg "_law_is_within" = some (.ref f)) (c__law_powers : Cal P w K mg base "_law_powers" 1 ["base", "most"] f__law_powers) (z_abs : mg "abs" = none) (z_sum : mg "sum" = none) (z_range : mg "range" = none) (z_len : mg "len" = none) :
    Cal P w K mg base "_law_is_within" 2 ["rows", "v", "w", "n", "m"] (runB 14 (m__law_is_within f__law_powers)) :=
  cal_mk (k := 1) F sc__law_is_within gx (fun _ _ _ _ _ _ us hl => match us, hl with | [_, _, _, _, _], _ => rfl) fun cdv A outer s H E hr tk hp =>
    (sx_cons (sx_set sc__law_is_within.nd (ex_callB c_abs (by rfl) z_abs bt_abs (ea_cons (ex_op m_sub (xv 1) (xv 2)) ea_nil)))
    (sx_cons (sx_set sc__law_is_within.nd (ex_ix m_ix (ex_c1 c__law_powers tk hr (by decide) (ea_cons (xv 4) (ea_cons (xv 5) ea_nil))) (xv 5)))
    (sx_cons (sx_set sc__law_is_within.nd (ex_ix m_ix (ex_c1 c__law_powers tk hr (by decide) (ea_cons (xv 3) (ea_cons (xv 5) ea_nil))) (xv 5)))
    (sx_cons (sx_set sc__law_is_within.nd (ex_callBs (s_sum (by rfl)) (by rfl) z_sum bt_sum (es_ex (ex_ix m_ix (xv 0) (xv 1)))))
    (sx_cons (sx_set sc__law_is_within.nd (ex_callBs (s_sum (by rfl)) (by rfl) z_sum bt_sum (es_ex (ex_ix m_ix (xv 0) (xv 2)))))
    (sx_cons (sx_set sc__law_is_within.nd ex_bl)
    (sx_cons (sx_for hp (by rfl) (ei_range1 (by rfl) z_range (ex_callB c_len (by rfl) z_len bt_len (ea_cons (xv 0) ea_nil))) (eg_name sc__law_is_within.nd) (sx_cons (sx_set sc__law_is_within.nd (ex_op m_mul (ex_op m_mul (ex_ix m_ix (ex_ix m_ix (xv 0) (xv 1)) (xv 11)) (xv 9)) (xv 7)))
    (sx_cons (sx_set sc__law_is_within.nd (ex_op m_mul (ex_op m_mul (ex_ix m_ix (ex_ix m_ix (xv 0) (xv 2)) (xv 11)) (xv 8)) (xv 6)))
    (sx_cons (sx_if (et_cmp m_gt (xv 12) (xv 13) (nomark _)) (sx_one (sx_ret ex_bl)) sx_nil)
    (sx_one (sx_if (et_cmp (m_eq hr.units) (xv 12) (xv 13) (nomark _)) (sx_one (sx_set sc__law_is_within.nd ex_bl)) sx_nil))))))
    (sx_one (sx_ret (xv 10))))))))))
def N__law_apart : List PySem.Str := ["n", "m", "far"]
theorem sc__law_apart : FnScope N__law_apart ["n", "m", "far"] (defScope s__law_apart) := ⟨rfl, rfl, rfl, by decide +kernel, rfl, by decide +kernel, by decide +kernel⟩
def m__law_apart (f__law_f : FM) (f__law_powers : FM) : SM := (sRet (eCall 2 f__law_f (aCons (eBin oIx (eCall 2 f__law_powers (aCons (eVar 1) (aCons (eVar 2) aNil))) (eVar 2)) (aCons (eBin oIx (eCall 2 f__law_powers (aCons (eVar 0) (aCons (eVar 2) aNil))) (eVar 2)) aNil))))
theorem ok__law_apart {P : Program} {w : World} {K : PySem.W.Frag} {mg : PySem.Str → Option Value} {base : Heap} {f : Addr} {fd : FuncData} {f__law_f f__law_powers : FM} (F : FnP K "_law_apart" s__law_apart f fd) (gx : mg "_law_apart" = some (.ref f)) (c__law_f : Cal P w K mg base "_law_f" 2 ["n", "d"] f__law_f) (c__law_powers : Cal P w K mg base "_law_powers" 1 ["base", "most"] f__law_powers) :
    Cal P w K mg base "_law_apart" 3 ["n", "m", "far"] (runB 3 (m__law_apart f__law_f f__law_powers)) :=
  cal_mk (k := 2) F sc__law_apart gx (fun _ _ _ _ _ _ us hl => match us, hl with | [_, _, _], _ => rfl) fun cdv A outer s H E hr tk hp =>
    (sx_one (sx_ret (ex_c1 c__law_f tk hr (by decide) (ea_cons (ex_ix m_ix (ex_c1 c__law_powers tk hr (by decide) (ea_cons (xv 1) (ea_cons (xv 2) ea_nil))) (xv 2)) (ea_cons (ex_ix m_ix (ex_c1 c__law_powers tk hr (by decide) (ea_cons (xv 0) (ea_cons (xv 2) ea_nil))) (xv 2)) ea_nil)))))
def N__law_losses_right : List PySem.Str := ["d", "rows", "n", "m", "size", "v", "w", "found", "g", "others", "both", "far", "one"]
theorem sc__law_losses_right : FnScope N__law_losses_right ["d", "rows", "n", "m"] (defScope s__law_losses_right) := ⟨rfl, rfl, rfl, by decide +kernel, rfl, by decide +kernel, by decide +kernel⟩
def m__law_losses_right (f__law_draw : FM) (f_row_loss : FM) (f__law_is_ratio : FM) (f__law_apart : FM) (f_rows_loss : FM) : SM := (sSeq (sSet 4 (eCB fLen (aCons (eVar 1) aNil)))
    (sSeq (sSet 5 (eCall 2 f__law_draw (aCons (eVar 0) (aCons (eVar 4) aNil))))
    (sSeq (sSet 6 (eCall 2 f__law_draw (aCons (eVar 0) (aCons (eVar 4) aNil))))
    (sSeq (sSet 7 (eCall 2 f_row_loss (aCons (eBin oIx (eVar 1) (eVar 5)) (aCons (eBin oIx (eVar 1) (eVar 6)) aNil))))
    (sSeq (sIf (tOr (HM.tNot (tVal (eCall 1 f__law_is_ratio (aCons (eVar 7) aNil)))) (tBl (eBin oNe (eVar 7) (eCall 3 f__law_apart (aCons (eVar 2) (aCons (eVar 3) (aCons (eCB fAbs (aCons (eBin oSub (eVar 5) (eVar 6)) aNil)) aNil))))))) (sRet (eC (.bl false))) sNil)
    (sSeq (sSet 8 (eCall 2 f__law_draw (aCons (eVar 0) (aCons (eVar 4) aNil))))
    (sSeq (sSet 9 (eEl (lComp [12] (iRg1 (eVar 4)) (gN 12) (tBl (eBin oLe (eCB fAbs (aCons (eBin oSub (eVar 12) (eVar 5)) aNil)) (eVar 8))) (eVar 12))))
    (sSeq (sSet 10 (eCB fTuple (aCons (eBin oAdd (eEl (lComp [12] (iEx (eVar 9)) (gN 12) tYes (eTup (aCons (eVar 5) (aCons (eVar 12) aNil))))) (eEl (lComp [12] (iEx (eVar 9)) (gN 12) tYes (eTup (aCons (eVar 12) (aCons (eVar 5) aNil)))))) aNil)))
    (sSeq (sSet 11 (eCS gMax (lComp [12] (iEx (eVar 9)) (gN 12) tYes (eCB fAbs (aCons (eBin oSub (eVar 12) (eVar 5)) aNil)))))
    (sSeq (sSet 7 (eCall 2 f_rows_loss (aCons (eVar 1) (aCons (eVar 10) aNil))))
    (sRet (eAnd (eCall 1 f__law_is_ratio (aCons (eVar 7) aNil)) (eBin oEq (eVar 7) (eCall 3 f__law_apart (aCons (eVar 2) (aCons (eVar 3) (aCons (eVar 11) aNil)))))))))))))))))
theorem ok__law_losses_right {P : Program} {w : World} {K : PySem.W.Frag} {mg : PySem.Str → Option Value} {base : Heap} {f : Addr} {fd : FuncData} {f__law_draw f_row_loss f__law_is_ratio f__law_apart f_rows_loss : FM} (F : FnP K "_law_losses_right" s__law_losses_right f fd) (gx : mg "_law_losses_right" = some (.ref f)) (c__law_draw : Cal P w K mg base "_law_draw" 1 ["d", "many"] f__law_draw) (c_row_loss : Cal P w K mg base "row_loss" 4 ["row", "other"] f_row_loss) (c__law_is_ratio : Cal P w K mg base "_law_is_ratio" 3 ["thing"] f__law_is_ratio) (c__law_apart : Cal P w K mg base "_law_apart" 3 ["n", "m", "far"] f__law_apart) (c_rows_loss : Cal P w K mg base "rows_loss" 5 ["rows", "pairs"] f_rows_loss) (z_len : mg "len" = none) (z_abs : mg "abs" = none) (z_range : mg "range" = none) (z_tuple : mg "tuple" = none) (z_max : mg "max" = none) :
    Cal P w K mg base "_law_losses_right" 6 ["d", "rows", "n", "m"] (runB 13 (m__law_losses_right f__law_draw f_row_loss f__law_is_ratio f__law_apart f_rows_loss)) :=
  cal_mk (k := 5) F sc__law_losses_right gx (fun _ _ _ _ _ _ us hl => match us, hl with | [_, _, _, _], _ => rfl) fun cdv A outer s H E hr tk hp =>
    (sx_cons (sx_set sc__law_losses_right.nd (ex_callB c_len (by rfl) z_len bt_len (ea_cons (xv 1) ea_nil)))
    (sx_cons (sx_set sc__law_losses_right.nd (ex_c1 c__law_draw tk hr (by decide) (ea_cons (xv 0) (ea_cons (xv 4) ea_nil))))
    (sx_cons (sx_set sc__law_losses_right.nd (ex_c1 c__law_draw tk hr (by decide) (ea_cons (xv 0) (ea_cons (xv 4) ea_nil))))
    (sx_cons (sx_set sc__law_losses_right.nd (ex_c1 c_row_loss tk hr (by decide) (ea_cons (ex_ix m_ix (xv 1) (xv 5)) (ea_cons (ex_ix m_ix (xv 1) (xv 6)) ea_nil))))
    (sx_cons (sx_if (Ew.et (ew_or (et_not (et_val (ex_c1 c__law_is_ratio tk hr (by decide) (ea_cons (xv 7) ea_nil)))) (ew_or1 (et_cmp (m_ne hr.units) (xv 7) (ex_c1 c__law_apart tk hr (by decide) (ea_cons (xv 2) (ea_cons (xv 3) (ea_cons (ex_callB c_abs (by rfl) z_abs bt_abs (ea_cons (ex_op m_sub (xv 5) (xv 6)) ea_nil)) ea_nil)))) (nomark _))))) (sx_one (sx_ret ex_bl)) sx_nil)
    (sx_cons (sx_set sc__law_losses_right.nd (ex_c1 c__law_draw tk hr (by decide) (ea_cons (xv 0) (ea_cons (xv 4) ea_nil))))
    (sx_cons (sx_setLc (own := [(("one" : PySem.Str), 12)]) (by rfl) sc__law_losses_right.nd (ei_range1 (by rfl) z_range (xv 4)) (blkOk_by (N := N__law_losses_right) (sc := (defScope s__law_losses_right)) (by decide +kernel)) (fun _ _ _ _ _ => (eg_name sc__law_losses_right.nd)) (fun _ _ _ _ _ => (ets_one (et_cmp m_le (ex_callB c_abs (by rfl) z_abs bt_abs (ea_cons (ex_op m_sub (xv 12) (xv 5)) ea_nil)) (xv 8) (nomark _)))) (fun _ _ _ _ _ => (xv 12)))
    (sx_cons (sx_set sc__law_losses_right.nd (ex_callT c_tuple (by rfl) z_tuple bt_tuple (ea_cons (ex_op m_add (ex_el (el_comp (own := [(("one" : PySem.Str), 12)]) (by rfl) sc__law_losses_right.nd (ei_ex (xv 9)) (blkOk_by (N := N__law_losses_right) (sc := (defScope s__law_losses_right)) (by decide +kernel)) (fun _ _ _ _ _ => (eg_name sc__law_losses_right.nd)) (fun _ _ _ _ _ => ets_nil) (fun _ _ _ _ _ => (ex_tup (ea_cons (xv 5) (ea_cons (xv 12) ea_nil)))))) (ex_el (el_comp (own := [(("one" : PySem.Str), 12)]) (by rfl) sc__law_losses_right.nd (ei_ex (xv 9)) (blkOk_by (N := N__law_losses_right) (sc := (defScope s__law_losses_right)) (by decide +kernel)) (fun _ _ _ _ _ => (eg_name sc__law_losses_right.nd)) (fun _ _ _ _ _ => ets_nil) (fun _ _ _ _ _ => (ex_tup (ea_cons (xv 12) (ea_cons (xv 5) ea_nil))))))) ea_nil)))
    (sx_cons (sx_set sc__law_losses_right.nd (ex_callBs (sv_max (by rfl)) (by rfl) z_max bt_max (es_el (el_comp (own := [(("one" : PySem.Str), 12)]) (by rfl) sc__law_losses_right.nd (ei_ex (xv 9)) (blkOk_by (N := N__law_losses_right) (sc := (defScope s__law_losses_right)) (by decide +kernel)) (fun _ _ _ _ _ => (eg_name sc__law_losses_right.nd)) (fun _ _ _ _ _ => ets_nil) (fun _ _ _ _ _ => (ex_callB c_abs (by rfl) z_abs bt_abs (ea_cons (ex_op m_sub (xv 12) (xv 5)) ea_nil)))))))
    (sx_cons (sx_set sc__law_losses_right.nd (ex_c1 c_rows_loss tk hr (by decide) (ea_cons (xv 1) (ea_cons (xv 10) ea_nil))))
    (sx_one (sx_ret (ex_and (ex_c1 c__law_is_ratio tk hr (by decide) (ea_cons (xv 7) ea_nil)) (ex_one (ex_cmp (m_eq hr.units) (xv 7) (ex_c1 c__law_apart tk hr (by decide) (ea_cons (xv 2) (ea_cons (xv 3) (ea_cons (xv 11) ea_nil)))) (nomark _))))))))))))))))
def N_law : List PySem.Str := ["script", "d", "peak", "n", "m", "rows", "more", "low", "less", "between", "r", "s", "v", "w"]
theorem sc_law : FnScope N_law ["script"] (defScope s_law) := ⟨rfl, rfl, rfl, by decide +kernel, rfl, by decide +kernel, by decide +kernel⟩
def m_law (f__law_begin : FM) (f__law_draw : FM) (f__law_factor : FM) (f_spread_rows : FM) (f__law_is_spread : FM) (f__law_is_held : FM) (f__law_is_within : FM) (f__law_losses_right : FM) : SM := (sSeq (sSet 1 (eCall 1 f__law_begin (aCons (eVar 0) aNil)))
    (sSeq (sSet 2 (eCall 2 f__law_draw (aCons (eVar 1) (aCons (eIf (tBl (eBin oEq (eCall 2 f__law_draw (aCons (eVar 1) (aCons (eC (.int 3)) aNil))) (eC (.int 1)))) (eC (.int 13)) (eC (.int 5))) aNil))))
    (sSeq (sAsg (gT 2 (gCs 3 (gCs 4 gNil0))) (eCall 1 f__law_factor (aCons (eVar 1) aNil)))
    (sSeq (sSet 5 (eCall 3 f_spread_rows (aCons (eVar 2) (aCons (eVar 3) (aCons (eVar 4) aNil)))))
    (sSeq (sIf (HM.tNot (tVal (eCall 4 f__law_is_spread (aCons (eVar 5) (aCons (eVar 2) (aCons (eVar 3) (aCons (eVar 4) aNil))))))) (sRet (eC (.bl false))) sNil)
    (sSeq (sSet 6 (eBin oAdd (eC (.int 1)) (eCall 2 f__law_draw (aCons (eVar 1) (aCons (eBin oDiv (eC (.int 1000)) (eVar 4)) aNil)))))
    (sSeq (sIf (HM.tNot (tVal (eCall 4 f__law_is_spread (aCons (eCall 3 f_spread_rows (aCons (eVar 2) (aCons (eBin oMul (eVar 6) (eVar 3)) (aCons (eBin oMul (eVar 6) (eVar 4)) aNil)))) (aCons (eVar 2) (aCons (eVar 3) (aCons (eVar 4) aNil))))))) (sRet (eC (.bl false))) sNil)
    (sSeq (sSet 7 (eCall 2 f__law_draw (aCons (eVar 1) (aCons (eBin oAdd (eVar 2) (eC (.int 1))) aNil))))
    (sSeq (sSet 8 (eCall 3 f_spread_rows (aCons (eVar 7) (aCons (eVar 3) (aCons (eVar 4) aNil)))))
    (sSeq (sIf (tOr (HM.tNot (tVal (eCall 4 f__law_is_spread (aCons (eVar 8) (aCons (eVar 7) (aCons (eVar 3) (aCons (eVar 4) aNil))))))) (HM.tNot (tVal (eCall 2 f__law_is_held (aCons (eVar 5) (aCons (eVar 8) aNil)))))) (sRet (eC (.bl false))) sNil)
    (sSeq (sSet 9 (eIf (tBl (eBin oEq (eCall 2 f__law_draw (aCons (eVar 1) (aCons (eC (.int 2)) aNil))) (eC (.int 1)))) (eVar 2) (eCall 2 f__law_draw (aCons (eVar 1) (aCons (eC (.int 4)) aNil)))))
    (sSeq (sAsg (gT 2 (gCs 10 (gCs 11 gNil0))) (eCall 1 f__law_factor (aCons (eVar 1) aNil)))
    (sSeq (sIf (HM.tNot (tVal (eCall 4 f__law_is_spread (aCons (eCall 3 f_spread_rows (aCons (eVar 9) (aCons (eVar 10) (aCons (eVar 11) aNil)))) (aCons (eVar 9) (aCons (eVar 10) (aCons (eVar 11) aNil))))))) (sRet (eC (.bl false))) sNil)
    (sSeq (sFor (iRg1 (eBin oAdd (eVar 2) (eC (.int 1)))) (gN 12) (sFor (iRg1 (eBin oAdd (eVar 2) (eC (.int 1)))) (gN 13) (sIf (HM.tNot (tVal (eCall 5 f__law_is_within (aCons (eVar 5) (aCons (eVar 12) (aCons (eVar 13) (aCons (eVar 3) (aCons (eVar 4) aNil)))))))) (sRet (eC (.bl false))) sNil)))
    (sRet (eAnd (eCall 4 f__law_losses_right (aCons (eVar 1) (aCons (eVar 5) (aCons (eVar 3) (aCons (eVar 4) aNil))))) (eCall 4 f__law_is_spread (aCons (eCallK 0 3 3 [1, 2, 0] f_spread_rows aNil (aCons (eVar 4) (aCons (eVar 2) (aCons (eVar 3) aNil)))) (aCons (eVar 2) (aCons (eVar 3) (aCons (eVar 4) aNil)))))))))))))))))))))
theorem ok_law {P : Program} {w : World} {K : PySem.W.Frag} {mg : PySem.Str → Option Value} {base : Heap} {f : Addr} {fd : FuncData} {f__law_begin f__law_draw f__law_factor f_spread_rows f__law_is_spread f__law_is_held f__law_is_within f__law_losses_right : FM} (F : FnP K "law" s_law f fd) (c__law_begin : Cal P w K mg base "_law_begin" 1 ["script"] f__law_begin) (c__law_draw : Cal P w K mg base "_law_draw" 1 ["d", "many"] f__law_draw) (c__law_factor : Cal P w K mg base "_law_factor" 3 ["d"] f__law_factor) (c_spread_rows : Cal P w K mg base "spread_rows" 8 ["top", "p", "q"] f_spread_rows) (c__law_is_spread : Cal P w K mg base "_law_is_spread" 4 ["rows", "peak", "n", "m"] f__law_is_spread) (c__law_is_held : Cal P w K mg base "_law_is_held" 1 ["rows", "less"] f__law_is_held) (c__law_is_within : Cal P w K mg base "_law_is_within" 2 ["rows", "v", "w", "n", "m"] f__law_is_within) (c__law_losses_right : Cal P w K mg base "_law_losses_right" 6 ["d", "rows", "n", "m"] f__law_losses_right) {fa_spread_rows : Addr} {fd_spread_rows : FuncData} (FK_spread_rows : FnP K "spread_rows" s_spread_rows fa_spread_rows fd_spread_rows) (gk_spread_rows : mg "spread_rows" = some (.ref fa_spread_rows)) (z_range : mg "range" = none) :
    FnM P w K mg base 9 f fd ["script"] (runB 14 (m_law f__law_begin f__law_draw f__law_factor f_spread_rows f__law_is_spread f__law_is_held f__law_is_within f__law_losses_right)) :=
  fn_def (k := 8) F sc_law fun cdv A outer s H E hr tk hp =>
    (sx_cons (sx_set sc_law.nd (ex_c1 c__law_begin tk hr (by decide) (ea_cons (xv 0) ea_nil)))
    (sx_cons (sx_set sc_law.nd (ex_c1 c__law_draw tk hr (by decide) (ea_cons (xv 1) (ea_cons (ex_if (et_cmp (m_eq hr.units) (ex_c1 c__law_draw tk hr (by decide) (ea_cons (xv 1) (ea_cons ex_int ea_nil))) ex_int (nomark _)) ex_int ex_int) ea_nil))))
    (sx_cons (sx_asg (ex_c1 c__law_factor tk hr (by decide) (ea_cons (xv 1) ea_nil)) (eg_tup (by rfl) (egs_cons sc_law.nd (egs_cons sc_law.nd egs_nil))))
    (sx_cons (sx_set sc_law.nd (ex_c1 c_spread_rows tk hr (by decide) (ea_cons (xv 2) (ea_cons (xv 3) (ea_cons (xv 4) ea_nil)))))
    (sx_cons (sx_if (et_not (et_val (ex_c1 c__law_is_spread tk hr (by decide) (ea_cons (xv 5) (ea_cons (xv 2) (ea_cons (xv 3) (ea_cons (xv 4) ea_nil))))))) (sx_one (sx_ret ex_bl)) sx_nil)
    (sx_cons (sx_set sc_law.nd (ex_op m_add ex_int (ex_c1 c__law_draw tk hr (by decide) (ea_cons (xv 1) (ea_cons (ex_op m_div ex_int (xv 4)) ea_nil)))))
    (sx_cons (sx_if (et_not (et_val (ex_c1 c__law_is_spread tk hr (by decide) (ea_cons (ex_c1 c_spread_rows tk hr (by decide) (ea_cons (xv 2) (ea_cons (ex_op m_mul (xv 6) (xv 3)) (ea_cons (ex_op m_mul (xv 6) (xv 4)) ea_nil)))) (ea_cons (xv 2) (ea_cons (xv 3) (ea_cons (xv 4) ea_nil))))))) (sx_one (sx_ret ex_bl)) sx_nil)
    (sx_cons (sx_set sc_law.nd (ex_c1 c__law_draw tk hr (by decide) (ea_cons (xv 1) (ea_cons (ex_op m_add (xv 2) ex_int) ea_nil))))
    (sx_cons (sx_set sc_law.nd (ex_c1 c_spread_rows tk hr (by decide) (ea_cons (xv 7) (ea_cons (xv 3) (ea_cons (xv 4) ea_nil)))))
    (sx_cons (sx_if (Ew.et (ew_or (et_not (et_val (ex_c1 c__law_is_spread tk hr (by decide) (ea_cons (xv 8) (ea_cons (xv 7) (ea_cons (xv 3) (ea_cons (xv 4) ea_nil))))))) (ew_or1 (et_not (et_val (ex_c1 c__law_is_held tk hr (by decide) (ea_cons (xv 5) (ea_cons (xv 8) ea_nil)))))))) (sx_one (sx_ret ex_bl)) sx_nil)
    (sx_cons (sx_set sc_law.nd (ex_if (et_cmp (m_eq hr.units) (ex_c1 c__law_draw tk hr (by decide) (ea_cons (xv 1) (ea_cons ex_int ea_nil))) ex_int (nomark _)) (xv 2) (ex_c1 c__law_draw tk hr (by decide) (ea_cons (xv 1) (ea_cons ex_int ea_nil)))))
    (sx_cons (sx_asg (ex_c1 c__law_factor tk hr (by decide) (ea_cons (xv 1) ea_nil)) (eg_tup (by rfl) (egs_cons sc_law.nd (egs_cons sc_law.nd egs_nil))))
    (sx_cons (sx_if (et_not (et_val (ex_c1 c__law_is_spread tk hr (by decide) (ea_cons (ex_c1 c_spread_rows tk hr (by decide) (ea_cons (xv 9) (ea_cons (xv 10) (ea_cons (xv 11) ea_nil)))) (ea_cons (xv 9) (ea_cons (xv 10) (ea_cons (xv 11) ea_nil))))))) (sx_one (sx_ret ex_bl)) sx_nil)
    (sx_cons (sx_for hp (by rfl) (ei_range1 (by rfl) z_range (ex_op m_add (xv 2) ex_int)) (eg_name sc_law.nd) (sx_one (sx_for hp (by rfl) (ei_range1 (by rfl) z_range (ex_op m_add (xv 2) ex_int)) (eg_name sc_law.nd) (sx_one (sx_if (et_not (et_val (ex_c1 c__law_is_within tk hr (by decide) (ea_cons (xv 5) (ea_cons (xv 12) (ea_cons (xv 13) (ea_cons (xv 3) (ea_cons (xv 4) ea_nil)))))))) (sx_one (sx_ret ex_bl)) sx_nil)))))
    (sx_one (sx_ret (ex_and (ex_c1 c__law_losses_right tk hr (by decide) (ea_cons (xv 1) (ea_cons (xv 5) (ea_cons (xv 3) (ea_cons (xv 4) ea_nil))))) (ex_one (ex_c1 c__law_is_spread tk hr (by decide) (ea_cons (ex_ck0 (ks := ["q", "top", "p"]) (is := [1, 2, 0]) c_spread_rows FK_spread_rows gk_spread_rows (fun _ _ _ _ _ _ us ws hl hk => match us, ws, hl, hk with | [], [_, _, _], _, _ => rfl) tk hr (by decide) (ek_cons (xv 4) (ek_cons (xv 2) (ek_cons (xv 3) ek_nil)))) (ea_cons (xv 2) (ea_cons (xv 3) (ea_cons (xv 4) ea_nil)))))))))))))))))))))))
end K24

/-! fractions in lowest terms -/
namespace HM
open PySem PySem.Spec L2
/-- the sign that makes a denominator positive, times the greatest common divisor -/
def com (n d : Int) : Int := if d < 0 then -((Nat.gcd n.natAbs d.natAbs : Nat) : Int) else (Nat.gcd n.natAbs d.natAbs : Nat)
def rn (n d : Int) : Int := n.fdiv (com n d)
def rd (n d : Int) : Int := d.fdiv (com n d)
abbrev fr (a b : Int) : D := .tup [.int a, .int b]
abbrev rat (n d : Int) : D := fr (rn n d) (rd n d)
theorem com_abs {n d : Int} : (com n d).natAbs = Nat.gcd n.natAbs d.natAbs := by
  unfold com
  split <;> omega
theorem com_ne {n d : Int} (h : d ≠ 0) : com n d ≠ 0 := by
  have := Nat.gcd_pos_of_pos_right n.natAbs (Int.natAbs_pos.mpr h)
  have := com_abs (n := n) (d := d)
  omega
theorem com_le {n d : Int} (h : d ≠ 0) : (com n d).natAbs ≤ d.natAbs := by
  rw [com_abs]
  exact Nat.le_of_dvd (Int.natAbs_pos.mpr h) (Nat.gcd_dvd_right _ _)
theorem rat_n {n d : Int} (h : d ≠ 0) : n = com n d * rn n d := by
  have z : com n d ∣ n := by
    rw [← Int.natAbs_dvd_natAbs, com_abs]
    exact Nat.gcd_dvd_left _ _
  obtain ⟨k, hk⟩ := z
  have e : rn n d = k := by
    unfold rn
    rw [hk]
    have hc : com n d ≠ 0 := com_ne h
    rw [← hk]
    rw (occs := .pos [1]) [hk]
    exact Int.mul_fdiv_cancel_left k hc
  rw [e]
  exact hk
theorem rat_d {n d : Int} (h : d ≠ 0) : d = com n d * rd n d := by
  have z : com n d ∣ d := by
    rw [← Int.natAbs_dvd_natAbs, com_abs]
    exact Nat.gcd_dvd_right _ _
  obtain ⟨k, hk⟩ := z
  have e : rd n d = k := by
    unfold rd
    have hc : com n d ≠ 0 := com_ne h
    rw (occs := .pos [1]) [hk]
    exact Int.mul_fdiv_cancel_left k hc
  rw [e]
  exact hk
theorem rat_pos {n d : Int} (h : d ≠ 0) : 0 < rd n d := by
  have e := rat_d (n := n) h
  have hg := com_ne (n := n) h
  by_cases hd : d < 0
  · have hc : com n d < 0 := by
      have : com n d = -((Nat.gcd n.natAbs d.natAbs : Nat) : Int) := by unfold com; rw [if_pos hd]
      omega
    rcases Int.lt_trichotomy 0 (rd n d) with z | z | z
    · exact z
    · rw [← z] at e
      simp at e
      exact absurd e h
    · have := Int.mul_pos_of_neg_of_neg hc z
      omega
  · have hc : 0 < com n d := by
      have : com n d = ((Nat.gcd n.natAbs d.natAbs : Nat) : Int) := by unfold com; rw [if_neg hd]
      omega
    rcases Int.lt_trichotomy 0 (rd n d) with z | z | z
    · exact z
    · rw [← z] at e
      simp at e
      exact absurd e h
    · have := Int.mul_neg_of_pos_of_neg hc z
      omega
theorem rat_cop {n d : Int} (h : d ≠ 0) : Nat.gcd (rn n d).natAbs (rd n d).natAbs = 1 := by
  have e1 := congrArg Int.natAbs (rat_n (n := n) h)
  have e2 := congrArg Int.natAbs (rat_d (n := n) h)
  rw [Int.natAbs_mul] at e1 e2
  have z : Nat.gcd n.natAbs d.natAbs = (com n d).natAbs * Nat.gcd (rn n d).natAbs (rd n d).natAbs := by
    rw [← Nat.gcd_mul_left, ← e1, ← e2]
  rw [← com_abs] at z
  have hc : 0 < (com n d).natAbs := Int.natAbs_pos.mpr (com_ne h)
  have : (com n d).natAbs * 1 = (com n d).natAbs * Nat.gcd (rn n d).natAbs (rd n d).natAbs := by omega
  exact (Nat.eq_of_mul_eq_mul_left hc this).symm
theorem rat_cross {n d : Int} (h : d ≠ 0) : rn n d * d = n * rd n d := by
  have e1 := rat_n (n := n) h
  have e2 := rat_d (n := n) h
  calc rn n d * d = rn n d * (com n d * rd n d) := by rw [← e2]
    _ = com n d * rn n d * rd n d := by rw [← Int.mul_assoc, Int.mul_comm (rn n d)]
    _ = n * rd n d := by rw [← e1]
theorem rn_le {n d : Int} (h : d ≠ 0) : (rn n d).natAbs ≤ n.natAbs := by
  have e1 := congrArg Int.natAbs (rat_n (n := n) h)
  rw [Int.natAbs_mul] at e1
  have hc : 0 < (com n d).natAbs := Int.natAbs_pos.mpr (com_ne h)
  rw [e1]
  exact Nat.le_mul_of_pos_left _ hc
theorem rd_le {n d : Int} (h : d ≠ 0) : (rd n d).natAbs ≤ d.natAbs := by
  have e1 := congrArg Int.natAbs (rat_d (n := n) h)
  rw [Int.natAbs_mul] at e1
  have hc : 0 < (com n d).natAbs := Int.natAbs_pos.mpr (com_ne h)
  rw [e1]
  exact Nat.le_mul_of_pos_left _ hc
/-- two pairs in lowest terms that are equal crosswise are equal -/
theorem low_eq {a b c d : Int} (hb : 0 < b) (hd : 0 < d) (h1 : Nat.gcd a.natAbs b.natAbs = 1) (h2 : Nat.gcd c.natAbs d.natAbs = 1) (e : a * d = c * b) : a = c ∧ b = d := by
  have e' := congrArg Int.natAbs e
  rw [Int.natAbs_mul, Int.natAbs_mul] at e'
  have bd : b.natAbs ∣ d.natAbs := by
    have z : b.natAbs ∣ a.natAbs * d.natAbs := ⟨c.natAbs, by rw [e', Nat.mul_comm]⟩
    exact Nat.Coprime.dvd_of_dvd_mul_left ((Nat.gcd_comm _ _).trans h1 : Nat.Coprime _ _) z
  have db : d.natAbs ∣ b.natAbs := by
    have z : d.natAbs ∣ c.natAbs * b.natAbs := ⟨a.natAbs, by rw [← e', Nat.mul_comm]⟩
    exact Nat.Coprime.dvd_of_dvd_mul_left ((Nat.gcd_comm _ _).trans h2 : Nat.Coprime _ _) z
  have ebd : b = d := by
    have := Nat.dvd_antisymm bd db
    omega
  subst ebd
  exact ⟨Int.eq_of_mul_eq_mul_right (by omega) e, rfl⟩
theorem rat_eq {n d m e : Int} (hd : d ≠ 0) (he : e ≠ 0) (h : n * e = m * d) : rn n d = rn m e ∧ rd n d = rd m e := by
  refine low_eq (rat_pos hd) (rat_pos he) (rat_cop hd) (rat_cop he) ?_
  have c1 := rat_cross (n := n) hd
  have c2 := rat_cross (n := m) he
  -- (rn n d * rd m e) * (d * e) = (rn m e * rd n d) * (d * e)
  refine Int.eq_of_mul_eq_mul_right (show d * e ≠ 0 from Int.mul_ne_zero hd he) ?_
  calc rn n d * rd m e * (d * e) = (rn n d * d) * (rd m e * e) := by simp only [Int.mul_assoc, Int.mul_comm, Int.mul_left_comm]
    _ = (n * rd n d) * (rd m e * e) := by rw [c1]
    _ = (n * e) * (rd n d * rd m e) := by simp only [Int.mul_assoc, Int.mul_comm, Int.mul_left_comm]
    _ = (m * d) * (rd n d * rd m e) := by rw [h]
    _ = (m * rd m e) * (rd n d * d) := by simp only [Int.mul_assoc, Int.mul_comm, Int.mul_left_comm]
    _ = (rn m e * e) * (rd n d * d) := by rw [c2]
    _ = rn m e * rd n d * (d * e) := by simp only [Int.mul_assoc, Int.mul_comm, Int.mul_left_comm]
/-- a fraction in lowest terms is its own -/
theorem rat_self {a b : Int} (hb : 0 < b) (h : Nat.gcd a.natAbs b.natAbs = 1) : rn a b = a ∧ rd a b = b :=
  low_eq (rat_pos (by omega)) hb (rat_cop (by omega)) h (rat_cross (by omega))
/-! sizes -/
theorem okMul_of {i j : Int} {k l : Nat} (hi : i.natAbs < 2 ^ k) (hj : j.natAbs < 2 ^ l) (h : k + l < 1000000) : okMul i j = true := by
  refine decide_eq_true (.inr ?_)
  have a : ∀ {x k : Nat}, x < 2 ^ k → x.log2 ≤ k := fun {x k} h => by
    by_cases z : x = 0
    · subst z
      exact Nat.zero_le _
    · exact Nat.le_of_lt ((Nat.log2_lt z).mpr h)
  have := a hi
  have := a hj
  omega
theorem mul_lt {i j : Int} {k l : Nat} (hi : i.natAbs < 2 ^ k) (hj : j.natAbs < 2 ^ l) : (i * j).natAbs < 2 ^ (k + l) := by
  rw [Int.natAbs_mul, Nat.pow_add]
  exact Nat.mul_lt_mul'' hi hj
theorem add_lt {i j : Int} {k : Nat} (hi : i.natAbs < 2 ^ k) (hj : j.natAbs < 2 ^ k) : (i + j).natAbs < 2 ^ (k + 1) := by
  rw [Nat.pow_succ]
  omega
theorem sub_lt {i j : Int} {k : Nat} (hi : i.natAbs < 2 ^ k) (hj : j.natAbs < 2 ^ k) : (i - j).natAbs < 2 ^ (k + 1) := by
  rw [Nat.pow_succ]
  omega
theorem lt_up {x k l : Nat} (h : x < 2 ^ k) (hl : k ≤ l) : x < 2 ^ l := Nat.lt_of_lt_of_le h (Nat.pow_le_pow_right (by decide) hl)
theorem okDiv_com {n d i : Int} {k : Nat} (h : d ≠ 0) (hd : d.natAbs < 2 ^ k) (hk : k ≤ 9000) : okDiv i (com n d) = true := by
  have hc := com_ne (n := n) h
  refine decide_eq_true ⟨hc, ?_⟩
  have hl := com_le (n := n) h
  have : (com n d).natAbs ≠ 0 := by omega
  rw [Nat.log2_lt this]
  exact Nat.lt_of_le_of_lt hl (lt_up hd hk)
end HM

namespace K24
open PySem PySem.Spec PyProof.Rows L2 HM

def f_ratio : FM := runB 3 (m_ratio)
theorem le_ratio : ∀ ds st, Le st (runB 3 (m_ratio) ds st) (f_ratio ds st) := fun _ _ => .refl _
def f_plus : FM := runB 2 (m_plus f_ratio)
theorem le_plus : ∀ ds st, Le st (runB 2 (m_plus f_ratio) ds st) (f_plus ds st) := fun _ _ => .refl _
def f_minus : FM := runB 2 (m_minus f_ratio)
theorem le_minus : ∀ ds st, Le st (runB 2 (m_minus f_ratio) ds st) (f_minus ds st) := fun _ _ => .refl _
def f_times : FM := runB 2 (m_times f_ratio)
theorem le_times : ∀ ds st, Le st (runB 2 (m_times f_ratio) ds st) (f_times ds st) := fun _ _ => .refl _
def f_over : FM := runB 2 (m_over f_ratio)
theorem le_over : ∀ ds st, Le st (runB 2 (m_over f_ratio) ds st) (f_over ds st) := fun _ _ => .refl _
def f_power : FM := runB 5 (m_power f_times)
theorem le_power : ∀ ds st, Le st (runB 5 (m_power f_times) ds st) (f_power ds st) := fun _ _ => .refl _
def f_is_below : FM := runB 2 (m_is_below)
theorem le_is_below : ∀ ds st, Le st (runB 2 (m_is_below) ds st) (f_is_below ds st) := fun _ _ => .refl _
def f_chances : FM := runB 3 (m_chances f_ratio)
theorem le_chances : ∀ ds st, Le st (runB 3 (m_chances f_ratio) ds st) (f_chances ds st) := fun _ _ => .refl _
def f_reduced : FM := runB 3 (m_reduced)
theorem le_reduced : ∀ ds st, Le st (runB 3 (m_reduced) ds st) (f_reduced ds st) := fun _ _ => .refl _
def f_lowest : FM := runB 3 (m_lowest f_reduced)
theorem le_lowest : ∀ ds st, Le st (runB 3 (m_lowest f_reduced) ds st) (f_lowest ds st) := fun _ _ => .refl _
def f_inner_share : FM := runB 1 (m_inner_share f_over f_minus f_plus)
theorem le_inner_share : ∀ ds st, Le st (runB 1 (m_inner_share f_over f_minus f_plus) ds st) (f_inner_share ds st) := fun _ _ => .refl _
def f_end_share : FM := runB 1 (m_end_share f_over f_plus)
theorem le_end_share : ∀ ds st, Le st (runB 1 (m_end_share f_over f_plus) ds st) (f_end_share ds st) := fun _ _ => .refl _
def f_answer_share : FM := runB 3 (m_answer_share f_inner_share f_end_share)
theorem le_answer_share : ∀ ds st, Le st (runB 3 (m_answer_share f_inner_share f_end_share) ds st) (f_answer_share ds st) := fun _ _ => .refl _
def f_spread_share : FM := runB 4 (m_spread_share f_times f_answer_share f_power)
theorem le_spread_share : ∀ ds st, Le st (runB 4 (m_spread_share f_times f_answer_share f_power) ds st) (f_spread_share ds st) := fun _ _ => .refl _
def f_spread_chances : FM := runB 6 (m_spread_chances f_ratio f_spread_share)
theorem le_spread_chances : ∀ ds st, Le st (runB 6 (m_spread_chances f_ratio f_spread_share) ds st) (f_spread_chances ds st) := fun _ _ => .refl _
def f_spread_row : FM := runB 4 (m_spread_row f_lowest f_spread_chances)
theorem le_spread_row : ∀ ds st, Le st (runB 4 (m_spread_row f_lowest f_spread_chances) ds st) (f_spread_row ds st) := fun _ _ => .refl _
def f_spread_rows : FM := runB 4 (m_spread_rows f_spread_row)
theorem le_spread_rows : ∀ ds st, Le st (runB 4 (m_spread_rows f_spread_row) ds st) (f_spread_rows ds st) := fun _ _ => .refl _
def f_factor_of : FM := runB 2 (m_factor_of f_over)
theorem le_factor_of : ∀ ds st, Le st (runB 2 (m_factor_of f_over) ds st) (f_factor_of ds st) := fun _ _ => .refl _
def f_greater_loss : FM := runB 2 (m_greater_loss f_is_below)
theorem le_greater_loss : ∀ ds st, Le st (runB 2 (m_greater_loss f_is_below) ds st) (f_greater_loss ds st) := fun _ _ => .refl _
def f_row_loss : FM := runB 5 (m_row_loss f_chances f_greater_loss f_factor_of)
theorem le_row_loss : ∀ ds st, Le st (runB 5 (m_row_loss f_chances f_greater_loss f_factor_of) ds st) (f_row_loss ds st) := fun _ _ => .refl _
def f_rows_loss : FM := runB 5 (m_rows_loss f_greater_loss f_row_loss)
theorem le_rows_loss : ∀ ds st, Le st (runB 5 (m_rows_loss f_greater_loss f_row_loss) ds st) (f_rows_loss ds st) := fun _ _ => .refl _
def f__law_begin : FM := runB 2 (m__law_begin)
theorem le__law_begin : ∀ ds st, Le st (runB 2 (m__law_begin) ds st) (f__law_begin ds st) := fun _ _ => .refl _
def f__law_draw : FM := runB 5 (m__law_draw)
theorem le__law_draw : ∀ ds st, Le st (runB 5 (m__law_draw) ds st) (f__law_draw ds st) := fun _ _ => .refl _
def f__law_pick : FM := runB 2 (m__law_pick f__law_draw)
theorem le__law_pick : ∀ ds st, Le st (runB 2 (m__law_pick f__law_draw) ds st) (f__law_pick ds st) := fun _ _ => .refl _
def f__law_is_int : FM := runB 1 (m__law_is_int)
theorem le__law_is_int : ∀ ds st, Le st (runB 1 (m__law_is_int) ds st) (f__law_is_int ds st) := fun _ _ => .refl _
def f__law_is_ints : FM := runB 2 (m__law_is_ints f__law_is_int)
theorem le__law_is_ints : ∀ ds st, Le st (runB 2 (m__law_is_ints f__law_is_int) ds st) (f__law_is_ints ds st) := fun _ _ => .refl _
def f__law_gcd : FM := runB 5 (m__law_gcd)
theorem le__law_gcd : ∀ ds st, Le st (runB 5 (m__law_gcd) ds st) (f__law_gcd ds st) := fun _ _ => .refl _
def f__law_f : FM := runB 3 (m__law_f f__law_gcd)
theorem le__law_f : ∀ ds st, Le st (runB 3 (m__law_f f__law_gcd) ds st) (f__law_f ds st) := fun _ _ => .refl _
def f__law_is_frac : FM := runB 1 (m__law_is_frac f__law_is_int f__law_gcd)
theorem le__law_is_frac : ∀ ds st, Le st (runB 1 (m__law_is_frac f__law_is_int f__law_gcd) ds st) (f__law_is_frac ds st) := fun _ _ => .refl _
def f__law_is_ratio : FM := runB 1 (m__law_is_ratio f__law_is_frac)
theorem le__law_is_ratio : ∀ ds st, Le st (runB 1 (m__law_is_ratio f__law_is_frac) ds st) (f__law_is_ratio ds st) := fun _ _ => .refl _
def f__law_powers : FM := runB 4 (m__law_powers)
theorem le__law_powers : ∀ ds st, Le st (runB 4 (m__law_powers) ds st) (f__law_powers ds st) := fun _ _ => .refl _
def f__law_factor : FM := runB 3 (m__law_factor f__law_draw f__law_pick)
theorem le__law_factor : ∀ ds st, Le st (runB 3 (m__law_factor f__law_draw f__law_pick) ds st) (f__law_factor ds st) := fun _ _ => .refl _
def f__law_is_lowest : FM := runB 4 (m__law_is_lowest f__law_is_ints f__law_gcd)
theorem le__law_is_lowest : ∀ ds st, Le st (runB 4 (m__law_is_lowest f__law_is_ints f__law_gcd) ds st) (f__law_is_lowest ds st) := fun _ _ => .refl _
def f__law_share : FM := runB 8 (m__law_share f__law_powers)
theorem le__law_share : ∀ ds st, Le st (runB 8 (m__law_share f__law_powers) ds st) (f__law_share ds st) := fun _ _ => .refl _
def f__law_is_spread : FM := runB 8 (m__law_is_spread f__law_is_lowest f__law_share)
theorem le__law_is_spread : ∀ ds st, Le st (runB 8 (m__law_is_spread f__law_is_lowest f__law_share) ds st) (f__law_is_spread ds st) := fun _ _ => .refl _
def f__law_is_held : FM := runB 6 (m__law_is_held)
theorem le__law_is_held : ∀ ds st, Le st (runB 6 (m__law_is_held) ds st) (f__law_is_held ds st) := fun _ _ => .refl _
def f__law_is_within : FM := runB 14 (m__law_is_within f__law_powers)
theorem le__law_is_within : ∀ ds st, Le st (runB 14 (m__law_is_within f__law_powers) ds st) (f__law_is_within ds st) := fun _ _ => .refl _
def f__law_apart : FM := runB 3 (m__law_apart f__law_f f__law_powers)
theorem le__law_apart : ∀ ds st, Le st (runB 3 (m__law_apart f__law_f f__law_powers) ds st) (f__law_apart ds st) := fun _ _ => .refl _
def f__law_losses_right : FM := runB 13 (m__law_losses_right f__law_draw f_row_loss f__law_is_ratio f__law_apart f_rows_loss)
theorem le__law_losses_right : ∀ ds st, Le st (runB 13 (m__law_losses_right f__law_draw f_row_loss f__law_is_ratio f__law_apart f_rows_loss) ds st) (f__law_losses_right ds st) := fun _ _ => .refl _
def f_law : FM := runB 14 (m_law f__law_begin f__law_draw f__law_factor f_spread_rows f__law_is_spread f__law_is_held f__law_is_within f__law_losses_right)
theorem le_law : ∀ ds st, Le st (runB 14 (m_law f__law_begin f__law_draw f__law_factor f_spread_rows f__law_is_spread f__law_is_held f__law_is_within f__law_losses_right) ds st) (f_law ds st) := fun _ _ => .refl _

theorem gcd_loop {st : Store} {g : EM Bool} {u : SM} {x y : Option D}
    (hg : ∀ (a b : Nat) c, g [x, y, some (.int a), some (.int b), c] st = .ok (decide (0 < b)) st)
    (hu : ∀ (a b : Nat) c, 0 < b → u [x, y, some (.int a), some (.int b), c] st = .nx [x, y, some (.int b), some (.int (a % b : Nat)), some (.int (a % b : Nat))] st) :
    ∀ (n a b : Nat) (c : Option D), b < n → ∃ c', whileN g u n [x, y, some (.int a), some (.int b), c] st = .nx [x, y, some (.int (Nat.gcd a b : Nat)), some (.int 0), c'] st
  | 0, a, b, c, h => absurd h (Nat.not_lt_zero _)
  | n + 1, a, b, c, h => by
    unfold whileN
    rw [hg, bindE_ok]
    by_cases hb : 0 < b
    · rw [decide_eq_true hb, if_pos rfl, hu a b c hb]
      obtain ⟨c', e⟩ := gcd_loop hg hu n b (a % b) (some (.int (a % b : Nat))) (Nat.lt_of_lt_of_le (Nat.mod_lt a hb) (by omega))
      refine ⟨c', ?_⟩
      rw [Nat.gcd_comm a b, Nat.gcd_rec b a, Nat.gcd_comm]
      exact e
    · have : b = 0 := by omega
      subst this
      rw [if_neg (by simp)]
      exact ⟨c, by rw [Nat.gcd_zero_right]; rfl⟩
theorem r_gcd {st : Store} {i j : Int} (h : j.natAbs < 2 ^ 9000) : f__law_gcd [.int i, .int j] st = .ok (.int (Nat.gcd i.natAbs j.natAbs : Nat)) st := by
  unfold f__law_gcd
  rw [runB_e]
  unfold m__law_gcd
  have hw : ∃ c', whileN (tBl (eBin oGt (eVar 3) (eC (.int 0)))) (sSeq (sSet 4 (eBin oMod (eCB fInt (aCons (eVar 2) aNil)) (eVar 3))) (sSeq (sSet 2 (eVar 3)) (sSet 3 (eVar 4)))) big [some (.int i), some (.int j), some (.int (i.natAbs : Nat)), some (.int (j.natAbs : Nat)), none] st = .nx [some (.int i), some (.int j), some (.int (Nat.gcd i.natAbs j.natAbs : Nat)), some (.int 0), c'] st := by
    refine gcd_loop (fun a b c => ?_) (fun a b c hb => ?_) big _ _ none (Nat.lt_of_lt_of_le h (le_big (k := 9000) (by decide) (Nat.le_refl _)))
    · simp
    · have om : okMod (a : Int) (b : Int) = true := okMod_of (by omega)
      have e : (a : Int).fmod (b : Int) = (a % b : Nat) := by
        rw [Int.fmod_eq_emod_of_nonneg _ (by omega)]
        rfl
      simp [om, e]
  obtain ⟨c', hw⟩ := hw
  simp [hw]

theorem r_is_int {st : Store} {i : Int} : f__law_is_int [.int i] st = .ok (.bl true) st := by
  simp [f__law_is_int, runB_e, m__law_is_int]

/-! draws -/
theorem r_begin {ns : List Int} (hl : ns.length ≤ 63) : ∃ st', f__law_begin [.rol (ns.map D.int)] [] = .ok (.ref 1) st' ∧ DS ns st' ∧ st'.length = 2 := by
  obtain ⟨ys, st1, e, ⟨h1, h2⟩, hl2⟩ := comp_inv (q := .fix (ns.map D.int)) (set := gN 1) (fe := eCB fInt (aCons (eVar 1) aNil)) (τ := [some (.rol (ns.map D.int)), none]) (fun acc s => acc = (ns.map D.int).take acc.length ∧ s = ([] : Store)) (fun _ _ _ => rfl) (ns.map D.int) [] [] ⟨rfl, rfl⟩ fun i d acc s hi ha hp => by
    obtain ⟨h1, rfl⟩ := hp
    refine ⟨_, rfl, d, [], ?_, ?_, rfl⟩
    · have : ∃ k, d = .int k := by
        rw [List.getElem?_map] at hi
        cases hz : ns[i]? with
        | none => simp [hz] at hi
        | some k => exact ⟨k, by simpa [hz] using hi.symm⟩
      obtain ⟨k, rfl⟩ := this
      simp [gN]
    · simp only [List.length_nil, Nat.zero_add] at ha
      rw [List.length_append, List.length_singleton, ha, List.take_succ, hi, ← ha, ← h1]
      rfl
  have hy : ys = ns.map D.int := by
    rw [h1, List.take_of_length_le]
    simp at hl2
    simp [hl2]
  subst hy h2
  refine ⟨[.lst (ns.map D.int), .lst [.ref 0, .int 0, .int 0, .int 7]], ?_, ⟨rfl, 0, 0, 7, by decide, rfl⟩, rfl⟩
  have e : compL (.fix (ns.map D.int)) (gN 1) tYes (eCB fInt (aCons (eVar 1) aNil)) (wipeD [some (.rol (ns.map D.int)), none] [1]) (ns.map D.int) [] [] = .ok (ns.map D.int) [] := e
  have hs : ns.length ≤ 16777216 := by omega
  simp [f__law_begin, runB_e, m__law_begin, lComp_e, lc1, hs, e]
theorem r_draw {ns : List Int} {st : Store} {many : Int} (H : DS ns st) (h0 : 0 < many) (h1 : many.natAbs.log2 < 9000) :
    ∃ v st', f__law_draw [.ref 1, .int many] st = .ok (.int v) st' ∧ 0 ≤ v ∧ v < many ∧ DS ns st' ∧ Fr st st' := by
  obtain ⟨c0, p, h, q, hp, c1⟩ := H
  have set1 : ∀ p' h' q' : Int, 0 ≤ p' → ∀ s, s = st ∨ (∃ ys, s = st.set 1 (.lst ys)) ∨ (∃ ys zs, s = (st.set 1 (.lst ys)).set 1 (.lst zs)) → DS ns (s.set 1 (.lst [.ref 0, .int p', .int h', .int q'])) ∧ Fr st (s.set 1 (.lst [.ref 0, .int p', .int h', .int q'])) := by
    intro p' h' q' hp' s hs
    have e : s.set 1 (.lst [.ref 0, .int p', .int h', .int q']) = st.set 1 (.lst [.ref 0, .int p', .int h', .int q']) := by
      rcases hs with rfl | ⟨ys, rfl⟩ | ⟨ys, zs, rfl⟩ <;> simp [List.set_set]
    rw [e]
    refine ⟨⟨by rw [lstAt_ne (by decide)]; exact c0, p', h', q', hp', lstAt_set c1⟩, by simp, fun n hn _ => ?_⟩
    rw [List.getElem?_set_ne (Ne.symm hn)]
  have od : ∀ i, okDiv i many = true := fun i => okDiv_of (by omega) h1
  have om : ∀ i, okMod i many = true := fun i => okMod_of (by omega)
  have b0 : ∀ i : Int, 0 ≤ i.fmod many := fun i => Int.fmod_nonneg_of_pos i h0
  have b1 : ∀ i : Int, i.fmod many < many := fun i => Int.fmod_lt_of_pos i h0
  unfold f__law_draw
  rw [runB_e]
  unfold m__law_draw
  by_cases hh : 0 < h
  · obtain ⟨d1, d2⟩ := set1 p (h.fdiv many) q hp st (.inl rfl)
    refine ⟨h.fmod many, _, ?_, b0 _, b1 _, d1, d2⟩
    have x2 : ixN 4 2 = some 2 := rfl
    simp [oIx_ref c1, hh, od, om, oSet_ref c1, x2]
  · -- the size of the script's number here
    have main : ∀ (size : Int) (c : Option D), (0 ≤ size) → ∃ v st', ((sSeq (sAugS oIAdd (eVar 0) (eC (.int 1)) (eC (.int 1)))
        (sSeq (sIf (tBl (eBin oGe (eVar 3) (eBin oMul (eC (.int 2)) (eBin oPow (eC (.int 10)) (eC (.int 18)))))) (sSeq (sSet 2 (eBin oMod (eCB fInt (aCons (eBin oDiv (eVar 3) (eC (.int 2))) aNil)) (eBin oShl (eC (.int 1)) (eC (.int 6000)))))
        (sSeq (sSub (eVar 0) (eC (.int 2)) (eBin oDiv (eVar 2) (eVar 1)))
        (sRet (eBin oMod (eCB fInt (aCons (eVar 2) aNil)) (eVar 1))))) sNil)
        (sSeq (sSub (eVar 0) (eC (.int 3)) (eBin oMod (eCB fInt (aCons (eBin oAdd (eBin oAdd (eBin oAdd (eBin oMul (eBin oIx (eVar 0) (eC (.int 3))) (eC (.int 48271))) (eBin oMul (eBin oMod (eCB fInt (aCons (eVar 3) aNil)) (eC (.int 2147483629))) (eC (.int 16807)))) (eBin oMul (eBin oIx (eVar 0) (eC (.int 1))) (eC (.int 69621)))) (eC (.int 11))) aNil)) (eC (.int 2147483647))))
        (sRet (eBin oMod (eCB fInt (aCons (eBin oDiv (eBin oIx (eVar 0) (eC (.int 3))) (eC (.int 16))) aNil)) (eVar 1)))))) [some (.ref 1), some (.int many), none, some (.int size), c] st).fin = .ok (.int v) st' ∧ 0 ≤ v ∧ v < many ∧ DS ns st' ∧ Fr st st' := by
      intro size c hs
      have x1 : ixN 4 1 = some 1 := rfl
      have x2 : ixN 4 2 = some 2 := rfl
      have x3 : ixN 4 3 = some 3 := rfl
      obtain ⟨st1, e1⟩ : ∃ st1, st1 = st.set 1 (.lst [.ref 0, .int (p + 1), .int h, .int q]) := ⟨_, rfl⟩
      have l1 : lstAt st1 1 = some [.ref 0, .int (p + 1), .int h, .int q] := by
        rw [e1]
        exact lstAt_set c1
      have d48 : okMul q 48271 = true := okMul_r (by decide)
      have d16 : ∀ i, okMul i 16807 = true := fun i => okMul_r (by decide)
      have d69 : ∀ i, okMul i 69621 = true := fun i => okMul_r (by decide)
      have m1 : ∀ i, okMod i 2147483629 = true := fun i => okMod_of (by decide)
      have m2 : ∀ i, okMod i 2147483647 = true := fun i => okMod_of (by decide)
      have v16 : ∀ i, okDiv i 16 = true := fun i => okDiv_of (by decide) (by decide)
      have v2 : ∀ i, okDiv i 2 = true := fun i => okDiv_of (by decide) (by decide)
      by_cases hz : 2000000000000000000 ≤ size
      · have p1 : okPow 10 18 = true := by decide
        have p2 : okMul 2 1000000000000000000 = true := okMul_r (by decide)
        have p3 : okPow 1 6000 = true := by decide
        obtain ⟨M, eM⟩ : ∃ M : Int, M = 2 ^ 6000 := ⟨_, rfl⟩
        have hM : M ≠ 0 := by
          have : (0 : Int) < 2 ^ 6000 := Int.pow_pos (by decide)
          omega
        have om2 : ∀ i, okMod i M = true := fun i => okMod_of hM
        obtain ⟨d1, d2⟩ := set1 (p + 1) (((size.fdiv 2).fmod M).fdiv many) q (by omega) st1 (.inr (.inl ⟨_, e1⟩))
        refine ⟨((size.fdiv 2).fmod M).fmod many, _, ?_, b0 _, b1 _, d1, d2⟩
        simp [oGetL_ref c1, oSet_ref c1, x1, x2, ← e1, hz, p1, p2, p3, v2, od, om, ← eM, om2, oSet_ref l1]
      · have p1 : okPow 10 18 = true := by decide
        have p2 : okMul 2 1000000000000000000 = true := okMul_r (by decide)
        obtain ⟨q', eq'⟩ : ∃ q', q' = (q * 48271 + size.fmod 2147483629 * 16807 + (p + 1) * 69621 + 11).fmod 2147483647 := ⟨_, rfl⟩
        obtain ⟨d1, d2⟩ := set1 (p + 1) h q' (by omega) st1 (.inr (.inl ⟨_, e1⟩))
        have l2 : lstAt (st1.set 1 (.lst [.ref 0, .int (p + 1), .int h, .int q'])) 1 = some [.ref 0, .int (p + 1), .int h, .int q'] := lstAt_set l1
        refine ⟨(q'.fdiv 16).fmod many, _, ?_, b0 _, b1 _, d1, d2⟩
        simp [oGetL_ref c1, oSet_ref c1, x1, x2, x3, ← e1, hz, p1, p2, v2, v16, od, om, m1, m2, d48, d16, d69, oIx_ref l1, oSet_ref l1, oIx_ref l2, ← eq']
    by_cases hp2 : p < ns.length
    · have hc : ∃ c : Int, atI (ns.map D.int) p = some (.int c) := by
        have hp3 : p.toNat < ns.length := by omega
        refine ⟨ns[p.toNat], ?_⟩
        have := atI_nat (xs := ns.map D.int) (j := p.toNat) (v := D.int ns[p.toNat]) (by simp [hp3])
        rwa [Int.toNat_of_nonneg hp] at this
      obtain ⟨c, hc⟩ := hc
      obtain ⟨v, st', e, r⟩ := main (2 * (c.natAbs : Nat) + (if c < 0 then 1 else 0)) (some (.int c)) (by split <;> omega)
      refine ⟨v, st', ?_, r⟩
      rw [← e]
      have k2 : okMul 2 (c.natAbs : Nat) = true := okMul_l (by decide)
      simp [oIx_ref c1, hh, oIx_ref c0, fLen_ref c0, hp2, hc, k2]
    · obtain ⟨v, st', e, r⟩ := main 0 none (by omega)
      refine ⟨v, st', ?_, r⟩
      rw [← e]
      simp [oIx_ref c1, hh, oIx_ref c0, fLen_ref c0, hp2]

theorem r_pick {ns : List Int} {st : Store} {m : Nat} {xs : List D} (H : DS ns st) (hx : lstAt st m = some xs) (hm : m ≠ 1) (h0 : 0 < xs.length) (h1 : xs.length < 2 ^ 60) :
    ∃ v st', f__law_pick [.ref 1, .ref m] st = .ok v st' ∧ v ∈ xs ∧ DS ns st' ∧ Fr st st' := by
  obtain ⟨v, s1, e, v0, v1, D1, F1⟩ := r_draw (many := (xs.length : Nat)) H (by omega) (by
    rw [Int.natAbs_natCast]
    have := log2_le h1
    omega)
  have hv : v.toNat < xs.length := by omega
  refine ⟨xs[v.toNat], s1, ?_, List.getElem_mem _, D1, F1⟩
  have ha : atI xs v = some xs[v.toNat] := by
    have := atI_nat (xs := xs) (j := v.toNat) (v := xs[v.toNat]) (by simp [hv])
    rwa [Int.toNat_of_nonneg v0] at this
  simp [f__law_pick, runB_e, m__law_pick, fLen_ref hx, e, oIx_ref (F1.lst hx hm), ha]

/-- a fraction in lowest terms, of at most so many bits -/
structure FQ (k : Nat) (a b : Int) : Prop where
  pos : 0 < b
  cop : Nat.gcd a.natAbs b.natAbs = 1
  an : a.natAbs < 2 ^ k
  bn : b.natAbs < 2 ^ k
theorem FQ.up {k l : Nat} {a b : Int} (h : FQ k a b) (hl : k ≤ l) : FQ l a b := ⟨h.pos, h.cop, lt_up h.an hl, lt_up h.bn hl⟩
theorem FQ.rat {k : Nat} {n d : Int} (h : d ≠ 0) (hn : n.natAbs < 2 ^ k) (hd : d.natAbs < 2 ^ k) : FQ k (rn n d) (rd n d) :=
  ⟨rat_pos h, rat_cop h, Nat.lt_of_le_of_lt (rn_le h) hn, Nat.lt_of_le_of_lt (rd_le h) hd⟩
theorem r_ratio {n d : Int} {st : Store} {k : Nat} (h : d ≠ 0) (hb : d.natAbs < 2 ^ k) (hk : k ≤ 9000) : f_ratio [.int n, .int d] st = .ok (rat n d) st := by
  have o : ∀ i, okDiv i (com n d) = true := fun i => okDiv_com h hb hk
  unfold rat fr rn rd
  by_cases hd : d < 0
  · have e : com n d = -((Nat.gcd n.natAbs d.natAbs : Nat) : Int) := by unfold com; rw [if_pos hd]
    rw [e] at o
    simp [f_ratio, runB_e, m_ratio, h, hd, e, o]
  · have e : com n d = ((Nat.gcd n.natAbs d.natAbs : Nat) : Int) := by unfold com; rw [if_neg hd]
    rw [e] at o
    simp [f_ratio, runB_e, m_ratio, h, hd, e, o]
theorem r_f {n d : Int} {st : Store} {k : Nat} (h : d ≠ 0) (hb : d.natAbs < 2 ^ k) (hk : k ≤ 9000) : f__law_f [.int n, .int d] st = .ok (rat n d) st := by
  have o : ∀ i, okDiv i (com n d) = true := fun i => okDiv_com h hb hk
  have g : f__law_gcd [.int n, .int d] st = _ := r_gcd (lt_up hb hk)
  unfold rat fr rn rd
  by_cases hd : d < 0
  · have e : com n d = -((Nat.gcd n.natAbs d.natAbs : Nat) : Int) := by unfold com; rw [if_pos hd]
    rw [e] at o
    simp [f__law_f, runB_e, m__law_f, h, hd, e, o, g]
  · have e : com n d = ((Nat.gcd n.natAbs d.natAbs : Nat) : Int) := by unfold com; rw [if_neg hd]
    rw [e] at o
    simp [f__law_f, runB_e, m__law_f, h, hd, e, o, g]
section
variable {k l : Nat} {a b c e : Int} {st : Store}
theorem om {i j : Int} (h1 : i.natAbs < 2 ^ k) (h2 : j.natAbs < 2 ^ l) (h : k + l ≤ 9000) : okMul i j = true := okMul_of h1 h2 (by omega)
theorem ne2 {b e : Int} (hb : 0 < b) (he : 0 < e) : b * e ≠ 0 := Int.ne_of_gt (Int.mul_pos hb he)
end

/-! fractions as rational numbers -/
def qd (q : Rat) : D := fr q.num (q.den : Nat)
theorem den_ne {q : Rat} : ((q.den : Nat) : Int) ≠ 0 := by have := q.den_pos; omega
theorem qd_inj {x y : Rat} (h : qd x = qd y) : x = y := by
  unfold qd fr at h
  have h1 := D.tup.inj h
  have h2 := D.int.inj (List.cons.inj h1).1
  have h3 := D.int.inj (List.cons.inj (List.cons.inj h1).2).1
  exact Rat.ext h2 (by omega)
theorem rat_qd {n d : Int} (h : d ≠ 0) : rat n d = qd (Rat.divInt n d) := by
  obtain ⟨q, eq⟩ : ∃ q, q = Rat.divInt n d := ⟨_, rfl⟩
  have e := Rat.num_divInt_den q
  rw [eq, ← eq] at e
  have e2 : q.num * d = n * (q.den : Nat) := (Rat.divInt_eq_divInt_iff den_ne h).mp (by rw [Rat.num_divInt_den]; exact eq)
  have e3 := rat_cross (n := n) (d := d) h
  have e4 : rn n d * (q.den : Nat) = q.num * rd n d := by
    refine Int.eq_of_mul_eq_mul_right h ?_
    calc rn n d * (q.den : Nat) * d = (rn n d * d) * (q.den : Nat) := by ac_rfl
      _ = (n * rd n d) * (q.den : Nat) := by rw [e3]
      _ = (n * (q.den : Nat)) * rd n d := by ac_rfl
      _ = (q.num * d) * rd n d := by rw [e2]
      _ = _ := by ac_rfl
  have := low_eq (rat_pos h) (by have := q.den_pos; omega : (0 : Int) < (q.den : Nat)) (rat_cop h) (by rw [Int.natAbs_natCast]; exact q.reduced) e4
  unfold rat qd
  rw [← eq, this.1, this.2]
/-- of so many bits -/
structure QB (k : Nat) (q : Rat) : Prop where
  an : q.num.natAbs < 2 ^ k
  bn : q.den < 2 ^ k
theorem QB.up {k l : Nat} {q : Rat} (h : QB k q) (hl : k ≤ l) : QB l q := ⟨lt_up h.an hl, lt_up h.bn hl⟩
theorem QB.fq {k : Nat} {q : Rat} (h : QB k q) : FQ k q.num (q.den : Nat) := ⟨by have := q.den_pos; omega, by rw [Int.natAbs_natCast]; exact q.reduced, h.an, by rw [Int.natAbs_natCast]; exact h.bn⟩
theorem QB.bi {k : Nat} {q : Rat} (h : QB k q) : ((q.den : Nat) : Int).natAbs < 2 ^ k := by rw [Int.natAbs_natCast]; exact h.bn
theorem QB.of {k : Nat} {n d : Int} (h : d ≠ 0) (hn : n.natAbs < 2 ^ k) (hd : d.natAbs < 2 ^ k) : QB k (Rat.divInt n d) := by
  have e := rat_qd (n := n) h
  unfold rat qd fr at e
  have h1 := D.tup.inj e
  have h2 := D.int.inj (List.cons.inj h1).1
  have h3 := D.int.inj (List.cons.inj (List.cons.inj h1).2).1
  refine ⟨by rw [← h2]; exact Nat.lt_of_le_of_lt (rn_le h) hn, ?_⟩
  have := Nat.lt_of_le_of_lt (rd_le (n := n) h) hd
  rw [h3, Int.natAbs_natCast] at this
  exact this
theorem QB.sub {k l : Nat} {x y : Rat} (hx : QB k x) (hy : QB l y) : QB (k + l + 1) (x - y) := by
  rw [Rat.sub_def', ← Rat.divInt_ofNat]
  refine .of (by have := x.den_pos; have := y.den_pos; have := Nat.mul_pos x.den_pos y.den_pos; omega) (sub_lt (mul_lt hx.an hy.bi) (by rw [Nat.add_comm k l]; exact mul_lt hy.an hx.bi)) (lt_up (k := k + l) ?_ (by omega))
  rw [Int.natAbs_natCast, Nat.pow_add]
  exact Nat.mul_lt_mul'' hx.bn hy.bn
theorem QB.add {k l : Nat} {x y : Rat} (hx : QB k x) (hy : QB l y) : QB (k + l + 1) (x + y) := by
  rw [Rat.add_def', ← Rat.divInt_ofNat]
  refine .of (by have := x.den_pos; have := y.den_pos; have := Nat.mul_pos x.den_pos y.den_pos; omega) (add_lt (mul_lt hx.an hy.bi) (by rw [Nat.add_comm k l]; exact mul_lt hy.an hx.bi)) (lt_up (k := k + l) ?_ (by omega))
  rw [Int.natAbs_natCast, Nat.pow_add]
  exact Nat.mul_lt_mul'' hx.bn hy.bn
theorem QB.mul {k l : Nat} {x y : Rat} (hx : QB k x) (hy : QB l y) : QB (k + l) (x * y) := by
  rw [Rat.mul_def', ← Rat.divInt_ofNat]
  refine .of (by have := x.den_pos; have := y.den_pos; have := Nat.mul_pos x.den_pos y.den_pos; omega) (mul_lt hx.an hy.an) ?_
  rw [Int.natAbs_natCast, Nat.pow_add]
  exact Nat.mul_lt_mul'' hx.bn hy.bn
theorem num_ne {y : Rat} (h : y ≠ 0) : y.num ≠ 0 := fun e => h (Rat.num_eq_zero.mp e)
theorem div_eq {x y : Rat} : x / y = Rat.divInt (x.num * (y.den : Nat)) ((x.den : Nat) * y.num) := by
  rw [Rat.div_def, Rat.inv_def]
  have := Rat.num_divInt_den x
  conv => lhs; lhs; rw [← this]
  rw [Rat.divInt_mul_divInt]
theorem QB.div {k l : Nat} {x y : Rat} (hx : QB k x) (hy : QB l y) (h : y ≠ 0) : QB (k + l) (x / y) := by
  rw [div_eq]
  exact .of (Int.mul_ne_zero den_ne (num_ne h)) (mul_lt hx.an hy.bi) (mul_lt hx.bi hy.an)
theorem r_ratioQ {n d : Int} {st : Store} {k : Nat} (h : d ≠ 0) (hb : d.natAbs < 2 ^ k) (hk : k ≤ 9000) : f_ratio [.int n, .int d] st = .ok (qd (Rat.divInt n d)) st := by
  rw [← rat_qd h]
  exact r_ratio h hb hk
theorem r_fQ {n d : Int} {st : Store} {k : Nat} (h : d ≠ 0) (hb : d.natAbs < 2 ^ k) (hk : k ≤ 9000) : f__law_f [.int n, .int d] st = .ok (qd (Rat.divInt n d)) st := by
  rw [← rat_qd h]
  exact r_f h hb hk
theorem lt_dec {x y : Rat} : decide (x.num * (y.den : Nat) < y.num * (x.den : Nat)) = decide (x < y) := by
  have := Rat.lt_iff x y
  exact decide_eq_decide.mpr this.symm
theorem qd_tup {x : Rat} : qd x = .tup [.int x.num, .int (x.den : Nat)] := rfl
theorem eq_qd {x y : Rat} {st : Store} : oEq (qd x) (qd y) st = .ok (.bl (decide (x = y))) st := by
  have e : ([D.int x.num, D.int (x.den : Nat)] = [D.int y.num, D.int (y.den : Nat)]) = (x = y) := propext ⟨fun h => qd_inj (congrArg D.tup h), fun h => by rw [h]⟩
  rw [qd_tup, qd_tup, oEq_tup (by simp) (by simp)]
  simp only [e]
theorem ne_qd {x y : Rat} {st : Store} : oNe (qd x) (qd y) st = .ok (.bl (!(decide (x = y)))) st := by
  have e : ([D.int x.num, D.int (x.den : Nat)] = [D.int y.num, D.int (y.den : Nat)]) = (x = y) := propext ⟨fun h => qd_inj (congrArg D.tup h), fun h => by rw [h]⟩
  rw [qd_tup, qd_tup, oNe_tup (by simp) (by simp)]
  simp only [e]
theorem one_qd : D.tup [.int 1, .int 1] = qd 1 := rfl
theorem zero_qd : D.tup [.int 0, .int 1] = qd 0 := rfl

theorem r_overQ {k l : Nat} {x y : Rat} {st : Store} (hx : QB k x) (hy : QB l y) (h : y ≠ 0) (hk : k + l ≤ 9000) : f_over [qd x, qd y] st = .ok (qd (x / y)) st := by
  have o1 := om hx.an hy.bi (by omega)
  have o2 := om hx.bi hy.an (by omega)
  have z := r_ratioQ (st := st) (n := x.num * (y.den : Nat)) (Int.mul_ne_zero den_ne (num_ne h)) (mul_lt hx.bi hy.an) hk
  rw [← div_eq] at z
  rw [qd_tup] at z
  simp [f_over, runB_e, m_over, qd_tup, o1, o2, z]

theorem r_minusQ {k l : Nat} {x y : Rat} {st : Store} (hx : QB k x) (hy : QB l y) (hk : k + l ≤ 9000) : f_minus [qd x, qd y] st = .ok (qd (x - y)) st := by
  have o1 := om hx.an hy.bi (by omega)
  have o2 := om hy.an hx.bi (by omega)
  have o3 := om hx.bi hy.bi (by omega)
  have z := r_ratioQ (st := st) (n := x.num * (y.den : Nat) - y.num * (x.den : Nat)) (d := (x.den : Nat) * (y.den : Nat)) (Int.mul_ne_zero den_ne den_ne) (mul_lt hx.bi hy.bi) hk
  rw [← Int.natCast_mul, Rat.divInt_ofNat, ← Rat.sub_def', Int.natCast_mul] at z
  rw [qd_tup] at z
  simp [f_minus, runB_e, m_minus, qd_tup, o1, o2, o3, z]

theorem r_plusQ {k l : Nat} {x y : Rat} {st : Store} (hx : QB k x) (hy : QB l y) (hk : k + l ≤ 9000) : f_plus [qd x, qd y] st = .ok (qd (x + y)) st := by
  have o1 := om hx.an hy.bi (by omega)
  have o2 := om hy.an hx.bi (by omega)
  have o3 := om hx.bi hy.bi (by omega)
  by_cases he : x.den = y.den
  · have z := r_ratioQ (st := st) (n := x.num + y.num) (d := (x.den : Nat)) den_ne hx.bi (by omega)
    have e : Rat.divInt (x.num + y.num) (x.den : Nat) = x + y := by
      have h1 := Rat.num_divInt_den x
      have h2 := Rat.num_divInt_den y
      rw [← he] at h2
      rw [Rat.divInt_eq_div] at h1 h2 ⊢
      rw [Rat.intCast_add]
      have hd : (((x.den : Nat) : Int) : Rat) ≠ 0 := fun e => den_ne (Rat.intCast_eq_zero_iff.mp e)
      obtain ⟨a, ha⟩ : ∃ a : Rat, a = (((x.den : Nat) : Int) : Rat) := ⟨_, rfl⟩
      rw [← ha] at h1 h2 hd ⊢
      rw [← h1, ← h2]
      grind
    rw [e] at z
    rw [qd_tup] at z
    simp [f_plus, runB_e, m_plus, qd_tup, ← he, z]
  · have z := r_ratioQ (st := st) (n := x.num * (y.den : Nat) + y.num * (x.den : Nat)) (d := (x.den : Nat) * (y.den : Nat)) (Int.mul_ne_zero den_ne den_ne) (mul_lt hx.bi hy.bi) hk
    rw [← Int.natCast_mul, Rat.divInt_ofNat, ← Rat.add_def', Int.natCast_mul] at z
    have he' : ¬ ((x.den : Int) = (y.den : Int)) := by omega
    rw [qd_tup] at z
    simp [f_plus, runB_e, m_plus, qd_tup, o1, o2, o3, he, he', z]

theorem r_timesQ {k l : Nat} {x y : Rat} {st : Store} (hx : QB k x) (hy : QB l y) (hk : k + l ≤ 9000) : f_times [qd x, qd y] st = .ok (qd (x * y)) st := by
  have o1 := om hx.an hy.an (by omega)
  have o2 := om hx.bi hy.bi (by omega)
  have z := r_ratioQ (st := st) (n := x.num * y.num) (d := (x.den : Nat) * (y.den : Nat)) (Int.mul_ne_zero den_ne den_ne) (mul_lt hx.bi hy.bi) hk
  rw [← Int.natCast_mul, Rat.divInt_ofNat, ← Rat.mul_def', Int.natCast_mul] at z
  rw [qd_tup] at z
  simp [f_times, runB_e, m_times, qd_tup, o1, o2, z]

theorem r_belowQ {k l : Nat} {x y : Rat} {st : Store} (hx : QB k x) (hy : QB l y) (hk : k + l ≤ 9000) : f_is_below [qd x, qd y] st = .ok (.bl (decide (x < y))) st := by
  have o1 := om hx.an hy.bi (by omega)
  have o2 := om hy.an hx.bi (by omega)
  rw [← lt_dec]
  simp [f_is_below, runB_e, m_is_below, qd_tup, o1, o2]

/-! rows of whole numbers in lowest terms -/
def itup (cs : List Int) : D := .tup (cs.map D.int)
def lg (g : Nat) (l : List Int) : Nat := l.foldl (fun a w => Nat.gcd a w.natAbs) g
theorem lg_dvd : ∀ (l : List Int) (g : Nat), lg g l ∣ g ∧ ∀ w ∈ l, lg g l ∣ w.natAbs
  | [], g => ⟨Nat.dvd_refl _, by simp⟩
  | w :: l, g => by
    have ih := lg_dvd l (Nat.gcd g w.natAbs)
    refine ⟨Nat.dvd_trans ih.1 (Nat.gcd_dvd_left ..), fun v hv => ?_⟩
    rcases List.mem_cons.mp hv with rfl | hv
    · exact Nat.dvd_trans ih.1 (Nat.gcd_dvd_right ..)
    · exact ih.2 v hv
theorem dvd_lg {d : Nat} : ∀ (l : List Int) (g : Nat), d ∣ g → (∀ w ∈ l, d ∣ w.natAbs) → d ∣ lg g l
  | [], g, h, _ => h
  | w :: l, g, h, hl => dvd_lg l _ (Nat.dvd_gcd h (hl w (List.mem_cons_self ..))) fun v hv => hl v (List.mem_cons_of_mem _ hv)
theorem lg_pos {l : List Int} {w : Int} (hw : w ∈ l) (h : w ≠ 0) : 0 < lg 0 l := by
  refine Nat.pos_of_ne_zero fun e => ?_
  have := (lg_dvd l 0).2 w hw
  rw [e] at this
  have := Nat.eq_zero_of_zero_dvd this
  omega
theorem lg_le {l : List Int} {w : Int} (hw : w ∈ l) (h : w ≠ 0) : lg 0 l ≤ w.natAbs := Nat.le_of_dvd (by omega) ((lg_dvd l 0).2 w hw)
structure Low (xs : List Int) : Prop where
  nn : ∀ x ∈ xs, 0 ≤ x
  g1 : lg 0 xs = 1
theorem low_red {ws : List Int} (h : ∀ w ∈ ws, 0 ≤ w) (hg : 0 < lg 0 ws) : Low (ws.map fun w => w.fdiv (lg 0 ws : Nat)) ∧ ∀ w ∈ ws, (lg 0 ws : Nat) * w.fdiv (lg 0 ws : Nat) = w := by
  have e : ∀ w ∈ ws, (lg 0 ws : Nat) * w.fdiv (lg 0 ws : Nat) = w := fun w hw => by
    have h1 : ((lg 0 ws : Nat) : Int) ∣ w := by
      have := (lg_dvd ws 0).2 w hw
      exact Int.ofNat_dvd_left.mpr this
    rw [Int.fdiv_eq_ediv_of_nonneg _ (by omega)]
    exact Int.mul_ediv_cancel' h1
  refine ⟨⟨fun x hx => ?_, ?_⟩, e⟩
  · obtain ⟨w, hw, rfl⟩ := List.mem_map.mp hx
    exact Int.fdiv_nonneg (h w hw) (by omega)
  · have h1 : (lg 0 ws) * lg 0 (ws.map fun w => w.fdiv (lg 0 ws : Nat)) ∣ lg 0 ws := by
      refine dvd_lg ws 0 (Nat.dvd_zero _) fun w hw => ?_
      have h2 := (lg_dvd (ws.map fun w => w.fdiv (lg 0 ws : Nat)) 0).2 _ (List.mem_map.mpr ⟨w, hw, rfl⟩)
      have h3 := congrArg Int.natAbs (e w hw)
      rw [Int.natAbs_mul, Int.natAbs_natCast] at h3
      rw [← h3]
      exact Nat.mul_dvd_mul_left _ h2
    obtain ⟨c, hc⟩ := h1
    have h4 : lg 0 (ws.map fun w => w.fdiv (lg 0 ws : Nat)) * c = 1 := by
      refine Nat.eq_of_mul_eq_mul_left hg ?_
      rw [Nat.mul_one, ← Nat.mul_assoc]
      exact hc.symm
    exact Nat.eq_one_of_mul_eq_one_right h4
theorem r_reduced {st : Store} {m : Nat} {ws : List Int} (hm : lstAt st m = some (ws.map D.int)) (hl : ws.length ≤ 16777216) (hg : 0 < lg 0 ws) (hb : lg 0 ws < 2 ^ 8000) : f_reduced [.ref m] st = .ok (itup (ws.map fun w => w.fdiv (lg 0 ws : Nat))) st := by
  have main := for_fold (q := .cell m (ws.map D.int)) (set := gN 2) (u := sSet 1 (eCB fGcd (aCons (eVar 1) (aCons (eVar 2) aNil)))) (st := st) (by simp [Sq.chk, hm]) D.int (fun (a : Nat) (w : Int) => Nat.gcd a w.natAbs) (fun b t => [some (.ref m), some (.int (b : Nat)), t]) (fun _ => True) ws 0 none trivial (fun b t a ha _ => ⟨trivial, [some (.ref m), some (.int (b : Nat)), some (.int a)], rfl, by simp⟩)
  obtain ⟨⟨t', e⟩, _⟩ := main
  have od : ∀ i, okDiv i (lg 0 ws : Nat) = true := fun i => okDiv_of (by omega) (by
    rw [Int.natAbs_natCast]
    exact Nat.lt_of_le_of_lt (log2_le hb) (by decide))
  have c := comp_map (q := .cell m (ws.map D.int)) (set := gN 2) (fe := eBin oDiv (eVar 2) (eVar 1)) (τ := [some (.ref m), some (.int (lg 0 ws : Nat)), none]) (st := st) (by simp [Sq.chk, hm]) D.int (fun w => .int (w.fdiv (lg 0 ws : Nat))) ws [] (fun w _ => ⟨[some (.ref m), some (.int (lg 0 ws : Nat)), some (.int w)], rfl, by simp [od]⟩)
  rw [List.nil_append] at c
  obtain ⟨G, eG⟩ : ∃ G, G = lg 0 ws := ⟨_, rfl⟩
  have e : forL (.cell m (ws.map D.int)) (gN 2) (sSet 1 (eCB fGcd (aCons (eVar 1) (aCons (eVar 2) aNil)))) (ws.map D.int) [some (.ref m), some (.int 0), none] st = .nx [some (.ref m), some (.int (lg 0 ws : Nat)), t'] st := e
  rw [← eG] at e c ⊢
  have er : (ws.map fun w => D.int (w.fdiv (G : Nat))) = (ws.map fun w => w.fdiv (G : Nat)).map D.int := by rw [List.map_map]; rfl
  rw [er] at c
  obtain ⟨R, eR⟩ : ∃ R, R = ws.map fun w => w.fdiv (G : Nat) := ⟨_, rfl⟩
  rw [← eR] at c ⊢
  obtain ⟨W, eW⟩ : ∃ W, W = ws.map D.int := ⟨_, rfl⟩
  have lW : W.length ≤ 16777216 := by rw [eW, List.length_map]; exact hl
  rw [← eW] at e c hm
  unfold f_reduced
  rw [runB_e]
  unfold m_reduced
  simp [sFor_e, dSq_ref hm, List.replicate, e, lComp_e, lc1, wipeD, lW, c]
  rfl
/-- whole numbers in proportion to fractions -/
def Prp (xs : List Int) (ps : List Rat) : Prop := ∃ c : Rat, 0 < c ∧ xs.map (fun x : Int => (x : Rat)) = ps.map (c * ·)
theorem lg_mul {c : Nat} : ∀ (l : List Int) (g : Nat), lg (c * g) (l.map fun w => (c : Int) * w) = c * lg g l
  | [], g => rfl
  | w :: l, g => by
    have ih := lg_mul (c := c) l (Nat.gcd g w.natAbs)
    show lg (Nat.gcd (c * g) ((c : Int) * w).natAbs) _ = _
    rw [Int.natAbs_mul, Int.natAbs_natCast, Nat.gcd_mul_left]
    exact ih
theorem low_uniq {xs ys : List Int} (hx : Low xs) (hy : Low ys) {ps : List Rat} (h1 : Prp xs ps) (h2 : Prp ys ps) : xs = ys := by
  obtain ⟨c, hc, e1⟩ := h1
  obtain ⟨d, hd, e2⟩ := h2
  have hlen : xs.length = ys.length := by
    have a := congrArg List.length e1
    have b := congrArg List.length e2
    simp at a b
    omega
  have pt : ∀ i (h : i < xs.length) (h' : i < ys.length), (xs[i] : Rat) * d = (ys[i] : Rat) * c := fun i h h' => by
    have hp : i < ps.length := by
      have a := congrArg List.length e1
      simp at a
      omega
    have a : (xs[i] : Rat) = c * ps[i] := by
      have := congrArg (fun l => l[i]?) e1
      simpa [h, hp] using this
    have b : (ys[i] : Rat) = d * ps[i] := by
      have := congrArg (fun l => l[i]?) e2
      simpa [h', hp] using this
    rw [a, b]
    grind
  -- to whole numbers
  have hr : ∃ m n : Nat, 0 < m ∧ 0 < n ∧ ∀ i (h : i < xs.length) (h' : i < ys.length), (n : Int) * xs[i] = (m : Int) * ys[i] := by
    have hq : (0 : Rat) < c / d := by
      rw [Rat.div_def]
      exact Rat.mul_pos hc (Rat.inv_pos.mpr hd)
    obtain ⟨q, eq⟩ : ∃ q, q = c / d := ⟨_, rfl⟩
    rw [← eq] at hq
    have hn : 0 < q.num := by
      have h1 : 0 ≤ q.num := Rat.num_nonneg.mpr (Rat.le_of_lt hq)
      have h2 : q.num ≠ 0 := fun e => Rat.ne_of_gt hq (Rat.num_eq_zero.mp e)
      omega
    refine ⟨q.num.toNat, q.den, by omega, q.den_pos, fun i h h' => ?_⟩
    have a := pt i h h'
    have hq2 : q * q.den = q.num := by
      have := Rat.num_divInt_den q
      rw [Rat.divInt_eq_div] at this
      have hz : ((q.den : Int) : Rat) ≠ 0 := by
        have := q.den_pos
        rw [Rat.intCast_natCast]
        exact fun e => by
          have := Rat.natCast_eq_zero_iff.mp e
          omega
      have h3 : ((q.num : Rat) / ((q.den : Int) : Rat)) * ((q.den : Int) : Rat) = q.num := Rat.div_mul_cancel hz
      rw [this] at h3
      exact h3
    have hcd : c = q * d := by
      rw [eq, Rat.div_mul_cancel (Rat.ne_of_gt hd)]
    have e3 : ((q.den : Nat) : Rat) * (xs[i] : Rat) = (q.num : Rat) * (ys[i] : Rat) := by
      have hd0 : d ≠ 0 := Rat.ne_of_gt hd
      have : (xs[i] : Rat) = q * (ys[i] : Rat) := by
        have h4 : (xs[i] : Rat) * d = (q * (ys[i] : Rat)) * d := by rw [a, hcd]; grind
        have := congrArg (· / d) h4
        simpa [Rat.mul_div_cancel hd0] using this
      rw [this, ← hq2]
      grind
    have e4 : (((q.den : Nat) : Int) * xs[i] : Int) = q.num * ys[i] := by
      apply Rat.intCast_inj.mp
      push_cast
      exact e3
    rw [e4]
    congr 1
    omega
  obtain ⟨m, n, hm, hn, hi⟩ := hr
  have el : (xs.map fun w => (n : Int) * w) = ys.map fun w => (m : Int) * w := by
    refine List.ext_getElem (by simp [hlen]) fun i h h' => ?_
    simp at h h'
    simpa using hi i h h'
  have a := lg_mul (c := n) xs 0
  have b := lg_mul (c := m) ys 0
  rw [el, Nat.mul_zero, hx.g1] at a
  rw [Nat.mul_zero, hy.g1] at b
  have mn : m = n := by omega
  refine List.ext_getElem hlen fun i h h' => ?_
  have := hi i h h'
  rw [mn] at this
  exact Int.eq_of_mul_eq_mul_left (by omega) this

/-! chances, losses -/
/-- a row of weights -/
structure Wt (B : Nat) (ws : List Int) : Prop where
  nn : ∀ w ∈ ws, 0 ≤ w
  pos : 0 < ws.sum
  bd : ws.sum.natAbs < 2 ^ B
  len : ws.length ≤ 16777216
theorem sum_ge : ∀ {ws : List Int} {w : Int}, (∀ w ∈ ws, 0 ≤ w) → w ∈ ws → w ≤ ws.sum ∧ 0 ≤ ws.sum - w
  | v :: ws, w, h, hw => by
    have hs : 0 ≤ ws.sum := by
      have : ∀ l : List Int, (∀ w ∈ l, 0 ≤ w) → 0 ≤ l.sum := fun l => by
        induction l with
        | nil => simp
        | cons a l ih =>
          intro h
          have := ih fun w hw => h w (List.mem_cons_of_mem _ hw)
          have := h a (List.mem_cons_self ..)
          rw [List.sum_cons]
          omega
      exact this ws fun w hw => h w (List.mem_cons_of_mem _ hw)
    rw [List.sum_cons]
    have hv := h v (List.mem_cons_self ..)
    rcases List.mem_cons.mp hw with rfl | hw
    · omega
    · have := sum_ge (fun w hw => h w (List.mem_cons_of_mem _ hw)) hw
      omega
def ch (ws : List Int) (w : Int) : Rat := Rat.divInt w ws.sum
theorem Wt.qb {B : Nat} {ws : List Int} (h : Wt B ws) {w : Int} (hw : w ∈ ws) : QB B (ch ws w) := by
  have := sum_ge h.nn hw
  have := h.nn w hw
  have h2 := h.bd
  have := h.pos
  exact .of (by omega) (by omega) h2
theorem r_chancesQ {B : Nat} {ws : List Int} {st : Store} (h : Wt B ws) (hB : B ≤ 9000) : f_chances [itup ws] st = .ok (.tup (ws.map fun w => qd (ch ws w))) st := by
  have hp := h.pos
  have z : ∀ w, f_ratio [.int w, .int ws.sum] st = .ok (qd (ch ws w)) st := fun w => r_ratioQ (by omega) h.bd hB
  have c := comp_map (q := .fix (ws.map D.int)) (set := gN 2) (fe := eCall 2 f_ratio (aCons (eVar 2) (aCons (eVar 1) aNil))) (τ := [some (itup ws), some (.int ws.sum), none]) (st := st) rfl D.int (fun w => qd (ch ws w)) ws [] (fun w _ => ⟨[some (itup ws), some (.int ws.sum), some (.int w)], rfl, by simp [z]⟩)
  rw [List.nil_append] at c
  obtain ⟨S, eS⟩ : ∃ S, S = ws.sum := ⟨_, rfl⟩
  have e1 : gSum (ws.map D.int) st = .ok (.int S) st := eS ▸ gSum_ints
  rw [← eS] at c
  obtain ⟨W, eW⟩ : ∃ W, W = ws.map D.int := ⟨_, rfl⟩
  have lW : W.length ≤ 16777216 := by rw [eW, List.length_map]; exact h.len
  have eI : itup ws = .tup W := by rw [eW]; rfl
  rw [eI] at c ⊢
  rw [← eW] at c e1
  unfold f_chances
  rw [runB_e]
  unfold m_chances
  simp [List.replicate, e1, lComp_e, lc1, wipeD, lW, c]
theorem zipD_map {α β : Type} {f : α → D} {g : β → D} : ∀ {xs : List α} {ys : List β}, zipD (xs.map f) (ys.map g) = (List.zip xs ys).map fun p => .tup [f p.1, g p.2] := by
  intro xs
  induction xs with
  | nil => intro ys; rfl
  | cons x xs ih =>
    intro ys
    cases ys with
    | nil => rfl
    | cons y ys =>
      have := @ih ys
      simp [zipD] at this ⊢
      try exact this
def od : Option Rat → D
  | none => .non
  | some q => qd q
/-- a factor, a greater loss -/
def fac (P Q : Rat) : Option Rat := if Q = 0 then none else some (P / Q)
def glo (a b : Option Rat) : Option Rat := match a, b with
  | some x, some y => some (if x < y then y else x)
  | _, _ => none
def OB (k : Nat) (a : Option Rat) : Prop := ∀ x, a = some x → QB k x
theorem r_factorQ {k l : Nat} {P Q : Rat} {st : Store} (hP : QB k P) (hQ : QB l Q) (hk : k + l ≤ 9000) : f_factor_of [qd P, qd Q] st = .ok (od (fac P Q)) st := by
  have e : atI [D.int Q.num, .int (Q.den : Nat)] 0 = some (.int Q.num) := atI_0
  unfold f_factor_of fac
  rw [runB_e]
  unfold m_factor_of
  by_cases h : Q = 0
  · subst h
    simp [qd_tup]
    rfl
  · have hn := num_ne h
    have z := r_overQ (st := st) hP hQ h hk
    rw [if_neg h]
    rw [qd_tup (x := Q)] at z ⊢
    simp [e, hn, z]
    rfl
theorem r_greaterQ {k l : Nat} {a b : Option Rat} {st : Store} (ha : OB k a) (hb : OB l b) (hk : k + l ≤ 9000) : f_greater_loss [od a, od b] st = .ok (od (glo a b)) st := by
  unfold f_greater_loss
  rw [runB_e]
  unfold m_greater_loss
  cases a with
  | none => simp [od, glo]
  | some x =>
    cases b with
    | none => simp [od, glo, qd_tup]
    | some y =>
      have z := r_belowQ (st := st) (ha x rfl) (hb y rfl) hk
      have i1 : ∀ s, oIs (qd x) .non s = .ok (.bl false) s := fun _ => rfl
      have i2 : ∀ s, oIs (qd y) .non s = .ok (.bl false) s := fun _ => rfl
      by_cases h : x < y
      · rw [decide_eq_true h] at z
        simp [od, glo, i1, i2, z, h]
      · rw [decide_eq_false h] at z
        simp [od, glo, i1, i2, z, h]
theorem OB.fac {k l : Nat} {P Q : Rat} (hP : QB k P) (hQ : QB l Q) : OB (k + l) (fac P Q) := fun x hx => by
  unfold K24.fac at hx
  split at hx
  · cases hx
  · rename_i h
    cases hx
    exact hP.div hQ h
theorem OB.glo {k : Nat} {a b : Option Rat} (ha : OB k a) (hb : OB k b) : OB k (glo a b) := fun x hx => by
  cases a with
  | none => cases hx
  | some y =>
    cases b with
    | none => cases hx
    | some z =>
      have hx : some (if y < z then z else y) = some x := hx
      split at hx <;> cases hx
      · exact hb _ rfl
      · exact ha _ rfl
def stp (a : Option Rat) (p : Rat × Rat) : Option Rat := if 0 < p.1 then glo a (fac p.1 p.2) else a
def lss (ps : List (Rat × Rat)) : Option Rat := ps.foldl stp (some 1)
def prw (ws vs : List Int) : List (Rat × Rat) := List.zip (ws.map (ch ws)) (vs.map (ch vs))
theorem qb_one {k : Nat} (h : 1 ≤ k) : QB k 1 := ⟨lt_up (k := 1) (by decide) h, lt_up (k := 1) (by decide) h⟩
theorem r_row_lossQ {B : Nat} {ws vs : List Int} {st : Store} (hw : Wt B ws) (hv : Wt B vs) (hl : ws.length = vs.length) (hB : B ≤ 2000) (hB1 : 1 ≤ B) : f_row_loss [itup ws, itup vs] st = .ok (od (lss (prw ws vs))) st ∧ OB (B + B) (lss (prw ws vs)) := by
  have c1 := r_chancesQ (st := st) hw (by omega)
  have c2 := r_chancesQ (st := st) hv (by omega)
  have hq : ∀ p ∈ prw ws vs, QB B p.1 ∧ QB B p.2 := fun p hp => by
    have := List.of_mem_zip hp
    obtain ⟨w, h1, h2⟩ := List.mem_map.mp this.1
    obtain ⟨v, h3, h4⟩ := List.mem_map.mp this.2
    rw [← h2, ← h4]
    exact ⟨hw.qb h1, hv.qb h3⟩
  obtain ⟨A, hA⟩ : ∃ A, A = ws.map fun w => qd (ch ws w) := ⟨_, rfl⟩
  obtain ⟨C, hC⟩ : ∃ C, C = vs.map fun w => qd (ch vs w) := ⟨_, rfl⟩
  have eZ : ∀ s, zip2 (.tup A) (.tup C) s = .ok (.fix ((prw ws vs).map fun p => .tup [qd p.1, qd p.2])) s := fun s => by
    have a1 : A = (ws.map (ch ws)).map qd := by rw [hA, List.map_map]; rfl
    have a2 : C = (vs.map (ch vs)).map qd := by rw [hC, List.map_map]; rfl
    rw [zip2_tup, a1, a2, zipD_map]
    rfl
  rw [← hA] at c1
  rw [← hC] at c2
  have main := for_fold (q := .fix ((prw ws vs).map fun p => D.tup [qd p.1, qd p.2])) (set := gT 2 (gCs 3 (gCs 4 gNil0))) (u := sIf (tBl (eBin oGt (eBin oIx (eVar 3) (eC (.int 0))) (eC (.int 0)))) (sSet 2 (eCall 2 f_greater_loss (aCons (eVar 2) (aCons (eCall 2 f_factor_of (aCons (eVar 3) (aCons (eVar 4) aNil))) aNil)))) sNil) (st := st) rfl (fun p : Rat × Rat => D.tup [qd p.1, qd p.2])
    (fun (b : Option Rat × Option D × Option D) p => (stp b.1 p, some (qd p.1), some (qd p.2))) (fun b _ => [some (itup ws), some (itup vs), some (od b.1), b.2.1, b.2.2]) (fun b => OB (B + B) b.1) (prw ws vs) (some 1, none, none) none (fun x hx => by cases hx; exact qb_one (by omega)) (fun b t p hp hb => by
      have hp := hq p hp
      have o1 := OB.fac hp.1 hp.2
      refine ⟨?_, [some (itup ws), some (itup vs), some (od b.1), some (qd p.1), some (qd p.2)], rfl, ?_⟩
      · show OB _ (stp b.1 p)
        unfold stp
        split
        · exact hb.glo o1
        · exact hb
      · have z1 := r_factorQ (st := st) hp.1 hp.2 (by omega)
        have z2 := r_greaterQ (st := st) hb o1 (by omega)
        have i0 : ∀ s, oIx (qd p.1) (.int 0) s = .ok (.int p.1.num) s := fun s => by rw [qd_tup]; simp
        have hn : (0 < p.1.num) = (0 < p.1) := by
          refine propext ⟨fun h => ?_, fun h => ?_⟩
          · exact Rat.lt_of_le_of_ne (Rat.num_nonneg.mp (by omega)) (fun e => by rw [← e] at h; simp at h)
          · have a := Rat.num_nonneg.mpr (Rat.le_of_lt h)
            have b := num_ne (Rat.ne_of_gt h)
            omega
        unfold stp
        by_cases h : 0 < p.1
        · have h' : 0 < p.1.num := by rw [hn]; exact h
          simp [i0, h', h, z1, z2]
        · have h' : ¬ 0 < p.1.num := by rw [hn]; exact h
          simp [i0, h', h])
  obtain ⟨⟨t', e⟩, h2⟩ := main
  have hfst : ∀ (l : List (Rat × Rat)) (a : Option Rat) (x y : Option D), (l.foldl (fun (b : Option Rat × Option D × Option D) p => (stp b.1 p, some (qd p.1), some (qd p.2))) (a, x, y)).1 = l.foldl stp a := fun l => by
    induction l with
    | nil => intro a x y; rfl
    | cons p l ih => intro a x y; exact ih _ _ _
  refine ⟨?_, ?_⟩
  · have e : forL (.fix ((prw ws vs).map fun p => D.tup [qd p.1, qd p.2])) (gT 2 (gCs 3 (gCs 4 gNil0))) (sIf (tBl (eBin oGt (eBin oIx (eVar 3) (eC (.int 0))) (eC (.int 0)))) (sSet 2 (eCall 2 f_greater_loss (aCons (eVar 2) (aCons (eCall 2 f_factor_of (aCons (eVar 3) (aCons (eVar 4) aNil))) aNil)))) sNil) ((prw ws vs).map fun p => D.tup [qd p.1, qd p.2]) [some (itup ws), some (itup vs), some (qd 1), none, none] st = _ := e
    rw [hfst] at e
    obtain ⟨Z, hZ⟩ : ∃ Z, Z = (prw ws vs).map fun p => D.tup [qd p.1, qd p.2] := ⟨_, rfl⟩
    rw [← hZ] at e eZ
    unfold f_row_loss
    rw [runB_e]
    unfold m_row_loss
    have q1 : q_ONE = qd 1 := rfl
    simp [List.replicate, q1, sFor_e, c1, c2, -zip2_tup, eZ, e]
    rfl
  · rw [hfst] at h2
    exact h2

theorem r_is_fracQ {k : Nat} {x : Rat} {st : Store} (hx : QB k x) (hk : k ≤ 8000) : f__law_is_frac [qd x] st = .ok (.bl true) st := by
  have g : f__law_gcd [.int x.num, .int (x.den : Nat)] st = _ := r_gcd (lt_up hx.bi (by omega))
  rw [Int.natAbs_natCast, show x.num.natAbs.gcd x.den = 1 from x.reduced] at g
  have h1 : (1 : Int) ≤ (x.den : Nat) := by have := x.den_pos; omega
  simp [f__law_is_frac, runB_e, m__law_is_frac, qd_tup, r_is_int, g, h1]

/-! what a loss is -/
def IsL (ps : List (Rat × Rat)) (o : Option Rat) : Prop := match o with
  | none => ∃ p ∈ ps, 0 < p.1 ∧ p.2 = 0
  | some L => 1 ≤ L ∧ (∀ p ∈ ps, 0 < p.1 → p.2 ≠ 0 ∧ p.1 / p.2 ≤ L) ∧ (L = 1 ∨ ∃ p ∈ ps, 0 < p.1 ∧ p.2 ≠ 0 ∧ L = p.1 / p.2)
theorem isL_stp {ps : List (Rat × Rat)} {a : Option Rat} {p : Rat × Rat} (h : IsL ps a) : IsL (ps ++ [p]) (stp a p) := by
  unfold stp
  cases a with
  | none =>
    obtain ⟨r, hr, h1⟩ := h
    have : (if 0 < p.1 then glo none (fac p.1 p.2) else none) = none := by split <;> rfl
    rw [this]
    exact ⟨r, List.mem_append_left _ hr, h1⟩
  | some L =>
    obtain ⟨h1, h2, h3⟩ := h
    by_cases hp : 0 < p.1
    · rw [if_pos hp]
      unfold fac
      by_cases hq : p.2 = 0
      · rw [if_pos hq]
        exact ⟨p, by simp, hp, hq⟩
      · rw [if_neg hq]
        show IsL _ (some (if L < p.1 / p.2 then p.1 / p.2 else L))
        by_cases hl : L < p.1 / p.2
        · rw [if_pos hl]
          refine ⟨Rat.le_trans h1 (Rat.le_of_lt hl), fun r hr hr1 => ?_, .inr ⟨p, by simp, hp, hq, rfl⟩⟩
          rcases List.mem_append.mp hr with hr | hr
          · exact ⟨(h2 r hr hr1).1, Rat.le_trans (h2 r hr hr1).2 (Rat.le_of_lt hl)⟩
          · rw [List.mem_singleton.mp hr]
            exact ⟨hq, Rat.le_refl⟩
        · rw [if_neg hl]
          refine ⟨h1, fun r hr hr1 => ?_, ?_⟩
          · rcases List.mem_append.mp hr with hr | hr
            · exact h2 r hr hr1
            · rw [List.mem_singleton.mp hr]
              exact ⟨hq, Rat.not_lt.mp hl⟩
          · rcases h3 with h3 | ⟨r, hr, h4⟩
            · exact .inl h3
            · exact .inr ⟨r, List.mem_append_left _ hr, h4⟩
    · rw [if_neg hp]
      refine ⟨h1, fun r hr hr1 => ?_, ?_⟩
      · rcases List.mem_append.mp hr with hr | hr
        · exact h2 r hr hr1
        · rw [List.mem_singleton.mp hr] at hr1
          exact absurd hr1 hp
      · rcases h3 with h3 | ⟨r, hr, h4⟩
        · exact .inl h3
        · exact .inr ⟨r, List.mem_append_left _ hr, h4⟩
theorem isL_fold : ∀ (l done : List (Rat × Rat)) (a : Option Rat), IsL done a → IsL (done ++ l) (l.foldl stp a)
  | [], done, a, h => by rw [List.append_nil]; exact h
  | p :: l, done, a, h => by
    have := isL_fold l (done ++ [p]) (stp a p) (isL_stp h)
    rw [List.append_assoc] at this
    exact this
theorem lss_isL (ps : List (Rat × Rat)) : IsL ps (lss ps) := by
  have := isL_fold ps [] (some 1) ⟨Rat.le_refl, by simp, .inl rfl⟩
  rwa [List.nil_append] at this
theorem isL_uniq {ps : List (Rat × Rat)} {a b : Option Rat} (ha : IsL ps a) (hb : IsL ps b) : a = b := by
  cases a with
  | none =>
    cases b with
    | none => rfl
    | some L =>
      obtain ⟨p, hp, h1, h2⟩ := ha
      exact absurd h2 (hb.2.1 p hp h1).1
  | some L =>
    cases b with
    | none =>
      obtain ⟨p, hp, h1, h2⟩ := hb
      exact absurd h2 (ha.2.1 p hp h1).1
    | some M =>
      have le : ∀ L M : Rat, IsL ps (some L) → IsL ps (some M) → L ≤ M := fun L M ⟨_, _, h3⟩ ⟨g1, g2, _⟩ => by
        rcases h3 with rfl | ⟨p, hp, h4, _, rfl⟩
        · exact g1
        · exact (g2 p hp h4).2
      rw [Rat.le_antisymm (le L M ha hb) (le M L hb ha)]
theorem isL_ge {ps : List (Rat × Rat)} {a : Option Rat} (h : IsL ps a) : ∀ x, a = some x → 1 ≤ x := fun x e => by subst e; exact h.1

/-! sums -/
theorem sum_mul {c : Rat} : ∀ ps : List Rat, (ps.map (c * ·)).sum = c * ps.sum
  | [] => by simp
  | p :: ps => by
    rw [List.map_cons, List.sum_cons, List.sum_cons, sum_mul ps]
    grind
theorem sum_cast : ∀ xs : List Int, (xs.map fun x : Int => (x : Rat)).sum = (xs.sum : Int)
  | [] => by simp
  | x :: xs => by
    rw [List.map_cons, List.sum_cons, List.sum_cons, sum_cast xs, Rat.intCast_add]
/-- the chances of weights in proportion -/
theorem prp_ch {xs : List Int} {ps : List Rat} (h : Prp xs ps) (hs : ps.sum = 1) : xs.map (ch xs) = ps ∧ 0 < xs.sum := by
  obtain ⟨c, hc, e⟩ := h
  have e1 : (xs.sum : Rat) = c := by rw [← sum_cast, e, sum_mul, hs, Rat.mul_one]
  have hp : 0 < xs.sum := by
    have : (0 : Rat) < (xs.sum : Int) := by rw [e1]; exact hc
    exact Rat.intCast_pos.mp this
  refine ⟨?_, hp⟩
  have e2 : xs.map (ch xs) = (xs.map fun x : Int => (x : Rat)).map (· / c) := by
    rw [List.map_map]
    refine List.map_congr_left fun x _ => ?_
    show Rat.divInt x xs.sum = (x : Rat) / c
    rw [Rat.divInt_eq_div, e1]
  rw [e2, e, List.map_map]
  conv => rhs; rw [← List.map_id ps]
  refine List.map_congr_left fun p _ => ?_
  show c * p / c = p
  have hz := Rat.ne_of_gt hc
  grind

/-! lowest: whole numbers from fractions -/
def lc (g : Nat) (ps : List Rat) : Nat := ps.foldl (fun b p => Nat.lcm b p.den) g
theorem lc_dvd : ∀ (ps : List Rat) (g : Nat), g ∣ lc g ps ∧ ∀ p ∈ ps, p.den ∣ lc g ps
  | [], g => ⟨Nat.dvd_refl _, by simp⟩
  | p :: ps, g => by
    have ih := lc_dvd ps (Nat.lcm g p.den)
    refine ⟨Nat.dvd_trans (Nat.dvd_lcm_left ..) ih.1, fun r hr => ?_⟩
    rcases List.mem_cons.mp hr with rfl | hr
    · exact Nat.dvd_trans (Nat.dvd_lcm_right ..) ih.1
    · exact ih.2 r hr
theorem lc_of {N : Nat} : ∀ (ps : List Rat) (g : Nat), g ∣ N → (∀ p ∈ ps, p.den ∣ N) → lc g ps ∣ N
  | [], g, h, _ => h
  | p :: ps, g, h, hp => lc_of ps _ (Nat.lcm_dvd h (hp p (List.mem_cons_self ..))) fun r hr => hp r (List.mem_cons_of_mem _ hr)
def zs (B : Nat) (ps : List Rat) : List Int := ps.map fun p => p.num * ((B : Nat) : Int).fdiv (p.den : Nat)
theorem rat_num (p : Rat) : p * ((p.den : Int) : Rat) = p.num := by
  have h := Rat.num_divInt_den p
  rw [Rat.divInt_eq_div] at h
  have hz : ((p.den : Int) : Rat) ≠ 0 := fun e => by
    have := p.den_pos
    have := Rat.intCast_eq_zero_iff.mp e
    omega
  have := Rat.div_mul_cancel (a := (p.num : Rat)) hz
  rwa [h] at this
theorem zs_eq {B : Nat} {p : Rat} (h : p.den ∣ B) : ((p.num * ((B : Nat) : Int).fdiv (p.den : Nat) : Int) : Rat) = p * ((B : Int) : Rat) := by
  obtain ⟨c, rfl⟩ := h
  have hd : (p.den : Int) ≠ 0 := den_ne
  rw [Int.fdiv_eq_ediv_of_nonneg _ (by omega), Int.natCast_mul, Int.mul_ediv_cancel_left _ hd, Rat.intCast_mul, Rat.intCast_mul, ← rat_num p, Rat.mul_assoc]
theorem sum_red {g : Int} {f : Int → Int} : ∀ {l : List Int}, (∀ w ∈ l, g * f w = w) → g * (l.map f).sum = l.sum
  | [], _ => by simp
  | w :: l, h => by
    rw [List.map_cons, List.sum_cons, List.sum_cons, Int.mul_add, h w (List.mem_cons_self ..), sum_red fun v hv => h v (List.mem_cons_of_mem _ hv)]
theorem r_lowestQ {st : Store} {ps : List Rat} {N k : Nat} (hk : k ≤ 2000) (hN0 : 0 < N) (hN : N < 2 ^ k) (hd : ∀ p ∈ ps, p.den ∣ N) (hn : ∀ p ∈ ps, 0 ≤ p ∧ p.num.natAbs < 2 ^ k) (hs : ps.sum = 1) (hl : ps.length ≤ 16777216) :
    ∃ xs st', f_lowest [.tup (ps.map qd)] st = .ok (itup xs) st' ∧ Gr st st' ∧ Low xs ∧ Prp xs ps ∧ xs.sum ≤ (N : Nat) := by
  have main := for_fold (q := .fix (ps.map qd)) (set := gN 2) (u := sSet 1 (eCB fLcm (aCons (eVar 1) (aCons (eBin oIx (eVar 2) (eC (.int 1))) aNil)))) (st := st) rfl qd (fun (b : Nat) (p : Rat) => Nat.lcm b p.den) (fun b t => [some (.tup (ps.map qd)), some (.int (b : Nat)), t]) (fun b => b ∣ N) ps 1 none (Nat.one_dvd _) (fun b t p hp hb => by
    refine ⟨Nat.lcm_dvd hb (hd p hp), [some (.tup (ps.map qd)), some (.int (b : Nat)), some (qd p)], rfl, ?_⟩
    have l1 : b ≤ N := Nat.le_of_dvd hN0 hb
    have l2 : p.den ≤ N := Nat.le_of_dvd hN0 (hd p hp)
    have z := fLcm_W (st := st) (a := (b : Nat)) (b := (p.den : Nat)) (by rw [Int.natAbs_natCast]; exact lt_up (Nat.lt_of_le_of_lt l1 hN) (by omega)) (by rw [Int.natAbs_natCast]; exact lt_up (Nat.lt_of_le_of_lt l2 hN) (by omega))
    rw [Int.natAbs_natCast, Int.natAbs_natCast] at z
    simp [qd_tup, z])
  obtain ⟨⟨t', e⟩, hB⟩ := main
  have e : forL (.fix (ps.map qd)) (gN 2) (sSet 1 (eCB fLcm (aCons (eVar 1) (aCons (eBin oIx (eVar 2) (eC (.int 1))) aNil)))) (ps.map qd) [some (.tup (ps.map qd)), some (.int 1), none] st = .nx [some (.tup (ps.map qd)), some (.int (lc 1 ps : Nat)), t'] st := e
  obtain ⟨B, eB⟩ : ∃ B, B = lc 1 ps := ⟨_, rfl⟩
  have hB : B ∣ N := eB ▸ hB
  have dB : ∀ p ∈ ps, p.den ∣ B := fun p hp => eB ▸ (lc_dvd ps 1).2 p hp
  have B0 : 0 < B := Nat.pos_of_dvd_of_pos hB hN0
  rw [← eB] at e
  have c := comp_map (q := .fix (ps.map qd)) (set := gN 2) (fe := eBin oMul (eBin oIx (eVar 2) (eC (.int 0))) (eBin oDiv (eVar 1) (eBin oIx (eVar 2) (eC (.int 1))))) (τ := [some (.tup (ps.map qd)), some (.int (B : Nat)), none]) (st := st) rfl qd (fun p => .int (p.num * ((B : Nat) : Int).fdiv (p.den : Nat))) ps [] (fun p hp => by
    refine ⟨[some (.tup (ps.map qd)), some (.int (B : Nat)), some (qd p)], rfl, ?_⟩
    have h1 := (hn p hp).2
    have h2 : p.den ≤ N := Nat.le_of_dvd hN0 (hd p hp)
    have o1 : okMul p.num (((B : Nat) : Int).fdiv (p.den : Nat)) = true := okMul_of (l := k) h1 (by
      rw [Int.fdiv_eq_ediv_of_nonneg _ (by omega), ← Int.natCast_ediv, Int.natAbs_natCast]
      exact Nat.lt_of_le_of_lt (Nat.div_le_self _ _) (Nat.lt_of_le_of_lt (Nat.le_of_dvd hN0 hB) hN)) (by omega)
    have o2 : okDiv (B : Nat) (p.den : Nat) = true := okDiv_of den_ne (by
      rw [Int.natAbs_natCast]
      exact Nat.lt_of_le_of_lt (log2_le (Nat.lt_of_le_of_lt h2 hN)) (by omega))
    simp [qd_tup, o1, o2])
  rw [List.nil_append, show (ps.map fun p => D.int (p.num * ((B : Nat) : Int).fdiv (p.den : Nat))) = (zs B ps).map D.int by unfold zs; rw [List.map_map]; rfl] at c
  have zc : (zs B ps).map (fun x : Int => (x : Rat)) = ps.map (((B : Int) : Rat) * ·) := by
    unfold zs
    rw [List.map_map]
    refine List.map_congr_left fun p hp => ?_
    show ((p.num * ((B : Nat) : Int).fdiv (p.den : Nat) : Int) : Rat) = _
    rw [zs_eq (dB p hp), Rat.mul_comm]
  have Bq : (0 : Rat) < ((B : Int) : Rat) := Rat.intCast_pos.mpr (by omega)
  have zn : ∀ z ∈ zs B ps, 0 ≤ z := fun z hz => by
    obtain ⟨p, hp, rfl⟩ := List.mem_map.mp hz
    have h1 : 0 ≤ p.num := Rat.num_nonneg.mpr (hn p hp).1
    exact Int.mul_nonneg h1 (Int.fdiv_nonneg (by omega) (by omega))
  have zsum : (((zs B ps).sum : Int) : Rat) = ((B : Int) : Rat) := by rw [← sum_cast, zc, sum_mul, hs, Rat.mul_one]
  have zsum : (zs B ps).sum = B := Rat.intCast_inj.mp zsum
  obtain ⟨z, hz, hz0⟩ : ∃ z ∈ zs B ps, z ≠ 0 := Classical.byContradiction fun h => by
    have hall : ∀ z ∈ zs B ps, z = 0 := fun z hz => Classical.byContradiction fun h2 => h ⟨z, hz, h2⟩
    have : ∀ l : List Int, (∀ z ∈ l, z = 0) → l.sum = 0 := fun l => by
      induction l with
      | nil => simp
      | cons a l ih =>
        intro h
        rw [List.sum_cons, h a (List.mem_cons_self ..), ih fun z hz => h z (List.mem_cons_of_mem _ hz)]
        rfl
    rw [this _ hall] at zsum
    omega
  have zle := sum_ge zn hz
  have gp := lg_pos hz hz0
  have gl := lg_le hz hz0
  have gb : lg 0 (zs B ps) < 2 ^ k := by
    have := Nat.le_of_dvd hN0 hB
    have := zn z hz
    refine Nat.lt_of_le_of_lt ?_ hN
    omega
  obtain ⟨lo, le⟩ := low_red zn gp
  have r := r_reduced (st := st ++ [.lst ((zs B ps).map D.int)]) (m := st.length) lstAt_new (by unfold zs; rw [List.length_map]; exact hl) gp (lt_up gb (by omega))
  refine ⟨_, _, ?_, Gr.app (c := .lst ((zs B ps).map D.int)), lo, ⟨((B : Int) : Rat) / ((lg 0 (zs B ps) : Nat) : Int), ?_, ?_⟩, ?_⟩
  · obtain ⟨W, hW⟩ : ∃ W, W = ps.map qd := ⟨_, rfl⟩
    have lW : W.length ≤ 16777216 := by rw [hW, List.length_map]; exact hl
    rw [← hW] at e c ⊢
    unfold f_lowest
    rw [runB_e]
    unfold m_lowest
    simp [List.replicate, sFor_e, e, lComp_e, lc1, wipeD, lW, c, r]
  · rw [Rat.div_def]
    exact Rat.mul_pos Bq (Rat.inv_pos.mpr (Rat.intCast_pos.mpr (by omega)))
  · have hg : (((lg 0 (zs B ps) : Nat) : Int) : Rat) ≠ 0 := fun e => by
      have := Rat.intCast_eq_zero_iff.mp e
      omega
    rw [List.map_map]
    have : ∀ w ∈ zs B ps, ((w.fdiv (lg 0 (zs B ps) : Nat) : Int) : Rat) = (w : Rat) / ((lg 0 (zs B ps) : Nat) : Int) := fun w hw => by
      have h1 := congrArg (fun z : Int => (z : Rat)) (le w hw)
      simp only [Rat.intCast_mul] at h1
      rw [← h1]
      grind
    rw [show (zs B ps).map ((fun x : Int => (x : Rat)) ∘ fun w => w.fdiv (lg 0 (zs B ps) : Nat)) = (zs B ps).map (fun w : Int => (w : Rat) / (((lg 0 (zs B ps) : Nat) : Int) : Rat)) from List.map_congr_left this]
    have : (zs B ps).map (fun w : Int => (w : Rat) / ((lg 0 (zs B ps) : Nat) : Int)) = ((zs B ps).map (fun x : Int => (x : Rat))).map (· / (((lg 0 (zs B ps) : Nat) : Int) : Rat)) := by rw [List.map_map]; rfl
    rw [this, zc, List.map_map]
    refine List.map_congr_left fun p _ => ?_
    show _ * p / _ = _ / _ * p
    grind
  · have h1 := sum_red le
    rw [zsum] at h1
    have h2 := Nat.le_of_dvd hN0 hB
    have h3 : 1 * ((zs B ps).map fun w => w.fdiv (lg 0 (zs B ps) : Nat)).sum ≤ (lg 0 (zs B ps) : Nat) * ((zs B ps).map fun w => w.fdiv (lg 0 (zs B ps) : Nat)).sum ∨ ((zs B ps).map fun w => w.fdiv (lg 0 (zs B ps) : Nat)).sum < 0 := by
      by_cases h : 0 ≤ ((zs B ps).map fun w => w.fdiv (lg 0 (zs B ps) : Nat)).sum
      · exact .inl (Int.mul_le_mul_of_nonneg_right (by omega) h)
      · exact .inr (by omega)
    rcases h3 with h3 | h3 <;> omega
theorem r_is_ints {xs : List Int} {st : Store} (hl : xs.length ≤ 16777216) : f__law_is_ints [itup xs] st = .ok (.bl true) st := by
  have c := comp_map (q := .fix (xs.map D.int)) (set := gN 1) (fe := eCall 1 f__law_is_int (aCons (eVar 1) aNil)) (τ := [some (itup xs), none]) (st := st) rfl D.int (fun _ => .bl true) xs [] (fun x _ => ⟨[some (itup xs), some (.int x)], rfl, by simp [r_is_int]⟩)
  rw [List.nil_append, show (xs.map fun _ => D.bl true) = (xs.map fun _ => true).map D.bl by rw [List.map_map]; rfl] at c
  have ha : (xs.map fun _ => true).all id = true := by simp
  obtain ⟨V, hV⟩ : ∃ V, V = xs.map fun _ => true := ⟨_, rfl⟩
  have ha : gAllB (V.map D.bl) st = .ok (.bl true) st := by rw [gAllB_bls, hV, ha]
  rw [← hV] at c
  obtain ⟨W, hW⟩ : ∃ W, W = xs.map D.int := ⟨_, rfl⟩
  have lW : W.length ≤ 16777216 := by rw [hW, List.length_map]; exact hl
  have eI : itup xs = .tup W := by rw [hW]; rfl
  rw [eI] at c ⊢
  rw [← hW] at c
  unfold f__law_is_ints
  rw [runB_e]
  unfold m__law_is_ints
  simp [lComp_e, lc1, wipeD, lW, c, ha]
theorem r_is_lowest {xs : List Int} {n : Int} {st : Store} (h : Low xs) (hn : n = xs.length) (hl : xs.length ≤ 16777216) (hb : ∀ x ∈ xs, x.natAbs < 2 ^ 8000) : f__law_is_lowest [itup xs, .int n] st = .ok (.bl true) st := by
  subst hn
  have main := for_fold (q := .fix (xs.map D.int)) (set := gN 3) (u := sSeq (sIf (tBl (eBin oLt (eVar 3) (eC (.int 0)))) (sRet (eC (.bl false))) sNil)
    (sSet 2 (eCall 2 f__law_gcd (aCons (eVar 2) (aCons (eVar 3) aNil))))) (st := st) rfl D.int (fun (a : Nat) (w : Int) => Nat.gcd a w.natAbs) (fun b t => [some (itup xs), some (.int (xs.length : Nat)), some (.int (b : Nat)), t]) (fun _ => True) xs 0 none trivial (fun b t a ha _ => by
      have g : f__law_gcd [.int (b : Nat), .int a] st = _ := r_gcd (lt_up (hb a ha) (by decide))
      rw [Int.natAbs_natCast] at g
      have h0 := h.nn a ha
      exact ⟨trivial, [some (itup xs), some (.int (xs.length : Nat)), some (.int (b : Nat)), some (.int a)], rfl, by simp [g, show ¬ a < 0 by omega]⟩)
  obtain ⟨⟨t', e⟩, _⟩ := main
  have e : forL (.fix (xs.map D.int)) (gN 3) (sSeq (sIf (tBl (eBin oLt (eVar 3) (eC (.int 0)))) (sRet (eC (.bl false))) sNil)
    (sSet 2 (eCall 2 f__law_gcd (aCons (eVar 2) (aCons (eVar 3) aNil))))) (xs.map D.int) [some (itup xs), some (.int (xs.length : Nat)), some (.int 0), none] st = .nx [some (itup xs), some (.int (xs.length : Nat)), some (.int (lg 0 xs : Nat)), t'] st := e
  rw [h.g1] at e
  have i := r_is_ints (st := st) hl
  have d : dSq st (itup xs) = some (.fix (xs.map D.int)) := rfl
  have f : fLen [itup xs] st = .ok (.int (xs.length : Nat)) st := by unfold itup; rw [fLen_tup, List.length_map]
  unfold f__law_is_lowest
  rw [runB_e]
  unfold m__law_is_lowest
  simp [List.replicate, i, f, sFor_e, d, e]

/-! powers of fractions -/
theorem rpow_add {x : Rat} {a : Nat} : ∀ b : Nat, x ^ (a + b) = x ^ a * x ^ b
  | 0 => by rw [Nat.add_zero, Rat.pow_zero, Rat.mul_one]
  | b + 1 => by rw [← Nat.add_assoc, Rat.pow_succ, rpow_add b, Rat.pow_succ, Rat.mul_assoc]
theorem rmul_pow {x y : Rat} : ∀ b : Nat, (x * y) ^ b = x ^ b * y ^ b
  | 0 => by rw [Rat.pow_zero, Rat.pow_zero, Rat.pow_zero, Rat.mul_one]
  | b + 1 => by
    rw [Rat.pow_succ, Rat.pow_succ, Rat.pow_succ, rmul_pow b]
    grind
theorem qb_pow {x : Rat} {j : Nat} (h : QB j x) (n : Nat) : QB (j * n + 1) (x ^ n) := by
  have npow : ∀ (b : Nat), b < 2 ^ j → ∀ n : Nat, b ^ n < 2 ^ (j * n + 1) := fun b hb n => by
    have : b ^ n ≤ (2 ^ j) ^ n := Nat.pow_le_pow_left (Nat.le_of_lt hb) n
    rw [← Nat.pow_mul] at this
    exact Nat.lt_of_le_of_lt this (Nat.pow_lt_pow_right (by decide) (by omega))
  refine ⟨?_, ?_⟩
  · rw [Rat.num_pow, Int.natAbs_pow]
    exact npow _ h.an n
  · rw [Rat.den_pow]
    exact npow _ h.bn n
theorem and1 (n : Nat) : Builtin.bitAnd (n : Int) 1 = ((n % 2 : Nat) : Int) := by
  have e1 : decide (0 ≤ (n : Int)) = true := decide_eq_true (by omega)
  have e2 : decide (0 ≤ (1 : Int)) = true := rfl
  unfold Builtin.bitAnd
  rw [e1, e2]
  show ((n &&& 1 : Nat) : Int) = _
  rw [Nat.and_one_is_mod]

section
variable {st : Store} {x : Rat}
theorem half {m l : Nat} : m * (2 * l) = (m + m) * l := by rw [Nat.add_mul, ← Nat.mul_assoc, Nat.mul_comm m 2, Nat.mul_assoc, Nat.two_mul]
theorem p_times (hx : QB 10 x) (f m : Nat) (h : f + m ≤ 100) : f_times [qd (x ^ f), qd (x ^ m)] st = .ok (qd (x ^ (f + m))) st := by
  rw [rpow_add]
  exact r_timesQ (qb_pow hx f) (qb_pow hx m) (by omega)
theorem pow_loop (hx : QB 10 x) (kk X : D) :
    ∀ (n left f m : Nat), left < n → f + m * left ≤ 12 → (1 ≤ m ∧ m ≤ 24) → ∃ c', whileN (tBl (eBin oGt (eVar 4) (eC (.int 0)))) (sSeq (sIf (tVal (eBin oAnd (eVar 4) (eC (.int 1)))) (sSet 2 (eCall 2 f_times (aCons (eVar 2) (aCons (eVar 3) aNil)))) sNil)
    (sSeq (sSet 3 (eCall 2 f_times (aCons (eVar 3) (aCons (eVar 3) aNil))))
    (sSet 4 (eBin oShr (eVar 4) (eC (.int 1)))))) n [some X, some kk, some (qd (x ^ f)), some (qd (x ^ m)), some (.int left)] st = .nx [some X, some kk, some (qd (x ^ (f + m * left))), c', some (.int 0)] st
  | 0, left, f, m, h, _, _ => absurd h (Nat.not_lt_zero _)
  | n + 1, left, f, m, h, h8, hm => by
    unfold whileN
    have hg : (tBl (eBin oGt (eVar 4) (eC (.int 0)))) [some X, some kk, some (qd (x ^ f)), some (qd (x ^ m)), some (.int left)] st = .ok (decide (0 < left)) st := by simp
    rw [hg, bindE_ok]
    by_cases hl : left = 0
    · subst hl
      rw [if_neg (by simp)]
      exact ⟨_, rfl⟩
    · have hm8 : m ≤ 12 := by
        have : m * 1 ≤ m * left := Nat.mul_le_mul_left m (by omega)
        omega
      rw [decide_eq_true (show 0 < left by omega), if_pos rfl]
      have z2 := p_times (st := st) hx m m (by omega)
      have z1 := p_times (st := st) hx f m (by omega)
      have sh : okShr (left : Int) 1 = true := rfl
      have hh := half (m := m) (l := left / 2)
      by_cases odd : left % 2 = 1
      · have ee : f + m * left = f + m + (m + m) * (left / 2) := by
          have e : m * left = m * (2 * (left / 2)) + m := by
            rw [← Nat.mul_succ]
            congr 1
            omega
          omega
        obtain ⟨c', e⟩ := pow_loop hx kk X n (left / 2) (f + m) (m + m) (by omega) (by omega) (by omega)
        rw [ee]
        refine ⟨c', ?_⟩
        rw [← e]
        have b1 : Builtin.bitAnd (left : Int) 1 = 1 := by rw [and1, odd]; rfl
        simp [b1, z1, z2, sh]
      · have ee : f + m * left = f + (m + m) * (left / 2) := by
          have e : m * left = m * (2 * (left / 2)) := by
            congr 1
            omega
          omega
        obtain ⟨c', e⟩ := pow_loop hx kk X n (left / 2) f (m + m) (by omega) (by omega) (by omega)
        rw [ee]
        refine ⟨c', ?_⟩
        rw [← e]
        have od : left % 2 = 0 := by omega
        have b1 : Builtin.bitAnd (left : Int) 1 = 0 := by rw [and1, od]; rfl
        simp [b1, z2, sh]
theorem r_power {k : Nat} (hx : QB 10 x) (hk : k ≤ 12) : f_power [qd x, .int k] st = .ok (qd (x ^ k)) st := by
  obtain ⟨c', e⟩ := pow_loop (st := st) hx (.int k) (qd x) big k 0 1 (Nat.lt_of_lt_of_le (show k < 2 ^ 4 by omega) (le_big (k := 4) (by decide) (Nat.le_refl _))) (by omega) (by omega)
  rw [Nat.zero_add, Nat.one_mul, Rat.pow_zero, Rat.pow_one] at e
  have q1 : q_ONE = qd 1 := rfl
  simp [f_power, runB_e, m_power, q1, e]
/-- x between 0 and 1 -/
structure X01 (x : Rat) : Prop where
  lo : 0 < x
  hi : x < 1
  qb : QB 10 x
theorem X01.y (h : X01 x) : 1 + x ≠ 0 := by
  have := h.lo
  grind
theorem r_inner (h : X01 x) : f_inner_share [qd x] st = .ok (qd ((1 - x) / (1 + x))) st := by
  have z1 := r_minusQ (st := st) (qb_one (k := 1) (by decide)) h.qb (by decide)
  have z2 := r_plusQ (st := st) (qb_one (k := 1) (by decide)) h.qb (by decide)
  have z3 := r_overQ (st := st) (QB.sub (qb_one (k := 1) (by decide)) h.qb) (QB.add (qb_one (k := 1) (by decide)) h.qb) h.y (by decide)
  have q1 : q_ONE = qd 1 := rfl
  simp [f_inner_share, runB_e, m_inner_share, q1, z1, z2, z3]
theorem r_end (h : X01 x) : f_end_share [qd x] st = .ok (qd (1 / (1 + x))) st := by
  have z2 := r_plusQ (st := st) (qb_one (k := 1) (by decide)) h.qb (by decide)
  have z3 := r_overQ (st := st) (qb_one (k := 1) (by decide)) (QB.add (qb_one (k := 1) (by decide)) h.qb) h.y (by decide)
  have q1 : q_ONE = qd 1 := rfl
  simp [f_end_share, runB_e, m_end_share, q1, z2, z3]
/-- how far -/
def far (a v : Nat) : Nat := ((a : Int) - v).natAbs
/-- the share of an answer -/
def ash (top a : Nat) (x : Rat) : Rat := if 0 < a ∧ a < top then (1 - x) / (1 + x) else 1 / (1 + x)
def sh (top v : Nat) (x : Rat) (a : Nat) : Rat := if top = 0 then 1 else ash top a x * x ^ far a v
theorem r_answer {top a : Nat} (h : X01 x) : f_answer_share [.int (top : Nat), .int (a : Nat), qd x] st = .ok (qd (ash top a x)) st ∧ QB 24 (ash top a x) := by
  have z1 := r_inner (st := st) h
  have z2 := r_end (st := st) h
  have b1 : QB 24 ((1 - x) / (1 + x)) := QB.div (QB.sub (qb_one (k := 1) (by decide)) h.qb) (QB.add (qb_one (k := 1) (by decide)) h.qb) h.y
  have b2 : QB 24 (1 / (1 + x)) := (QB.div (qb_one (k := 1) (by decide)) (QB.add (qb_one (k := 1) (by decide)) h.qb) h.y).up (by decide)
  unfold f_answer_share ash
  rw [runB_e]
  unfold m_answer_share
  by_cases c1 : 0 < a
  · by_cases c2 : a < top
    · rw [if_pos ⟨c1, c2⟩]
      exact ⟨by simp [c1, c2, z1], b1⟩
    · rw [if_neg (by omega)]
      exact ⟨by simp [c1, c2, z2], b2⟩
  · rw [if_neg (by omega)]
    exact ⟨by simp [c1, z2], b2⟩
theorem r_share {top v a : Nat} (h : X01 x) (ht : top ≤ 12) (hv : v ≤ top) (ha : a ≤ top) : f_spread_share [.int (top : Nat), .int (v : Nat), .int (a : Nat), qd x] st = .ok (qd (sh top v x a)) st := by
  obtain ⟨z1, b1⟩ := r_answer (st := st) (top := top) (a := a) h
  have hf : far a v ≤ 12 := by unfold far; omega
  have z2 := r_power (st := st) h.qb hf
  have z3 := r_timesQ (st := st) b1 (qb_pow h.qb (far a v)) (by omega)
  have q1 : q_ONE = qd 1 := rfl
  have ef : ((((a : Int) - v).natAbs : Nat) : Int) = (far a v : Nat) := rfl
  unfold f_spread_share sh
  rw [runB_e]
  unfold m_spread_share
  by_cases c : top = 0
  · subst c
    simp [q1]
  · rw [if_neg c]
    simp [c, z1, ef, z2, z3]
theorem r_spread_chances {top v : Nat} {p q : Int} (h : X01 (Rat.divInt p q)) (hq : 0 < q) (hq2 : q ≤ 1000) (ht : top ≤ 12) (hv : v ≤ top) : f_spread_chances [.int (top : Nat), .int (v : Nat), .int p, .int q] st = .ok (.tup (((List.range (top + 1)).map (sh top v (Rat.divInt p q))).map qd)) st := by
  have z1 : f_ratio [.int p, .int q] st = .ok (qd (Rat.divInt p q)) st := r_ratioQ (k := 10) (by omega) (by omega) (by decide)
  have hr : ∀ s, rg1 (.int ((top : Nat) + 1)) s = .ok (.fix (rng 0 ((top + 1 : Nat) : Int))) s := fun s => rg1_int (j := ((top + 1 : Nat) : Int)) (by omega)
  have c := comp_map (q := .fix (rng 0 ((top + 1 : Nat) : Int))) (set := gN 5) (fe := eCall 4 f_spread_share (aCons (eVar 0) (aCons (eVar 1) (aCons (eVar 5) (aCons (eVar 4) aNil))))) (τ := [some (.int (top : Nat)), some (.int (v : Nat)), some (.int p), some (.int q), some (qd (Rat.divInt p q)), none]) (st := st) rfl (fun a : Nat => D.int (a : Nat)) (fun a => qd (sh top v (Rat.divInt p q) a)) (List.range (top + 1)) [] (fun a ha => by
    have := List.mem_range.mp ha
    have z := r_share (st := st) (a := a) h ht hv (by omega)
    exact ⟨[some (.int (top : Nat)), some (.int (v : Nat)), some (.int p), some (.int q), some (qd (Rat.divInt p q)), some (.int (a : Nat))], rfl, by simp [z]⟩)
  rw [← rng_eq, List.nil_append, show ((List.range (top + 1)).map fun a => qd (sh top v (Rat.divInt p q) a)) = ((List.range (top + 1)).map (sh top v (Rat.divInt p q))).map qd by rw [List.map_map]; rfl] at c
  have lr : (rng 0 ((top + 1 : Nat) : Int)).length ≤ 16777216 := by rw [rng_len]; omega
  obtain ⟨R, hR⟩ : ∃ R, R = rng 0 ((top + 1 : Nat) : Int) := ⟨_, rfl⟩
  rw [← hR] at c hr lr
  obtain ⟨Y, hY⟩ : ∃ Y, Y = ((List.range (top + 1)).map (sh top v (Rat.divInt p q))).map qd := ⟨_, rfl⟩
  rw [← hY] at c ⊢
  obtain ⟨X, hX⟩ : ∃ X, X = qd (Rat.divInt p q) := ⟨_, rfl⟩
  rw [← hX] at c z1
  unfold f_spread_chances
  rw [runB_e]
  unfold m_spread_chances
  simp [List.replicate, z1, lComp_e, lc1, wipeD, hr, lr, c]
end

theorem sum_range_succ {f : Nat → Rat} {n : Nat} : ((List.range (n + 1)).map f).sum = ((List.range n).map f).sum + f n := by
  rw [List.range_succ, List.map_append, List.sum_append, List.map_cons, List.map_nil, List.sum_cons, List.sum_nil, Rat.add_zero]
theorem far_le {a v : Nat} (h : a ≤ v) : far a v = v - a := by unfold far; omega
theorem far_ge {a v : Nat} (h : v ≤ a) : far a v = a - v := by unfold far; omega
/-- the first shares together -/
theorem psum {top v : Nat} {x : Rat} (h : X01 x) (hv : v ≤ top) : ∀ k : Nat, k + 1 ≤ top → ((List.range (k + 1)).map (sh top v x)).sum = (if k + 1 ≤ v then x ^ (v - k) else 1 + x - x ^ (k + 1 - v)) / (1 + x)
  | 0, h1 => by
    have y := h.y
    rw [sum_range_succ]
    unfold sh ash
    rw [if_neg (by omega), if_neg (by omega)]
    rw [List.range_zero, List.map_nil, List.sum_nil, Rat.zero_add]
    by_cases c : 0 + 1 ≤ v
    · rw [if_pos c, far_le (by omega)]
      grind
    · have : v = 0 := by omega
      subst this
      rw [if_neg (by omega), far_le (by omega), Nat.sub_self, Rat.pow_zero, Nat.zero_add, Nat.sub_zero, Rat.pow_one]
      grind
  | k + 1, h1 => by
    have y := h.y
    have ih := psum h hv k (by omega)
    have es : sh top v x (k + 1) = (1 - x) / (1 + x) * x ^ far (k + 1) v := by
      unfold sh ash
      rw [if_neg (by omega), if_pos (by omega)]
    rw [sum_range_succ, ih, es]
    by_cases c : k + 1 + 1 ≤ v
    · rw [if_pos (by omega), if_pos c, far_le (by omega)]
      have e : x ^ (v - k) = x ^ (v - (k + 1)) * x := by
        rw [← Rat.pow_succ]
        congr 1
        omega
      rw [e]
      obtain ⟨z, hz⟩ : ∃ z, z = x ^ (v - (k + 1)) := ⟨_, rfl⟩
      rw [← hz]
      grind
    · by_cases c2 : k + 1 ≤ v
      · have : v = k + 1 := by omega
        subst this
        rw [if_pos c2, if_neg (by omega), far_le (by omega), Nat.sub_self, Rat.pow_zero, show k + 1 - k = 1 by omega, show k + 1 + 1 - (k + 1) = 1 by omega, Rat.pow_one]
        grind
      · rw [if_neg c2, if_neg (by omega), far_ge (by omega)]
        have e : x ^ (k + 1 + 1 - v) = x ^ (k + 1 - v) * x := by
          rw [← Rat.pow_succ]
          congr 1
          omega
        rw [e]
        obtain ⟨z, hz⟩ : ∃ z, z = x ^ (k + 1 - v) := ⟨_, rfl⟩
        rw [← hz]
        grind
theorem sh_sum {top v : Nat} {x : Rat} (h : X01 x) (hv : v ≤ top) : ((List.range (top + 1)).map (sh top v x)).sum = 1 := by
  have y := h.y
  cases top with
  | zero =>
    rw [sum_range_succ]
    simp [sh]
    exact Rat.zero_add _
  | succ k =>
    have es : sh (k + 1) v x (k + 1) = 1 / (1 + x) * x ^ far (k + 1) v := by
      unfold sh ash
      rw [if_neg (by omega), if_neg (by omega)]
    rw [sum_range_succ, psum h hv k (Nat.le_refl _), es, far_ge hv]
    by_cases c : k + 1 ≤ v
    · have : v = k + 1 := by omega
      subst this
      rw [if_pos c, Nat.sub_self, Rat.pow_zero, show k + 1 - k = 1 by omega, Rat.pow_one]
      grind
    · rw [if_neg c]
      obtain ⟨z, hz⟩ : ∃ z, z = x ^ (k + 1 - v) := ⟨_, rfl⟩
      rw [← hz]
      grind
/-- the same as two whole numbers -/
def shN (n m : Int) (top v a : Nat) : Int := if top = 0 then 1 else if 0 < a ∧ a < top then n ^ far a v * (m - n) else n ^ far a v * m
def shD (n m : Int) (top v a : Nat) : Int := if top = 0 then 1 else m ^ far a v * (m + n)
theorem shD_pos {n m : Int} {top v a : Nat} (hn : 0 < n) (hm : n < m) : 0 < shD n m top v a := by
  unfold shD
  split
  · decide
  · exact Int.mul_pos (Int.pow_pos (by omega)) (by omega)
theorem sh_div {n m : Int} {top v a : Nat} (hn : 0 < n) (hm : n < m) : sh top v (Rat.divInt n m) a = Rat.divInt (shN n m top v a) (shD n m top v a) := by
  have m0 : (m : Rat) ≠ 0 := fun e => by have := Rat.intCast_eq_zero_iff.mp e; omega
  have mn : (m : Rat) + (n : Rat) ≠ 0 := fun e => by
    rw [← Rat.intCast_add] at e
    have := Rat.intCast_eq_zero_iff.mp e
    omega
  have mp : (m : Rat) ^ far a v ≠ 0 := fun e => by
    rw [← Rat.intCast_pow] at e
    have := Rat.intCast_eq_zero_iff.mp e
    have hh : 0 < m ^ far a v := Int.pow_pos (by omega)
    omega
  have f1 : (Rat.divInt n m) ^ far a v * (m : Rat) ^ far a v = (n : Rat) ^ far a v := by
    rw [← rmul_pow, Rat.divInt_eq_div]
    congr 1
    exact Rat.div_mul_cancel m0
  unfold sh shN shD
  by_cases c : top = 0
  · rw [if_pos c, if_pos c, if_pos c]
    decide +kernel
  · rw [if_neg c, if_neg c, if_neg c]
    unfold ash
    obtain ⟨z, hz⟩ : ∃ z, z = (Rat.divInt n m) ^ far a v := ⟨_, rfl⟩
    rw [← hz] at f1 ⊢
    have ex : Rat.divInt n m = (n : Rat) / m := Rat.divInt_eq_div n m
    have y : 1 + (n : Rat) / m ≠ 0 := by grind
    by_cases c2 : 0 < a ∧ a < top
    · rw [if_pos c2, if_pos c2, ex, Rat.divInt_eq_div, Rat.intCast_mul, Rat.intCast_mul, Rat.intCast_pow, Rat.intCast_pow, Rat.intCast_sub, Rat.intCast_add, ← f1]
      obtain ⟨M, hM⟩ : ∃ M, M = (m : Rat) ^ far a v := ⟨_, rfl⟩
      rw [← hM] at mp ⊢
      grind
    · rw [if_neg c2, if_neg c2, ex, Rat.divInt_eq_div, Rat.intCast_mul, Rat.intCast_mul, Rat.intCast_pow, Rat.intCast_pow, Rat.intCast_add, ← f1]
      obtain ⟨M, hM⟩ : ∃ M, M = (m : Rat) ^ far a v := ⟨_, rfl⟩
      rw [← hM] at mp ⊢
      grind
theorem den_dvd {a b : Int} (h : b ≠ 0) : (Rat.divInt a b).den ∣ b.natAbs := by
  rw [Rat.den_divInt, if_neg h]
  exact Nat.div_dvd_of_dvd (by
    have : (b.gcd a) ∣ b.natAbs := Nat.gcd_dvd_left ..
    exact this)
/-- the row of a spread -/
structure Spr (top : Nat) (x : Rat) (v : Nat) (xs : List Int) : Prop where
  low : Low xs
  prp : Prp xs ((List.range (top + 1)).map (sh top v x))
  wt : Wt 140 xs
theorem Spr.len {top v : Nat} {x : Rat} {xs : List Int} (h : Spr top x v xs) : xs.length = top + 1 := by
  obtain ⟨c, _, e⟩ := h.prp
  have := congrArg List.length e
  simpa using this
section
variable {st : Store} {top v : Nat} {n m : Int}
theorem x01 (hn : 0 < n) (hm : n < m) (hm2 : m ≤ 1000) : X01 (Rat.divInt n m) := by
  have mq := Rat.intCast_pos.mpr (show 0 < m by omega)
  refine ⟨?_, ?_, .of (by omega) (by omega) (by omega)⟩
  · rw [Rat.divInt_eq_div, Rat.lt_div_iff mq, Rat.zero_mul]
    exact Rat.intCast_pos.mpr hn
  · rw [Rat.divInt_eq_div, Rat.div_lt_iff mq, Rat.one_mul]
    exact Rat.intCast_lt_intCast.mpr hm
theorem npow_lt {b : Int} {j k : Nat} (h : b.natAbs ≤ 2 ^ j) (hk : k ≤ 12) : (b ^ k).natAbs ≤ 2 ^ (j * 12) := by
  rw [Int.natAbs_pow]
  have := Nat.pow_le_pow_left h k
  rw [← Nat.pow_mul] at this
  exact Nat.le_trans this (Nat.pow_le_pow_right (by decide) (Nat.mul_le_mul_left _ hk))
theorem r_spread_row (hn : 0 < n) (hm : n < m) (hm2 : m ≤ 1000) (ht : top ≤ 12) (hv : v ≤ top) :
    ∃ xs st', f_spread_row [.int (top : Nat), .int (v : Nat), .int n, .int m] st = .ok (itup xs) st' ∧ Gr st st' ∧ Spr top (Rat.divInt n m) v xs := by
  have hx := x01 hn hm hm2
  have e1 := r_spread_chances (st := st) (top := top) (v := v) hx (by omega) hm2 ht hv
  obtain ⟨M, rfl⟩ : ∃ M : Nat, m = M := ⟨m.toNat, by omega⟩
  obtain ⟨n', rfl⟩ : ∃ n' : Nat, n = n' := ⟨n.toNat, by omega⟩
  have hN : (M + n') * M ^ 12 < 2 ^ 140 := by
    have h1 : M ^ 12 ≤ (2 ^ 10) ^ 12 := Nat.pow_le_pow_left (by omega) 12
    have h2 : M + n' < 2 ^ 11 := by omega
    have h3 : (M + n') * M ^ 12 ≤ 2 ^ 11 * (2 ^ 10) ^ 12 := Nat.mul_le_mul (by omega) h1
    exact Nat.lt_of_le_of_lt h3 (by decide +kernel)
  have hf : ∀ a, a ≤ top → far a v ≤ 12 := fun a ha => by unfold far; omega
  have dd : ∀ a, a ≤ top → (shD n' M top v a).natAbs ∣ (M + n') * M ^ 12 := fun a ha => by
    unfold shD
    split
    · exact Nat.one_dvd _
    · rw [Int.natAbs_mul, Int.natAbs_pow, Int.natAbs_natCast, ← Int.natCast_add, Int.natAbs_natCast, Nat.mul_comm]
      exact Nat.mul_dvd_mul_left _ (Nat.pow_dvd_pow _ (hf a ha))
  have nn : ∀ a, a ≤ top → 0 ≤ shN n' M top v a ∧ (shN n' M top v a).natAbs < 2 ^ 140 := fun a ha => by
    have hp := npow_lt (b := (n' : Int)) (j := 10) (by omega) (hf a ha)
    have h0 : 0 ≤ (n' : Int) ^ far a v := Int.le_of_lt (Int.pow_pos (by omega))
    unfold shN
    split
    · exact ⟨by decide, by decide +kernel⟩
    · split
      · refine ⟨Int.mul_nonneg h0 (by omega), ?_⟩
        rw [Int.natAbs_mul]
        exact Nat.lt_of_le_of_lt (Nat.mul_le_mul hp (show ((M : Int) - n').natAbs ≤ 2 ^ 10 by omega)) (by decide +kernel)
      · refine ⟨Int.mul_nonneg h0 (by omega), ?_⟩
        rw [Int.natAbs_mul]
        exact Nat.lt_of_le_of_lt (Nat.mul_le_mul hp (show ((M : Int)).natAbs ≤ 2 ^ 10 by omega)) (by decide +kernel)
  have db : ∀ a, a ≤ top → (shD n' M top v a).natAbs < 2 ^ 140 := fun a ha => Nat.lt_of_le_of_lt (Nat.le_of_dvd (Nat.mul_pos (by omega) (Nat.pow_pos (by omega))) (dd a ha)) hN
  obtain ⟨xs, s2, e2, G2, lo, pr, hs⟩ := r_lowestQ (st := st) (ps := (List.range (top + 1)).map (sh top v (Rat.divInt n' M))) (N := (M + n') * M ^ 12) (k := 140) (by decide) (Nat.mul_pos (by omega) (Nat.pow_pos (by omega))) hN (fun q hq => by
      obtain ⟨a, ha, rfl⟩ := List.mem_map.mp hq
      have := List.mem_range.mp ha
      have hp := shD_pos (top := top) (v := v) (a := a) hn hm
      rw [sh_div hn hm]
      exact Nat.dvd_trans (den_dvd (by omega)) (dd a (by omega))) (fun q hq => by
      obtain ⟨a, ha, rfl⟩ := List.mem_map.mp hq
      have := List.mem_range.mp ha
      have hp := shD_pos (top := top) (v := v) (a := a) hn hm
      rw [sh_div hn hm]
      exact ⟨Rat.divInt_nonneg (nn a (by omega)).1 (by omega), (QB.of (by omega) (nn a (by omega)).2 (db a (by omega))).an⟩) (sh_sum hx hv) (by simp; omega)
  have pos := (prp_ch pr (sh_sum hx hv)).2
  have hl : xs.length = top + 1 := by
    obtain ⟨c, _, e⟩ := pr
    have := congrArg List.length e
    simpa using this
  refine ⟨xs, s2, ?_, G2, lo, pr, lo.nn, pos, ?_, by omega⟩
  · obtain ⟨Y, hY⟩ : ∃ Y, Y = ((List.range (top + 1)).map (sh top v (Rat.divInt n' M))).map qd := ⟨_, rfl⟩
    rw [← hY] at e1 e2
    unfold f_spread_row
    rw [runB_e]
    unfold m_spread_row
    simp [e1, e2]
  · refine Nat.lt_of_le_of_lt ?_ hN
    omega
end

/-! powers -/
def pw (b : Int) (n : Nat) : List Int := (List.range (n + 1)).map fun k => b ^ k
theorem pw_get {b : Int} {n k : Nat} (h : k ≤ n) : (pw b n)[k]? = some (b ^ k) := by
  unfold pw
  rw [List.getElem?_map, List.getElem?_range (by omega)]
  rfl
theorem pw_len {b : Int} {n : Nat} : (pw b n).length = n + 1 := by simp [pw]
theorem pow_lt {b : Int} {j : Nat} (h : b.natAbs < 2 ^ j) : ∀ k : Nat, (b ^ k).natAbs < 2 ^ (j * k + 1)
  | 0 => by simp
  | k + 1 => by
    rw [Int.pow_succ]
    have := mul_lt (pow_lt h k) h
    rwa [show j * k + 1 + j = j * (k + 1) + 1 by rw [Nat.mul_add]; omega] at this
theorem powers_loop {st : Store} {b : Int} {n M : Nat} (hb : b.natAbs < 18446744073709551616) (hn : n ≤ 1000) (hM : M = st.length) :
    ∃ a, forL (.fix (rng 0 n)) (gN 3) (sExpr (eM "list" mAppend (eVar 2) (aCons (eBin oMul (eBin oIx (eVar 2) (eVar 3)) (eVar 0)) aNil))) (rng 0 n) [some (.int b), some (.int (n : Nat)), some (.ref M), none] (st ++ [.lst [.int 1]]) = .nx [some (.int b), some (.int (n : Nat)), some (.ref M), a] (st ++ [.lst ((pw b n).map D.int)]) := by
  obtain ⟨τ', s', e, ⟨a, rfl, rfl⟩⟩ := for_inv (q := .fix (rng 0 n)) (set := gN 3) (u := sExpr (eM "list" mAppend (eVar 2) (aCons (eBin oMul (eBin oIx (eVar 2) (eVar 3)) (eVar 0)) aNil)))
    (fun k τ s => ∃ a, τ = [some (.int b), some (.int (n : Nat)), some (.ref M), a] ∧ s = st ++ [.lst ((pw b k).map D.int)]) (fun _ _ _ _ => rfl) (rng 0 n) 0 [some (.int b), some (.int (n : Nat)), some (.ref M), none] (st ++ [.lst [.int 1]]) ⟨none, rfl, by simp [pw]⟩ (by
      intro i d τ s hi hp
      obtain ⟨a, rfl, rfl⟩ := hp
      have hi2 : i < n := by
        have := (List.getElem?_eq_some_iff.mp hi).1
        rwa [rng_len] at this
      have hd : d = .int (i : Nat) := by
        rw [rng_eq, List.getElem?_map, List.getElem?_range hi2] at hi
        exact (Option.some.inj hi).symm
      subst hd
      rw [Nat.zero_add]
      have g : lstAt (st ++ [.lst ((pw b i).map D.int)]) M = some ((pw b i).map D.int) := by rw [hM]; exact lstAt_new
      have gl : ((pw b i).map D.int).length < 16777216 := by rw [List.length_map, pw_len]; omega
      have ix : atI ((pw b i).map D.int) (i : Nat) = some (.int (b ^ i)) := atI_nat (by rw [List.getElem?_map, pw_get (Nat.le_refl _)]; rfl)
      have om : okMul (b ^ i) b = true := okMul_r hb
      have es : pw b (i + 1) = pw b i ++ [b ^ i * b] := by
        unfold pw
        rw [List.range_succ (n := i + 1), List.map_append, List.map_cons, List.map_nil, Int.pow_succ]
      have z := mAppend_ref (x := .int (b ^ i * b)) g gl
      have hset : (st ++ [Cell.lst ((pw b i).map D.int)]).set M (.lst ((pw b i).map D.int ++ [.int (b ^ i * b)])) = st ++ [.lst ((pw b (i + 1)).map D.int)] := by
        rw [hM, es]; simp
      rw [hset] at z
      obtain ⟨X, hX⟩ : ∃ X, X = (pw b i).map D.int := ⟨_, rfl⟩
      rw [← hX] at g ix z ⊢
      refine ⟨[some (.int b), some (.int (n : Nat)), some (.ref M), some (.int (i : Nat))], rfl, [some (.int b), some (.int (n : Nat)), some (.ref M), some (.int (i : Nat))], st ++ [.lst ((pw b (i + 1)).map D.int)], .inl ?_, _, rfl, rfl⟩
      simp [okT_ref g, oIx_ref g, ix, om, z])
  refine ⟨a, ?_⟩
  rw [Nat.zero_add, rng_len] at e
  exact e
theorem r_lpowers {st : Store} {b : Int} {n : Nat} (hb : b.natAbs < 18446744073709551616) (hn : n ≤ 1000) : f__law_powers [.int b, .int (n : Nat)] st = .ok (.ref st.length) (st ++ [.lst ((pw b n).map D.int)]) := by
  obtain ⟨a, e⟩ := powers_loop (st := st) (b := b) (n := n) hb hn rfl
  have hr : ∀ s, rg1 (.int (n : Nat)) s = .ok (.fix (rng 0 n)) s := fun s => rg1_int (by omega)
  unfold f__law_powers
  rw [runB_e]
  unfold m__law_powers
  simp [List.replicate, sFor_e, hr, e]

def rowsD (rows : List (List Int)) : D := .tup (rows.map itup)
theorem ix_rows {rows : List (List Int)} {v : Nat} {xs : List Int} (h : rows[v]? = some xs) {s : Store} : oIx (rowsD rows) (.int (v : Nat)) s = .ok (itup xs) s := by
  unfold rowsD
  rw [oIx_tup]
  have : atI (rows.map itup) (v : Nat) = some (itup xs) := atI_nat (by rw [List.getElem?_map, h]; rfl)
  rw [this]
  rfl
theorem ix_itup {xs : List Int} {v : Nat} {x : Int} (h : xs[v]? = some x) {s : Store} : oIx (itup xs) (.int (v : Nat)) s = .ok (.int x) s := by
  unfold itup
  rw [oIx_tup]
  have : atI (xs.map D.int) (v : Nat) = some (.int x) := atI_nat (by rw [List.getElem?_map, h]; rfl)
  rw [this]
  rfl
theorem rngi {n i : Nat} {d : D} (h : (rng 0 (n : Nat))[i]? = some d) : i < n ∧ d = .int (i : Nat) := by
  have hi2 : i < n := by
    have := (List.getElem?_eq_some_iff.mp h).1
    rwa [rng_len] at this
  refine ⟨hi2, ?_⟩
  rw [rng_eq, List.getElem?_map, List.getElem?_range hi2] at h
  exact (Option.some.inj h).symm
theorem Wt.lt {B : Nat} {xs : List Int} (h : Wt B xs) {x : Int} (hx : x ∈ xs) : x.natAbs < 2 ^ B := by
  have := sum_ge h.nn hx
  have := h.nn x hx
  have := h.bd
  omega

section
variable {st : Store} {top v : Nat} {n m : Int}
/-- the rows of a spread -/
structure SprR (top : Nat) (x : Rat) (rows : List (List Int)) : Prop where
  len : rows.length = top + 1
  at' : ∀ v xs, rows[v]? = some xs → Spr top x v xs
theorem r_spread_rows (hn : 0 < n) (hm : n < m) (hm2 : m ≤ 1000) (ht : top ≤ 12) :
    ∃ rows st', f_spread_rows [.int (top : Nat), .int n, .int m] st = .ok (rowsD rows) st' ∧ Gr st st' ∧ SprR top (Rat.divInt n m) rows := by
  have hr : ∀ s, rg1 (.int ((top : Nat) + 1)) s = .ok (.fix (rng 0 ((top + 1 : Nat) : Int))) s := fun s => rg1_int (j := ((top + 1 : Nat) : Int)) (by omega)
  obtain ⟨ys, s1, e1, rows, rfl, hl, hrow, G⟩ := comp_gen (q := .fix (rng 0 ((top + 1 : Nat) : Int))) (set := gN 3) (ft := HM.tYes) (fe := eCall 4 f_spread_row (aCons (eVar 0) (aCons (eVar 3) (aCons (eVar 1) (aCons (eVar 2) aNil))))) (τ := [some (.int (top : Nat)), some (.int n), some (.int m), none])
    (fun k acc s => ∃ rows : List (List Int), acc = rows.map itup ∧ rows.length = k ∧ (∀ v xs, rows[v]? = some xs → Spr top (Rat.divInt n m) v xs) ∧ Gr st s) (fun _ _ _ _ => rfl) (rng 0 ((top + 1 : Nat) : Int)) 0 [] st ⟨[], rfl, rfl, by simp, .refl⟩ (by
      intro i d acc s hi hp'
      obtain ⟨rows, rfl, hl, hrow, G⟩ := hp'
      obtain ⟨hi2, rfl⟩ := rngi hi
      obtain ⟨xs, s2, e2, G2, sd⟩ := r_spread_row (st := s) (top := top) (v := i) hn hm hm2 ht (by omega)
      refine ⟨[some (.int (top : Nat)), some (.int n), some (.int m), some (.int (i : Nat))], rfl, true, s, rfl, nofun, fun _ => ⟨itup xs, s2, by simp [e2], rows ++ [xs], by simp, by simp; omega, fun v ys hy => ?_, G.trans G2⟩⟩
      by_cases hv : v < rows.length
      · rw [List.getElem?_append_left hv] at hy
        exact hrow v ys hy
      · have hv2 := (List.getElem?_eq_some_iff.mp hy).1
        rw [List.length_append, List.length_singleton] at hv2
        have : v = i := by omega
        subst this
        rw [List.getElem?_append_right (by omega), show v - rows.length = 0 by omega] at hy
        cases hy
        exact sd)
  rw [rng_len] at hl
  refine ⟨rows, s1, ?_, G, by omega, hrow⟩
  have lr : (rng 0 ((top + 1 : Nat) : Int)).length ≤ 16777216 := by rw [rng_len]; omega
  obtain ⟨R, hR⟩ : ∃ R, R = rng 0 ((top + 1 : Nat) : Int) := ⟨_, rfl⟩
  rw [← hR] at e1 hr lr
  unfold f_spread_rows
  rw [runB_e]
  unfold m_spread_rows
  simp [List.replicate, lComp_e, lc1, wipeD, hr, lr, e1]
  rfl
/-- the parts of a row -/
theorem spr_at {x : Rat} {xs : List Int} (h : Spr top x v xs) (hx : X01 x) (hv : v ≤ top) : ∃ c : Rat, 0 < c ∧ (xs.sum : Rat) = c ∧ ∀ (a : Nat) (y : Int), xs[a]? = some y → (y : Rat) = c * sh top v x a := by
  obtain ⟨c, hc, e⟩ := h.prp
  refine ⟨c, hc, by rw [← sum_cast, e, sum_mul, sh_sum hx hv, Rat.mul_one], fun a y hy => ?_⟩
  have ha : a < top + 1 := by
    have := (List.getElem?_eq_some_iff.mp hy).1
    rw [h.len] at this
    exact this
  have := congrArg (fun l => l[a]?) e
  simp only [List.getElem?_map, hy, List.getElem?_range ha, Option.map_some] at this
  exact Option.some.inj this
theorem shD_lt {a : Nat} (hn : 0 < n) (hm : n < m) (hm2 : m ≤ 1000) (hf : far a v ≤ 12) : (shD n m top v a).natAbs < 2 ^ 140 := by
  have hp := npow_lt (b := m) (j := 10) (by omega) hf
  unfold shD
  split
  · decide +kernel
  · rw [Int.natAbs_mul]
    exact Nat.lt_of_le_of_lt (Nat.mul_le_mul hp (show (m + n).natAbs ≤ 2 ^ 11 by omega)) (by decide +kernel)
theorem shN_lt {a : Nat} (hn : 0 < n) (hm : n < m) (hm2 : m ≤ 1000) (hf : far a v ≤ 12) : (shN n m top v a).natAbs < 2 ^ 140 := by
  have hp := npow_lt (b := n) (j := 10) (by omega) hf
  unfold shN
  split
  · decide +kernel
  · split
    · rw [Int.natAbs_mul]
      exact Nat.lt_of_le_of_lt (Nat.mul_le_mul hp (show (m - n).natAbs ≤ 2 ^ 10 by omega)) (by decide +kernel)
    · rw [Int.natAbs_mul]
      exact Nat.lt_of_le_of_lt (Nat.mul_le_mul hp (show m.natAbs ≤ 2 ^ 10 by omega)) (by decide +kernel)
theorem r_lpow {b : Int} {k : Nat} (hb : b.natAbs < 2 ^ 11) (hk : k ≤ 12) : ∃ M st', f__law_powers [.int b, .int (k : Nat)] st = .ok (.ref M) st' ∧ Gr st st' ∧ ∀ s, Gr st' s → oIx (.ref M) (.int (k : Nat)) s = .ok (.int (b ^ k)) s := by
  have z1 := r_lpowers (st := st) (b := b) (n := k) (by omega) (by omega)
  refine ⟨_, _, z1, .app, fun s G => ?_⟩
  have g := G.lst (lstAt_new (a := st) (xs := (pw b k).map D.int))
  rw [oIx_ref g]
  have : atI ((pw b k).map D.int) (k : Nat) = some (.int (b ^ k)) := atI_nat (by rw [List.getElem?_map, pw_get (Nat.le_refl _)]; rfl)
  rw [this]
  rfl
theorem r_lshare {a : Nat} (hn : 0 < n) (hm : n < m) (hm2 : m ≤ 1000) (hf : far a v ≤ 12) : ∃ st', f__law_share [.int (top : Nat), .int (v : Nat), .int (a : Nat), .int n, .int m] st = .ok (.tup [.int (shN n m top v a), .int (shD n m top v a)]) st' ∧ Gr st st' := by
  unfold f__law_share shN shD
  rw [runB_e]
  unfold m__law_share
  by_cases c : top = 0
  · subst c
    exact ⟨st, by simp, .refl⟩
  · obtain ⟨A, s1, e1, G1, i1⟩ := r_lpow (st := st) (b := n) (by omega) hf
    obtain ⟨B, s2, e2, G2, i2⟩ := r_lpow (st := s1) (b := m) (by omega) hf
    have j1 := i1 s1 .refl
    have j2 := i2 s2 .refl
    have ef : ((((a : Int) - v).natAbs : Nat) : Int) = (far a v : Nat) := rfl
    have hp := npow_lt (b := n) (j := 10) (by omega) hf
    have hp2 := npow_lt (b := m) (j := 10) (by omega) hf
    have o1 : okMul (n ^ far a v) (m - n) = true := okMul_r (by omega)
    have o2 : okMul (m ^ far a v) (m + n) = true := okMul_r (by omega)
    have o3 : okMul (n ^ far a v) m = true := okMul_r (by omega)
    refine ⟨s2, ?_, G1.trans G2⟩
    rw [if_neg c, if_neg c]
    by_cases c1 : 0 < a
    · by_cases c2 : a < top
      · rw [if_pos ⟨c1, c2⟩]
        simp [List.replicate, c, ef, e1, e2, j1, j2, c1, c2, o1, o2]
      · rw [if_neg (by omega)]
        simp [List.replicate, c, ef, e1, e2, j1, j2, c1, c2, o2, o3]
    · rw [if_neg (by omega)]
      simp [List.replicate, c, ef, e1, e2, j1, j2, c1, o2, o3]
theorem r_is_spread {rows : List (List Int)} (h : SprR top (Rat.divInt n m) rows) (hn : 0 < n) (hm : n < m) (hm2 : m ≤ 1000) (ht : top ≤ 12) :
    ∃ st', f__law_is_spread [rowsD rows, .int (top : Nat), .int n, .int m] st = .ok (.bl true) st' ∧ Gr st st' := by
  have hx := x01 hn hm hm2
  have hr : ∀ s, rg1 (.int ((top : Nat) + 1)) s = .ok (.fix (rng 0 ((top + 1 : Nat) : Int))) s := fun s => rg1_int (j := ((top + 1 : Nat) : Int)) (by omega)
  obtain ⟨U, hU⟩ : ∃ U : SM, U = sSeq (sSet 7 (eCall 5 f__law_share (aCons (eVar 1) (aCons (eVar 4) (aCons (eVar 6) (aCons (eVar 2) (aCons (eVar 3) aNil)))))))
    (sIf (tBl (eBin oNe (eBin oMul (eBin oIx (eBin oIx (eVar 0) (eVar 4)) (eVar 6)) (eBin oIx (eVar 7) (eC (.int 1)))) (eBin oMul (eVar 5) (eBin oIx (eVar 7) (eC (.int 0)))))) (sRet (eC (.bl false))) sNil) := ⟨_, rfl⟩
  obtain ⟨R, hR⟩ : ∃ R, R = rng 0 ((top + 1 : Nat) : Int) := ⟨_, rfl⟩
  obtain ⟨τ', s', e, a, b, c, d, rfl, G'⟩ := for_inv (q := .fix (rng 0 ((top + 1 : Nat) : Int))) (set := gN 4) (u := sSeq (sIf (HM.tNot (tVal (eCall 2 f__law_is_lowest (aCons (eBin oIx (eVar 0) (eVar 4)) (aCons (eBin oAdd (eVar 1) (eC (.int 1))) aNil))))) (sRet (eC (.bl false))) sNil)
    (sSeq (sSet 5 (eCS gSum (sEx (eBin oIx (eVar 0) (eVar 4)))))
    (sFor (iRg1 (eBin oAdd (eVar 1) (eC (.int 1)))) (gN 6) U)))
    (fun _ τ s => ∃ a b c d, τ = [some (rowsD rows), some (.int (top : Nat)), some (.int n), some (.int m), a, b, c, d] ∧ Gr st s) (fun _ _ _ _ => rfl) (rng 0 ((top + 1 : Nat) : Int)) 0 [some (rowsD rows), some (.int (top : Nat)), some (.int n), some (.int m), none, none, none, none] st ⟨none, none, none, none, rfl, .refl⟩ (by
      intro v dd τ s hi hp'
      obtain ⟨a, b, c, d, rfl, G⟩ := hp'
      obtain ⟨hv, rfl⟩ := rngi hi
      obtain ⟨xs, hxs⟩ : ∃ xs, rows[v]? = some xs := ⟨rows[v]'(by rw [h.len]; omega), by simp⟩
      have sd := h.at' v xs hxs
      have ix := fun s => ix_rows hxs (s := s)
      have lo := r_is_lowest (n := ((top : Nat) : Int) + 1) (st := s) sd.low (by rw [sd.len]; omega) (by rw [sd.len]; omega) (fun x hx => lt_up (sd.wt.lt hx) (by decide))
      obtain ⟨S, hS⟩ : ∃ S, S = xs.sum := ⟨_, rfl⟩
      have sm : gSum (xs.map D.int) s = .ok (.int S) s := hS ▸ gSum_ints
      have oq : ∀ s, oSeq (itup xs) s = .ok (xs.map D.int) s := fun s => rfl
      have hS2 : S.natAbs < 2 ^ 140 := hS ▸ sd.wt.bd
      obtain ⟨cc, hc0, hcS, hca⟩ := spr_at sd hx (by omega)
      obtain ⟨τ2, s2, e2, c2, d2, rfl, G2⟩ := for_inv (q := .fix (rng 0 ((top + 1 : Nat) : Int))) (set := gN 6) (u := U)
        (fun _ τ s' => ∃ c d, τ = [some (rowsD rows), some (.int (top : Nat)), some (.int n), some (.int m), some (.int (v : Nat)), some (.int S), c, d] ∧ Gr s s') (fun _ _ _ _ => rfl) (rng 0 ((top + 1 : Nat) : Int)) 0 [some (rowsD rows), some (.int (top : Nat)), some (.int n), some (.int m), some (.int (v : Nat)), some (.int S), c, d] s ⟨c, d, rfl, .refl⟩ (by
          intro j dd τ s' hi hp'
          obtain ⟨c, d, rfl, G⟩ := hp'
          obtain ⟨hj, rfl⟩ := rngi hi
          obtain ⟨y, hy⟩ : ∃ y, xs[j]? = some y := ⟨xs[j]'(by rw [sd.len]; omega), by simp⟩
          have iy := fun s => ix_itup hy (s := s)
          have hf : far j v ≤ 12 := by unfold far; omega
          obtain ⟨s3, e3, G3⟩ := r_lshare (st := s') (top := top) (v := v) (a := j) hn hm hm2 hf
          have yb := sd.wt.lt (List.mem_of_getElem? hy)
          have o1 := okMul_of yb (shD_lt (top := top) hn hm hm2 hf) (by decide)
          have o2 := okMul_of hS2 (shN_lt (top := top) hn hm hm2 hf) (by decide)
          have key : y * shD n m top v j = S * shN n m top v j := by
            have hy2 := hca j y hy
            rw [sh_div hn hm, Rat.divInt_eq_div] at hy2
            have hd0 : (shD n m top v j : Rat) ≠ 0 := fun e => by
              have := Rat.intCast_eq_zero_iff.mp e
              have := shD_pos (top := top) (v := v) (a := j) hn hm
              omega
            apply Rat.intCast_inj.mp
            rw [Rat.intCast_mul, Rat.intCast_mul, hy2, hS, hcS]
            grind
          obtain ⟨A, hA⟩ : ∃ A, A = shN n m top v j := ⟨_, rfl⟩
          obtain ⟨B, hB⟩ : ∃ B, B = shD n m top v j := ⟨_, rfl⟩
          rw [← hB] at e3 o1 key
          rw [← hA] at e3 o2 key
          refine ⟨[some (rowsD rows), some (.int (top : Nat)), some (.int n), some (.int m), some (.int (v : Nat)), some (.int S), some (.int (j : Nat)), d], rfl, [some (rowsD rows), some (.int (top : Nat)), some (.int n), some (.int m), some (.int (v : Nat)), some (.int S), some (.int (j : Nat)), some (.tup [.int A, .int B])], s3, .inl ?_, _, _, rfl, G.trans G3⟩
          rw [hU]
          simp [e3, ix, iy, o1, o2, key])
      rw [← hR] at e2
      have hr : ∀ s, rg1 (.int ((top : Nat) + 1)) s = .ok (.fix R) s := fun s => by rw [hr, hR]
      refine ⟨[some (rowsD rows), some (.int (top : Nat)), some (.int n), some (.int m), some (.int (v : Nat)), b, c, d], rfl, [some (rowsD rows), some (.int (top : Nat)), some (.int n), some (.int m), some (.int (v : Nat)), some (.int S), c2, d2], s2, .inl ?_, _, _, _, _, rfl, G.trans G2⟩
      simp [ix, lo, oq, sm, sFor_e, hr, e2])
  have f : fLen [rowsD rows] st = .ok (.int ((top : Nat) + 1)) st := by unfold rowsD; rw [fLen_tup, List.length_map, h.len]; rfl
  have i : fIsi [rowsD rows, .ty "tuple"] st = .ok (.bl true) st := fIsi_tt
  rw [← hR] at e
  have hr : ∀ s, rg1 (.int ((top : Nat) + 1)) s = .ok (.fix R) s := fun s => by rw [hr, hR]
  refine ⟨s', ?_, G'⟩
  unfold f__law_is_spread
  rw [runB_e]
  unfold m__law_is_spread
  rw [← hU]
  simp [List.replicate, i, f, sFor_e, hr, e]
end

theorem zip_same {α β γ : Type} {f : α → β} {g : α → γ} : ∀ l : List α, List.zip (l.map f) (l.map g) = l.map fun a => (f a, g a)
  | [] => rfl
  | a :: l => by
    rw [List.map_cons, List.map_cons, List.map_cons, List.zip_cons_cons, zip_same l]
theorem div_self' {x : Rat} (h : x ≠ 0) : x / x = 1 := by grind
def gr (rows : List (List Int)) (v : Nat) : List Int := rows.getD v []
theorem gr_get {rows : List (List Int)} {v : Nat} (h : v < rows.length) : rows[v]? = some (gr rows v) := by
  simp [gr, List.getD, h]
section
variable {st : Store} {m : Nat} {p q : Int}
def prD (p : Nat × Nat) : D := .tup [.int (p.1 : Nat), .int (p.2 : Nat)]
def pl (rows : List (List Int)) (p : Nat × Nat) : Option Rat := lss (prw (gr rows p.1) (gr rows p.2))
def tot (rows : List (List Int)) (l : List (Nat × Nat)) : Option Rat := l.foldl (fun b p => glo b (pl rows p)) (some 1)
theorem glo_ge {a b : Option Rat} (ha : ∀ x, a = some x → 1 ≤ x) : ∀ x, glo a b = some x → 1 ≤ x := fun x hx => by
  cases a with
  | none => cases hx
  | some y =>
    cases b with
    | none => cases hx
    | some z =>
      have hx : some (if y < z then z else y) = some x := hx
      have := ha y rfl
      split at hx <;> cases hx
      · exact Rat.le_trans this (Rat.le_of_lt (by assumption))
      · exact this
theorem r_rows_loss {t : Rat} {rows : List (List Int)} (h : SprR m t rows) {l : List (Nat × Nat)} (hl : ∀ p ∈ l, p.1 < m + 1 ∧ p.2 < m + 1) :
    f_rows_loss [rowsD rows, .tup (l.map prD)] st = .ok (od (tot rows l)) st ∧ OB 280 (tot rows l) ∧ ∀ x, tot rows l = some x → 1 ≤ x := by
  have main := for_fold (q := .fix (l.map prD)) (set := gT 2 (gCs 3 (gCs 4 gNil0))) (u := sSet 2 (eCall 2 f_greater_loss (aCons (eVar 2) (aCons (eCall 2 f_row_loss (aCons (eBin oIx (eVar 0) (eVar 3)) (aCons (eBin oIx (eVar 0) (eVar 4)) aNil))) aNil)))) (st := st) rfl prD
    (fun (b : Option Rat × Option D × Option D) p => (glo b.1 (pl rows p), some (.int (p.1 : Nat)), some (.int (p.2 : Nat)))) (fun b _ => [some (rowsD rows), some (.tup (l.map prD)), some (od b.1), b.2.1, b.2.2]) (fun b => OB 280 b.1 ∧ ∀ x, b.1 = some x → 1 ≤ x) l (some 1, none, none) none ⟨fun x hx => by cases hx; exact qb_one (by decide), fun x hx => by cases hx; exact Rat.le_refl⟩ (fun b t p hp hb => by
      have hv := hl p hp
      have g1 := gr_get (rows := rows) (v := p.1) (by rw [h.len]; exact hv.1)
      have g2 := gr_get (rows := rows) (v := p.2) (by rw [h.len]; exact hv.2)
      have d1 := h.at' _ _ g1
      have w1 := d1.wt
      have d2 := h.at' _ _ g2
      have w2 := d2.wt
      obtain ⟨z, o⟩ := r_row_lossQ (st := st) w1 w2 (by rw [d1.len, d2.len]) (by decide) (by decide)
      have i1 := ix_rows g1 (s := st)
      have i2 := ix_rows g2 (s := st)
      have z2 := r_greaterQ (st := st) hb.1 o (by decide)
      exact ⟨⟨hb.1.glo o, glo_ge hb.2⟩, [some (rowsD rows), some (.tup (l.map prD)), some (od b.1), some (.int (p.1 : Nat)), some (.int (p.2 : Nat))], rfl, by simp [i1, i2, z, z2]; rfl⟩)
  obtain ⟨⟨t', e⟩, h2⟩ := main
  have hfst : ∀ (l : List (Nat × Nat)) (a : Option Rat) (x y : Option D), (l.foldl (fun (b : Option Rat × Option D × Option D) p => (glo b.1 (pl rows p), some (.int (p.1 : Nat)), some (.int (p.2 : Nat)))) (a, x, y)).1 = l.foldl (fun b p => glo b (pl rows p)) a := fun l => by
    induction l with
    | nil => intro a x y; rfl
    | cons p l ih => intro a x y; exact ih _ _ _
  rw [hfst] at h2
  refine ⟨?_, h2⟩
  have e : forL (.fix (l.map prD)) (gT 2 (gCs 3 (gCs 4 gNil0))) (sSet 2 (eCall 2 f_greater_loss (aCons (eVar 2) (aCons (eCall 2 f_row_loss (aCons (eBin oIx (eVar 0) (eVar 3)) (aCons (eBin oIx (eVar 0) (eVar 4)) aNil))) aNil)))) (l.map prD) [some (rowsD rows), some (.tup (l.map prD)), some (qd 1), none, none] st = _ := e
  rw [hfst] at e
  obtain ⟨Z, hZ⟩ : ∃ Z, Z = l.map prD := ⟨_, rfl⟩
  rw [← hZ] at e ⊢
  unfold f_rows_loss
  rw [runB_e]
  unfold m_rows_loss
  have q1 : q_ONE = qd 1 := rfl
  simp [List.replicate, q1, sFor_e, e]
  rfl
end

/-! how far rows are apart -/
theorem pow_anti {x : Rat} (h : X01 x) {a b : Nat} (hab : a ≤ b) : x ^ b ≤ x ^ a := by
  obtain ⟨k, rfl⟩ := Nat.le.dest hab
  rw [rpow_add]
  have h1 : x ^ k ≤ 1 := by
    clear hab
    induction k with
    | zero => rw [Rat.pow_zero]; exact Rat.le_refl
    | succ k ih =>
      rw [Rat.pow_succ]
      have h2 := Rat.mul_le_mul_of_nonneg_right ih (Rat.le_of_lt h.lo)
      rw [Rat.one_mul] at h2
      exact Rat.le_trans h2 (Rat.le_of_lt h.hi)
  have h2 := Rat.mul_le_mul_of_nonneg_left h1 (Rat.le_of_lt (Rat.pow_pos (n := a) h.lo))
  rwa [Rat.mul_one] at h2
theorem ash_pos {top a : Nat} {x : Rat} (h : X01 x) : 0 < ash top a x := by
  have y : 0 < 1 + x := by have := h.lo; grind
  have z : 0 < 1 - x := by have := h.hi; grind
  unfold ash
  split
  · rw [Rat.div_def]; exact Rat.mul_pos z (Rat.inv_pos.mpr y)
  · rw [Rat.div_def]; exact Rat.mul_pos (by decide) (Rat.inv_pos.mpr y)
theorem sh_pos {top v a : Nat} {x : Rat} (h : X01 x) : 0 < sh top v x a := by
  unfold sh
  split
  · decide
  · exact Rat.mul_pos (ash_pos h) (Rat.pow_pos h.lo)
theorem far_tri {a v w : Nat} : far a w ≤ far a v + far v w := by unfold far; omega
theorem far_comm {a v : Nat} : far a v = far v a := by unfold far; omega
theorem sh_le {top v w a : Nat} {x : Rat} (h : X01 x) (hv : v ≤ top) (hw : w ≤ top) : sh top v x a * x ^ far v w ≤ sh top w x a := by
  unfold sh
  by_cases c : top = 0
  · have : far v w = 0 := by unfold far; omega
    rw [if_pos c, if_pos c, this, Rat.pow_zero, Rat.mul_one]
    exact Rat.le_refl
  · rw [if_neg c, if_neg c, Rat.mul_assoc, ← rpow_add]
    exact Rat.mul_le_mul_of_nonneg_left (pow_anti h far_tri) (Rat.le_of_lt (ash_pos h))
theorem sh_eq {top v w : Nat} {x : Rat} (hv : v ≤ top) (hw : w ≤ top) : sh top v x v * x ^ far v w = sh top w x v := by
  unfold sh
  by_cases c : top = 0
  · have : far v w = 0 := by unfold far; omega
    rw [if_pos c, if_pos c, this, Rat.pow_zero, Rat.mul_one]
  · have : far v v = 0 := by unfold far; omega
    rw [if_neg c, if_neg c, this, Rat.pow_zero, Rat.mul_one]
/-- the loss between rows so far apart -/
def lfar (n m : Int) (f : Nat) : Rat := Rat.divInt (m ^ f) (n ^ f)
section
variable {st : Store} {top v w : Nat} {n m : Int} {ns : List Int}
theorem lfar_eq (hn : 0 < n) (hm : n < m) (f : Nat) : lfar n m f * (Rat.divInt n m) ^ f = 1 := by
  unfold lfar
  have n0 : (n : Rat) ≠ 0 := fun e => by have := Rat.intCast_eq_zero_iff.mp e; omega
  have m0 : (m : Rat) ≠ 0 := fun e => by have := Rat.intCast_eq_zero_iff.mp e; omega
  have np : (n : Rat) ^ f ≠ 0 := Rat.ne_of_gt (Rat.pow_pos (Rat.intCast_pos.mpr hn))
  have mp : (m : Rat) ^ f ≠ 0 := Rat.ne_of_gt (Rat.pow_pos (Rat.intCast_pos.mpr (by omega)))
  have f1 : (Rat.divInt n m) ^ f * (m : Rat) ^ f = (n : Rat) ^ f := by
    rw [← rmul_pow, Rat.divInt_eq_div]
    congr 1
    exact Rat.div_mul_cancel m0
  rw [Rat.divInt_eq_div, Rat.intCast_pow, Rat.intCast_pow]
  obtain ⟨a, ha⟩ : ∃ a, a = (Rat.divInt n m) ^ f := ⟨_, rfl⟩
  rw [← ha] at f1 ⊢
  obtain ⟨b, hb⟩ : ∃ b, b = (m : Rat) ^ f := ⟨_, rfl⟩
  obtain ⟨c, hc⟩ : ∃ c, c = (n : Rat) ^ f := ⟨_, rfl⟩
  rw [← hb] at f1 mp ⊢
  rw [← hc] at f1 np ⊢
  grind
theorem le_of_mul {a b c : Rat} (hc : 0 < c) (h : a * c ≤ b * c) : a ≤ b := Rat.le_of_mul_le_mul_right h hc
theorem spr_isL (hn : 0 < n) (hm : n < m) (hm2 : m ≤ 1000) (hv : v ≤ top) (hw : w ≤ top) :
    IsL ((List.range (top + 1)).map fun a => (sh top v (Rat.divInt n m) a, sh top w (Rat.divInt n m) a)) (some (lfar n m (far v w))) := by
  have hx := x01 hn hm hm2
  have le := lfar_eq hn hm (far v w)
  obtain ⟨x, ex⟩ : ∃ x, x = Rat.divInt n m := ⟨_, rfl⟩
  rw [← ex] at hx le ⊢
  obtain ⟨L, eL⟩ : ∃ L, L = lfar n m (far v w) := ⟨_, rfl⟩
  rw [← eL] at le ⊢
  have xp : 0 < x ^ far v w := Rat.pow_pos hx.lo
  have xne := Rat.ne_of_gt xp
  refine ⟨?_, fun p hp _ => ?_, .inr ⟨_, List.mem_map.mpr ⟨v, List.mem_range.mpr (by omega), rfl⟩, sh_pos hx, Rat.ne_of_gt (sh_pos hx), ?_⟩⟩
  · refine le_of_mul xp ?_
    rw [le, Rat.one_mul]
    have := pow_anti hx (Nat.zero_le (far v w))
    rwa [Rat.pow_zero] at this
  · obtain ⟨a, _, rfl⟩ := List.mem_map.mp hp
    have p2 := sh_pos (top := top) (v := w) (a := a) hx
    refine ⟨Rat.ne_of_gt p2, ?_⟩
    refine Rat.not_lt.mp fun hlt => ?_
    rw [Rat.lt_div_iff p2] at hlt
    have h1 := sh_le (a := a) hx hv hw
    have h2 : L * sh top w x a * x ^ far v w < sh top v x a * x ^ far v w := Rat.mul_lt_mul_of_pos_right hlt xp
    have h3 : L * sh top w x a * x ^ far v w = sh top w x a := by
      rw [Rat.mul_assoc, Rat.mul_comm (sh top w x a), ← Rat.mul_assoc, le, Rat.one_mul]
    rw [h3] at h2
    exact absurd h1 (Rat.not_le.mpr h2)
  · have h1 := sh_eq (x := x) hv hw
    have p1 := Rat.ne_of_gt (sh_pos (top := top) (v := w) (a := v) hx)
    show L = sh top v x v / sh top w x v
    rw [← h1] at p1 ⊢
    obtain ⟨z, hz⟩ : ∃ z, z = sh top v x v := ⟨_, rfl⟩
    rw [← hz] at p1 ⊢
    grind
theorem spr_lss {rows : List (List Int)} (h : SprR top (Rat.divInt n m) rows) (hn : 0 < n) (hm : n < m) (hm2 : m ≤ 1000) (hv : v ≤ top) (hw : w ≤ top) : lss (prw (gr rows v) (gr rows w)) = some (lfar n m (far v w)) := by
  have hx := x01 hn hm hm2
  have s1 := h.at' v _ (gr_get (by rw [h.len]; omega))
  have s2 := h.at' w _ (gr_get (by rw [h.len]; omega))
  refine isL_uniq (lss_isL _) ?_
  unfold prw
  rw [(prp_ch s1.prp (sh_sum hx hv)).1, (prp_ch s2.prp (sh_sum hx hw)).1, zip_same]
  exact spr_isL hn hm hm2 hv hw
theorem r_apart {f : Nat} (hn : 0 < n) (hm : n < m) (hm2 : m ≤ 1000) (hf : f ≤ 12) : ∃ st', f__law_apart [.int n, .int m, .int (f : Nat)] st = .ok (qd (lfar n m f)) st' ∧ Gr st st' := by
  obtain ⟨A, s1, e1, G1, i1⟩ := r_lpow (st := st) (b := m) (by omega) hf
  obtain ⟨B, s2, e2, G2, i2⟩ := r_lpow (st := s1) (b := n) (by omega) hf
  have j1 := i1 s1 .refl
  have j2 := i2 s2 .refl
  have np : 0 < n ^ f := Int.pow_pos hn
  have z := r_fQ (st := s2) (n := m ^ f) (d := n ^ f) (k := 121) (by omega) (Nat.lt_of_le_of_lt (npow_lt (b := n) (j := 10) (by omega) hf) (by decide +kernel)) (by decide)
  refine ⟨s2, ?_, G1.trans G2⟩
  unfold f__law_apart lfar
  rw [runB_e]
  unfold m__law_apart
  simp [e1, e2, j1, j2, z]
theorem drop_le {xs : List Int} (h : ∀ x ∈ xs, 0 ≤ x) : ∀ a : Nat, 0 ≤ (xs.drop a).sum ∧ (xs.drop a).sum ≤ xs.sum := by
  induction xs with
  | nil => intro a; simp
  | cons x xs ih =>
    intro a
    have h0 := h x (List.mem_cons_self ..)
    have h1 := ih fun y hy => h y (List.mem_cons_of_mem _ hy)
    cases a with
    | zero =>
      rw [List.drop_zero, List.sum_cons]
      have := h1 0
      rw [List.drop_zero] at this
      omega
    | succ a =>
      rw [List.drop_succ_cons, List.sum_cons]
      have := h1 a
      omega
theorem sh_low {low a : Nat} {x : Rat} (hl : low ≤ top) (ha : a < low) : sh top v x a = sh low v x a := by
  have e : ash top a x = ash low a x := by
    unfold ash
    by_cases c : 0 < a
    · rw [if_pos (show 0 < a ∧ a < top by omega), if_pos (show 0 < a ∧ a < low by omega)]
    · rw [if_neg (show ¬ (0 < a ∧ a < top) by omega), if_neg (show ¬ (0 < a ∧ a < low) by omega)]
  unfold sh
  rw [if_neg (show ¬ top = 0 by omega), if_neg (show ¬ low = 0 by omega), e]
theorem take_sum {f : Nat → Rat} (n k : Nat) (h : k ≤ n) : (((List.range n).map f).drop k).sum = ((List.range n).map f).sum - ((List.range k).map f).sum := by
  have e : ((List.range n).map f) = ((List.range k).map f) ++ ((List.range n).map f).drop k := by
    have h1 : ((List.range n).map f).take k = (List.range k).map f := by
      rw [← List.map_take, List.take_range, Nat.min_eq_left h]
    rw [← h1, List.take_append_drop]
  have h2 := congrArg List.sum e
  rw [List.sum_append] at h2
  rw [h2]
  grind
theorem r_is_held {low : Nat} {rows less : List (List Int)} (h : SprR top (Rat.divInt n m) rows) (h2 : SprR low (Rat.divInt n m) less) (hn : 0 < n) (hm : n < m) (hm2 : m ≤ 1000) (ht : top ≤ 12) (hl : low ≤ top) :
    f__law_is_held [rowsD rows, rowsD less] st = .ok (.bl true) st := by
  have hx := x01 hn hm hm2
  have hr : ∀ s, rg1 (.int ((low : Nat) + 1)) s = .ok (.fix (rng 0 ((low + 1 : Nat) : Int))) s := fun s => rg1_int (j := ((low + 1 : Nat) : Int)) (by omega)
  obtain ⟨U, hU⟩ : ∃ U : SM, U = sSeq (sSet 5 (eIf (tBl (eBin oLt (eVar 4) (eVar 2))) (eBin oIx (eBin oIx (eVar 0) (eVar 3)) (eVar 4)) (eCS gSum (sEx (eSl (eBin oIx (eVar 0) (eVar 3)) (oSome (eVar 4)) oNone)))))
    (sIf (tBl (eBin oNe (eBin oMul (eVar 5) (eCS gSum (sEx (eBin oIx (eVar 1) (eVar 3))))) (eBin oMul (eBin oIx (eBin oIx (eVar 1) (eVar 3)) (eVar 4)) (eCS gSum (sEx (eBin oIx (eVar 0) (eVar 3))))))) (sRet (eC (.bl false))) sNil) := ⟨_, rfl⟩
  obtain ⟨R, hR⟩ : ∃ R, R = rng 0 ((low + 1 : Nat) : Int) := ⟨_, rfl⟩
  have hr2 : ∀ s, rg1 (.int ((low : Nat) + 1)) s = .ok (.fix R) s := fun s => by rw [hr, hR]
  obtain ⟨τ', s', e, a, b, c, rfl, rfl⟩ := for_inv (q := .fix (rng 0 ((low + 1 : Nat) : Int))) (set := gN 3) (u := sFor (iRg1 (eBin oAdd (eVar 2) (eC (.int 1)))) (gN 4) U)
    (fun _ τ s => ∃ a b c, τ = [some (rowsD rows), some (rowsD less), some (.int (low : Nat)), a, b, c] ∧ st = s) (fun _ _ _ _ => rfl) (rng 0 ((low + 1 : Nat) : Int)) 0 [some (rowsD rows), some (rowsD less), some (.int (low : Nat)), none, none, none] st ⟨none, none, none, rfl, rfl⟩ (by
      intro v dd τ s hi hp'
      obtain ⟨a, b, c, rfl, rfl⟩ := hp'
      obtain ⟨hv, rfl⟩ := rngi hi
      obtain ⟨xs, hxs⟩ : ∃ xs, rows[v]? = some xs := ⟨rows[v]'(by rw [h.len]; omega), by simp⟩
      obtain ⟨ys, hys⟩ : ∃ ys, less[v]? = some ys := ⟨less[v]'(by rw [h2.len]; omega), by simp⟩
      have sx := h.at' v xs hxs
      have sy := h2.at' v ys hys
      have ix := fun s => ix_rows hxs (s := s)
      have iy := fun s => ix_rows hys (s := s)
      obtain ⟨S, hS⟩ : ∃ S, S = xs.sum := ⟨_, rfl⟩
      obtain ⟨T, hT⟩ : ∃ T, T = ys.sum := ⟨_, rfl⟩
      have sm : gSum (xs.map D.int) st = .ok (.int S) st := hS ▸ gSum_ints
      have tm : gSum (ys.map D.int) st = .ok (.int T) st := hT ▸ gSum_ints
      have oq : ∀ s, oSeq (itup xs) s = .ok (xs.map D.int) s := fun s => rfl
      have oq2 : ∀ s, oSeq (itup ys) s = .ok (ys.map D.int) s := fun s => rfl
      obtain ⟨cx, cx0, cxS, cxa⟩ := spr_at sx hx (by omega)
      obtain ⟨cy, cy0, cyS, cya⟩ := spr_at sy hx (by omega)
      obtain ⟨τ2, s2, e2, b2, c2, rfl, rfl⟩ := for_inv (q := .fix (rng 0 ((low + 1 : Nat) : Int))) (set := gN 4) (u := U)
        (fun _ τ s' => ∃ b c, τ = [some (rowsD rows), some (rowsD less), some (.int (low : Nat)), some (.int (v : Nat)), b, c] ∧ st = s') (fun _ _ _ _ => rfl) (rng 0 ((low + 1 : Nat) : Int)) 0 [some (rowsD rows), some (rowsD less), some (.int (low : Nat)), some (.int (v : Nat)), b, c] st ⟨b, c, rfl, rfl⟩ (by
          intro j dd τ s' hi hp'
          obtain ⟨b, c, rfl, rfl⟩ := hp'
          obtain ⟨hj, rfl⟩ := rngi hi
          obtain ⟨x, hxj⟩ : ∃ x, xs[j]? = some x := ⟨xs[j]'(by rw [sx.len]; omega), by simp⟩
          obtain ⟨y, hyj⟩ : ∃ y, ys[j]? = some y := ⟨ys[j]'(by rw [sy.len]; omega), by simp⟩
          have jx := fun s => ix_itup hxj (s := s)
          have jy := fun s => ix_itup hyj (s := s)
          have xb := sx.wt.lt (List.mem_of_getElem? hxj)
          have yb := sy.wt.lt (List.mem_of_getElem? hyj)
          have Sb : S.natAbs < 2 ^ 140 := hS ▸ sx.wt.bd
          have Tb : T.natAbs < 2 ^ 140 := hT ▸ sy.wt.bd
          have o2 := okMul_of yb Sb (by decide)
          obtain ⟨P, hP, hPb, hPe⟩ : ∃ P : Int, (eIf (tBl (eBin oLt (eVar 4) (eVar 2))) (eBin oIx (eBin oIx (eVar 0) (eVar 3)) (eVar 4)) (eCS gSum (sEx (eSl (eBin oIx (eVar 0) (eVar 3)) (oSome (eVar 4)) oNone)))) [some (rowsD rows), some (rowsD less), some (.int (low : Nat)), some (.int (v : Nat)), some (.int (j : Nat)), c] st = .ok (.int P) st ∧ P.natAbs < 2 ^ 140 ∧ (P : Rat) = cx * sh low v (Rat.divInt n m) j := by
            by_cases c1 : j < low
            · refine ⟨x, by simp [c1, ix, jx], xb, ?_⟩
              rw [cxa j x hxj, sh_low hl c1]
            · have ej : j = low := by omega
              subst ej
              have dc : ∀ s, dCut (itup xs) (some ((j : Nat) : Int)) none s = .ok (itup (xs.drop j)) s := fun s => by
                show ER.ok (D.tup (cutD (xs.map D.int) (some ((j : Nat) : Int)) none)) s = _
                rw [cutD_from, ← List.map_drop]
                rfl
              have os : ∀ s, oSeq (itup (xs.drop j)) s = .ok ((xs.drop j).map D.int) s := fun s => rfl
              have dm : gSum ((xs.drop j).map D.int) st = .ok (.int (xs.drop j).sum) st := gSum_ints
              have db := drop_le sx.low.nn j
              obtain ⟨Z, hZ⟩ : ∃ Z, Z = xs.drop j := ⟨_, rfl⟩
              have hZs : (Z.sum : Rat) = cx * sh j v (Rat.divInt n m) j := by
                obtain ⟨c', _, e'⟩ := sx.prp
                have e1 : (xs.sum : Rat) = c' := by rw [← sum_cast, e', sum_mul, sh_sum hx (by omega), Rat.mul_one]
                have ec : c' = cx := by rw [← e1, cxS]
                have e3 := congrArg (List.drop j) e'
                rw [← List.map_drop, ← List.map_drop] at e3
                rw [hZ, ← sum_cast, e3, sum_mul, take_sum _ _ (by omega), sh_sum hx (by omega), ec]
                have e4 : ((List.range j).map (sh top v (Rat.divInt n m))) = ((List.range j).map (sh j v (Rat.divInt n m))) := List.map_congr_left fun a ha => sh_low hl (List.mem_range.mp ha)
                have e5 := sh_sum (top := j) (v := v) hx (by omega)
                rw [sum_range_succ] at e5
                rw [e4]
                grind
              rw [← hZ] at dc os dm db
              refine ⟨Z.sum, by simp [ix, dc, os, dm], ?_, hZs⟩
              have := hS ▸ Sb
              omega
          have o1 := okMul_of hPb Tb (by decide)
          have key : P * T = y * S := by
            apply Rat.intCast_inj.mp
            rw [Rat.intCast_mul, Rat.intCast_mul, hPe, hT, cyS, cya j y hyj, hS, cxS]
            grind
          refine ⟨[some (rowsD rows), some (rowsD less), some (.int (low : Nat)), some (.int (v : Nat)), some (.int (j : Nat)), c], rfl, [some (rowsD rows), some (rowsD less), some (.int (low : Nat)), some (.int (v : Nat)), some (.int (j : Nat)), some (.int P)], st, .inl ?_, _, _, rfl, rfl⟩
          rw [hU]
          simp [-eIf_e, hP, ix, iy, oq, oq2, sm, tm, jy, o1, o2, key])
      rw [← hR] at e2
      refine ⟨[some (rowsD rows), some (rowsD less), some (.int (low : Nat)), some (.int (v : Nat)), b, c], rfl, [some (rowsD rows), some (rowsD less), some (.int (low : Nat)), some (.int (v : Nat)), b2, c2], st, .inl ?_, _, _, _, rfl, rfl⟩
      simp [sFor_e, hr2, e2])
  have f : fLen [rowsD less] st = .ok (.int ((low : Nat) + 1)) st := by unfold rowsD; rw [fLen_tup, List.length_map, h2.len]; rfl
  rw [← hR] at e
  unfold f__law_is_held
  rw [runB_e]
  unfold m__law_is_held
  rw [← hU]
  simp [List.replicate, f, sFor_e, hr2, e]
end

section
variable {st : Store} {top v w : Nat} {n m : Int} {ns : List Int}
theorem r_is_within {rows : List (List Int)} (h : SprR top (Rat.divInt n m) rows) (hn : 0 < n) (hm : n < m) (hm2 : m ≤ 1000) (ht : top ≤ 12) (hv : v ≤ top) (hw : w ≤ top) :
    ∃ st', f__law_is_within [rowsD rows, .int (v : Nat), .int (w : Nat), .int n, .int m] st = .ok (.bl true) st' ∧ Gr st st' := by
  have hx := x01 hn hm hm2
  have hf : far v w ≤ 12 := by unfold far; omega
  obtain ⟨A, s1, e1, G1, i1⟩ := r_lpow (st := st) (b := m) (by omega) hf
  obtain ⟨B, s2, e2, G2, i2⟩ := r_lpow (st := s1) (b := n) (by omega) hf
  have j1 := i1 s1 .refl
  have j2 := i2 s2 .refl
  have ef : ((((v : Int) - w).natAbs : Nat) : Int) = (far v w : Nat) := rfl
  obtain ⟨xs, hxs⟩ : ∃ xs, rows[v]? = some xs := ⟨rows[v]'(by rw [h.len]; omega), by simp⟩
  obtain ⟨ys, hys⟩ : ∃ ys, rows[w]? = some ys := ⟨rows[w]'(by rw [h.len]; omega), by simp⟩
  have sx := h.at' v xs hxs
  have sy := h.at' w ys hys
  have ix := fun s => ix_rows hxs (s := s)
  have iy := fun s => ix_rows hys (s := s)
  obtain ⟨S, hS⟩ : ∃ S, S = xs.sum := ⟨_, rfl⟩
  obtain ⟨T, hT⟩ : ∃ T, T = ys.sum := ⟨_, rfl⟩
  have sm : gSum (xs.map D.int) s2 = .ok (.int S) s2 := hS ▸ gSum_ints
  have tm : gSum (ys.map D.int) s2 = .ok (.int T) s2 := hT ▸ gSum_ints
  have oq : ∀ s, oSeq (itup xs) s = .ok (xs.map D.int) s := fun s => rfl
  have oq2 : ∀ s, oSeq (itup ys) s = .ok (ys.map D.int) s := fun s => rfl
  have Sb : S.natAbs < 2 ^ 140 := hS ▸ sx.wt.bd
  have Tb : T.natAbs < 2 ^ 140 := hT ▸ sy.wt.bd
  obtain ⟨cx, cx0, cxS, cxa⟩ := spr_at sx hx hv
  obtain ⟨cy, cy0, cyS, cya⟩ := spr_at sy hx hw
  obtain ⟨F, hF⟩ : ∃ F, F = far v w := ⟨_, rfl⟩
  have hsle := fun a => sh_le (top := top) (a := a) hx hv hw
  have hseq := sh_eq (top := top) (x := Rat.divInt n m) hv hw
  have n0 : (n : Rat) ≠ 0 := fun e => by have := Rat.intCast_eq_zero_iff.mp e; omega
  have m0 : (m : Rat) ≠ 0 := fun e => by have := Rat.intCast_eq_zero_iff.mp e; omega
  have mp : (0 : Rat) < (m : Rat) ^ F := Rat.pow_pos (Rat.intCast_pos.mpr (by omega))
  have f1 : (Rat.divInt n m) ^ F * (m : Rat) ^ F = (n : Rat) ^ F := by
    rw [← rmul_pow, Rat.divInt_eq_div]
    congr 1
    exact Rat.div_mul_cancel m0
  have np := npow_lt (b := n) (j := 10) (by omega) hf
  have mpl := npow_lt (b := m) (j := 10) (by omega) hf
  rw [← hF] at e1 e2 j1 j2 ef hsle hseq np mpl
  obtain ⟨N, hN⟩ : ∃ N : Int, N = n ^ F := ⟨_, rfl⟩
  obtain ⟨M, hM⟩ : ∃ M : Int, M = m ^ F := ⟨_, rfl⟩
  rw [← hM] at j1 mpl
  rw [← hN] at j2 np
  have Nb : N.natAbs < 2 ^ 121 := Nat.lt_of_le_of_lt np (by decide +kernel)
  have Mb : M.natAbs < 2 ^ 121 := Nat.lt_of_le_of_lt mpl (by decide +kernel)
  have cN : (N : Rat) = (Rat.divInt n m) ^ F * (m : Rat) ^ F := by rw [f1, hN, Rat.intCast_pow]
  have cM : (M : Rat) = (m : Rat) ^ F := by rw [hM, Rat.intCast_pow]
  have hr : ∀ s, rg1 (.int ((top : Nat) + 1)) s = .ok (.fix (rng 0 ((top + 1 : Nat) : Int))) s := fun s => rg1_int (j := ((top + 1 : Nat) : Int)) (by omega)
  obtain ⟨U, hU⟩ : ∃ U : SM, U = sSeq (sSet 12 (eBin oMul (eBin oMul (eBin oIx (eBin oIx (eVar 0) (eVar 1)) (eVar 11)) (eVar 9)) (eVar 7)))
    (sSeq (sSet 13 (eBin oMul (eBin oMul (eBin oIx (eBin oIx (eVar 0) (eVar 2)) (eVar 11)) (eVar 8)) (eVar 6)))
    (sSeq (sIf (tBl (eBin oGt (eVar 12) (eVar 13))) (sRet (eC (.bl false))) sNil)
    (sIf (tBl (eBin oEq (eVar 12) (eVar 13))) (sSet 10 (eC (.bl true))) sNil))) := ⟨_, rfl⟩
  obtain ⟨τ', s', e, b, x11, x12, x13, rfl, hb, rfl⟩ := for_inv (q := .fix (rng 0 ((top + 1 : Nat) : Int))) (set := gN 11) (u := U)
    (fun k τ s => ∃ (b : Bool) (x11 x12 x13 : Option D), τ = [some (rowsD rows), some (.int (v : Nat)), some (.int (w : Nat)), some (.int n), some (.int m), some (.int (F : Nat)), some (.int M), some (.int N), some (.int S), some (.int T), some (.bl b), x11, x12, x13] ∧ (v < k → b = true) ∧ s2 = s) (fun _ _ _ _ => rfl) (rng 0 ((top + 1 : Nat) : Int)) 0 [some (rowsD rows), some (.int (v : Nat)), some (.int (w : Nat)), some (.int n), some (.int m), some (.int (F : Nat)), some (.int M), some (.int N), some (.int S), some (.int T), some (.bl false), none, none, none] s2 ⟨false, none, none, none, rfl, fun h => absurd h (Nat.not_lt_zero _), rfl⟩ (by
      intro j dd τ s hi hp'
      obtain ⟨b, x11, x12, x13, rfl, hb, rfl⟩ := hp'
      obtain ⟨hj, rfl⟩ := rngi hi
      obtain ⟨x, hxj⟩ : ∃ x, xs[j]? = some x := ⟨xs[j]'(by rw [sx.len]; omega), by simp⟩
      obtain ⟨y, hyj⟩ : ∃ y, ys[j]? = some y := ⟨ys[j]'(by rw [sy.len]; omega), by simp⟩
      have jx := fun s => ix_itup hxj (s := s)
      have jy := fun s => ix_itup hyj (s := s)
      have xb := sx.wt.lt (List.mem_of_getElem? hxj)
      have yb := sy.wt.lt (List.mem_of_getElem? hyj)
      have o1 := okMul_of xb Tb (by decide)
      have o2 := okMul_of (mul_lt xb Tb) Nb (by decide)
      have o3 := okMul_of yb Sb (by decide)
      have o4 := okMul_of (mul_lt yb Sb) Mb (by decide)
      have el : ((x * T * N : Int) : Rat) = (sh top v (Rat.divInt n m) j * (Rat.divInt n m) ^ F) * (cx * cy * (m : Rat) ^ F) := by
        rw [Rat.intCast_mul, Rat.intCast_mul, cxa j x hxj, hT, cyS, cN]
        grind
      have er : ((y * S * M : Int) : Rat) = sh top w (Rat.divInt n m) j * (cx * cy * (m : Rat) ^ F) := by
        rw [Rat.intCast_mul, Rat.intCast_mul, cya j y hyj, hS, cxS, cM]
        grind
      have pos := Rat.mul_pos (Rat.mul_pos cx0 cy0) mp
      have le : x * T * N ≤ y * S * M := by
        apply Rat.intCast_le_intCast.mp
        rw [el, er]
        exact Rat.mul_le_mul_of_nonneg_right (hsle j) (Rat.le_of_lt pos)
      obtain ⟨LL, hLL⟩ : ∃ LL, LL = x * T * N := ⟨_, rfl⟩
      obtain ⟨RR, hRR⟩ : ∃ RR, RR = y * S * M := ⟨_, rfl⟩
      refine ⟨[some (rowsD rows), some (.int (v : Nat)), some (.int (w : Nat)), some (.int n), some (.int m), some (.int (F : Nat)), some (.int M), some (.int N), some (.int S), some (.int T), some (.bl b), some (.int (j : Nat)), x12, x13], rfl, [some (rowsD rows), some (.int (v : Nat)), some (.int (w : Nat)), some (.int n), some (.int m), some (.int (F : Nat)), some (.int M), some (.int N), some (.int S), some (.int T), some (.bl (b || decide (LL = RR))), some (.int (j : Nat)), some (.int LL), some (.int RR)], s2, .inl ?_, _, _, _, _, rfl, ?_, rfl⟩
      · rw [← hLL, ← hRR] at le
        rw [hU]
        by_cases heq : LL = RR
        · simp [ix, iy, jx, jy, o1, o2, o3, o4, ← hLL, ← hRR, heq]
        · simp [ix, iy, jx, jy, o1, o2, o3, o4, ← hLL, ← hRR, heq, show ¬ RR < LL by omega]
      · intro hvk
        by_cases hvj : v = j
        · subst hvj
          have : LL = RR := by
            apply Rat.intCast_inj.mp
            rw [hLL, hRR, el, er, hseq]
          simp [this]
        · rw [hb (by omega)]
          rfl)
  rw [rng_len] at hb
  rw [hb (by omega)] at e
  obtain ⟨R, hR⟩ : ∃ R, R = rng 0 ((top + 1 : Nat) : Int) := ⟨_, rfl⟩
  rw [← hR] at e
  have hr2 : ∀ s, rg1 (.int ((top : Nat) + 1)) s = .ok (.fix R) s := fun s => by rw [hr, hR]
  have f : ∀ s, fLen [rowsD rows] s = .ok (.int ((top : Nat) + 1)) s := fun s => by unfold rowsD; rw [fLen_tup, List.length_map, h.len]; rfl
  refine ⟨s2, ?_, G1.trans G2⟩
  unfold f__law_is_within
  rw [runB_e]
  unfold m__law_is_within
  rw [← hU]
  simp [List.replicate, ef, e1, j1, e2, j2, ix, iy, oq, oq2, sm, tm, f, sFor_e, hr2, e]
theorem lfar_mono (hn : 0 < n) (hm : n < m) (hm2 : m ≤ 1000) {a b : Nat} (h : a ≤ b) : lfar n m a ≤ lfar n m b := by
  have hx := x01 hn hm hm2
  have e1 := lfar_eq hn hm a
  have e2 := lfar_eq hn hm b
  have pa : 0 < (Rat.divInt n m) ^ a := Rat.pow_pos hx.lo
  have pb : 0 < (Rat.divInt n m) ^ b := Rat.pow_pos hx.lo
  have h1 := pow_anti hx h
  refine le_of_mul pa ?_
  rw [e1]
  have lp : 0 ≤ lfar n m b := by
    unfold lfar
    exact Rat.divInt_nonneg (Int.le_of_lt (Int.pow_pos (by omega))) (Int.le_of_lt (Int.pow_pos hn))
  have := Rat.mul_le_mul_of_nonneg_left h1 lp
  rw [e2] at this
  exact this
theorem lfar_ge (hn : 0 < n) (hm : n < m) (hm2 : m ≤ 1000) (a : Nat) : 1 ≤ lfar n m a := by
  have := lfar_mono hn hm hm2 (Nat.zero_le a)
  have e := lfar_eq hn hm 0
  rw [Rat.pow_zero, Rat.mul_one] at e
  rwa [e] at this
theorem lfar_qb (hn : 0 < n) (hm : n < m) (hm2 : m ≤ 1000) {f : Nat} (hf : f ≤ 12) : QB 121 (lfar n m f) := by
  have np : 0 < n ^ f := Int.pow_pos hn
  exact .of (by omega) (Nat.lt_of_le_of_lt (npow_lt (b := m) (j := 10) (by omega) hf) (by decide +kernel)) (Nat.lt_of_le_of_lt (npow_lt (b := n) (j := 10) (by omega) hf) (by decide +kernel))
/-- many pairs: the furthest one -/
theorem tot_far {rows : List (List Int)} (h : SprR top (Rat.divInt n m) rows) (hn : 0 < n) (hm : n < m) (hm2 : m ≤ 1000) {f : Nat} : ∀ (l : List (Nat × Nat)) (g : Nat), (∀ p ∈ l, p.1 < top + 1 ∧ p.2 < top + 1 ∧ far p.1 p.2 ≤ f) → g ≤ f → (g = f ∨ ∃ p ∈ l, far p.1 p.2 = f) → l.foldl (fun b p => glo b (pl rows p)) (some (lfar n m g)) = some (lfar n m f)
  | [], g, _, _, h3 => by
    rcases h3 with rfl | ⟨p, hp, _⟩
    · rfl
    · simp at hp
  | p :: l, g, h1, h2, h3 => by
    obtain ⟨a, b, c⟩ := h1 p (List.mem_cons_self ..)
    have e : pl rows p = some (lfar n m (far p.1 p.2)) := spr_lss h hn hm hm2 (by omega) (by omega)
    have eg : glo (some (lfar n m g)) (pl rows p) = some (lfar n m (max g (far p.1 p.2))) := by
      rw [e]
      show some (if lfar n m g < lfar n m (far p.1 p.2) then _ else _) = _
      by_cases hlt : g ≤ far p.1 p.2
      · rw [Nat.max_eq_right hlt]
        have := lfar_mono hn hm hm2 hlt
        by_cases h4 : lfar n m g < lfar n m (far p.1 p.2)
        · rw [if_pos h4]
        · rw [if_neg h4, Rat.le_antisymm this (Rat.not_lt.mp h4)]
      · rw [Nat.max_eq_left (by omega)]
        have := lfar_mono hn hm hm2 (show far p.1 p.2 ≤ g by omega)
        rw [if_neg (Rat.not_lt.mpr this)]
    rw [List.foldl_cons, eg]
    refine tot_far h hn hm hm2 l _ (fun q hq => h1 q (List.mem_cons_of_mem _ hq)) (by omega) ?_
    rcases h3 with rfl | ⟨q, hq, hqf⟩
    · exact .inl (by omega)
    · rcases List.mem_cons.mp hq with rfl | hq
      · exact .inl (by omega)
      · exact .inr ⟨q, hq, hqf⟩
theorem r_is_ratioQ {k : Nat} {x : Rat} (hk : QB k x) (h8 : k ≤ 8000) (h0 : 0 ≤ x) : f__law_is_ratio [qd x] st = .ok (.bl true) st := by
  have z := r_is_fracQ (st := st) hk h8
  have h1 : 0 ≤ x.num := Rat.num_nonneg.mpr h0
  have i0 : ∀ s, oIx (qd x) (.int 0) s = .ok (.int x.num) s := fun s => by rw [qd_tup]; simp
  unfold f__law_is_ratio
  rw [runB_e]
  unfold m__law_is_ratio
  simp [z, i0, h1]
end

theorem gMax_of {ns : List Int} (h : ns ≠ []) : ∃ k, (∀ st, gMax (ns.map D.int) st = .ok (.int k) st) ∧ k ∈ ns ∧ ∀ n ∈ ns, n ≤ k := by
  cases ns with
  | nil => exact absurd rfl h
  | cons n ns =>
    obtain ⟨h1, h2, h3⟩ := foldl_max_ge ns n
    refine ⟨_, fun st => by unfold gMax; rw [intsD_map]; rfl, ?_, fun k hk => ?_⟩
    · rcases h3 with h3 | h3
      · rw [h3]; exact List.mem_cons_self ..
      · exact List.mem_cons_of_mem _ h3
    · rcases List.mem_cons.mp hk with rfl | hk
      · exact h1
      · exact h2 k hk
theorem gMin_of {ns : List Int} (h : ns ≠ []) : ∃ k, (∀ st, gMin (ns.map D.int) st = .ok (.int k) st) ∧ k ∈ ns ∧ ∀ n ∈ ns, k ≤ n := by
  cases ns with
  | nil => exact absurd rfl h
  | cons n ns =>
    obtain ⟨h1, h2, h3⟩ := foldl_min_le ns n
    refine ⟨_, fun st => by unfold gMin; rw [intsD_map]; rfl, ?_, fun k hk => ?_⟩
    · rcases h3 with h3 | h3
      · rw [h3]; exact List.mem_cons_self ..
      · exact List.mem_cons_of_mem _ h3
    · rcases List.mem_cons.mp hk with rfl | hk
      · exact h1
      · exact h2 k hk

section
variable {st : Store} {ns : List Int}
theorem r_many (H : DS ns st) {a b : Int} {i : Nat} {τ : Sl} (ha : 0 < a ∧ a ≤ 1000) (hb : 0 < b ∧ b ≤ 1000) {n : Int} (hn : 0 < n ∧ n < 100) (h0 : τ[i]? = some (some (.ref 1))) : ∃ v st', (eCall 2 f__law_draw (aCons (eVar i) (aCons (eIf (tBl (eBin oEq (eCall 2 f__law_draw (aCons (eVar i) (aCons (eC (.int n)) aNil))) (eC (.int 1)))) (eC (.int a)) (eC (.int b))) aNil))) τ st = .ok (.int v) st' ∧ 0 ≤ v ∧ (v < a ∨ v < b) ∧ DS ns st' ∧ Fr st st' := by
  obtain ⟨v0, s0, e0, a0, b0, D0, F0⟩ := r_draw (many := n) H hn.1 (Nat.lt_of_le_of_lt (log2_le (k := 10) (by omega)) (by decide))
  obtain ⟨B, hB⟩ : ∃ B : Int, B = if v0 = 1 then a else b := ⟨_, rfl⟩
  have B1 : 0 < B ∧ B ≤ 1000 ∧ (B = a ∨ B = b) := by rw [hB]; split <;> omega
  have eB : (eIf (tBl (eBin oEq (eCall 2 f__law_draw (aCons (eVar i) (aCons (eC (.int n)) aNil))) (eC (.int 1)))) (eC (.int a)) (eC (.int b))) τ st = .ok (.int B) s0 := by
    rw [hB]
    by_cases h : v0 = 1 <;> simp [e0, h, eVar_e h0]
  obtain ⟨v1, s1, e1, a1, b1, D1, F1⟩ := r_draw (many := B) D0 (by omega) (Nat.lt_of_le_of_lt (log2_le (k := 10) (by omega)) (by decide))
  refine ⟨v1, s1, by simp [-eIf_e, eVar_e h0, eB, e1], a1, by omega, D1, F0.trans F1⟩
end

section
variable {st : Store} {top v w : Nat} {n m : Int} {ns : List Int}
theorem lfar_0 (hn : 0 < n) (hm : n < m) : lfar n m 0 = 1 := by
  have e := lfar_eq hn hm 0
  rwa [Rat.pow_zero, Rat.mul_one] at e
theorem r_losses_right (H : DS ns st) {rows : List (List Int)} (h : SprR top (Rat.divInt n m) rows) (hn : 0 < n) (hm : n < m) (hm2 : m ≤ 1000) (ht : top ≤ 12) :
    ∃ st', f__law_losses_right [.ref 1, rowsD rows, .int n, .int m] st = .ok (.bl true) st' ∧ DS ns st' ∧ Fr st st' := by
  have f : ∀ s, fLen [rowsD rows] s = .ok (.int ((top + 1 : Nat) : Int)) s := fun s => by unfold rowsD; rw [fLen_tup, List.length_map, h.len]
  obtain ⟨Z, hZ⟩ : ∃ Z : Nat, Z = top + 1 := ⟨_, rfl⟩
  rw [← hZ] at f
  have lz : ((Z : Nat) : Int).natAbs.log2 < 9000 := Nat.lt_of_le_of_lt (log2_le (k := 10) (by omega)) (by decide)
  obtain ⟨v', s1, e1, a1, b1, D1, F1⟩ := r_draw (many := (Z : Nat)) H (by omega) lz
  obtain ⟨w', s2, e2, a2, b2, D2, F2⟩ := r_draw (many := (Z : Nat)) D1 (by omega) lz
  obtain ⟨v, rfl⟩ : ∃ v : Nat, v' = v := ⟨v'.toNat, by omega⟩
  obtain ⟨w, rfl⟩ : ∃ w : Nat, w' = w := ⟨w'.toNat, by omega⟩
  have hv : v ≤ top := by omega
  have hw : w ≤ top := by omega
  have g1 := gr_get (rows := rows) (v := v) (by rw [h.len]; omega)
  have g2 := gr_get (rows := rows) (v := w) (by rw [h.len]; omega)
  have d1 := h.at' _ _ g1
  have d2 := h.at' _ _ g2
  obtain ⟨z, o⟩ := r_row_lossQ (st := s2) d1.wt d2.wt (by rw [d1.len, d2.len]) (by decide) (by decide)
  rw [spr_lss h hn hm hm2 hv hw, show od (some (lfar n m (far v w))) = qd (lfar n m (far v w)) from rfl] at z
  have hf : far v w ≤ 12 := by unfold far; omega
  have i1 := ix_rows g1 (s := s2)
  have i2 := ix_rows g2 (s := s2)
  have y1 := r_is_ratioQ (st := s2) (lfar_qb hn hm hm2 hf) (by decide) (Rat.le_trans (by decide) (lfar_ge hn hm hm2 _))
  obtain ⟨s3, e3, G3⟩ := r_apart (st := s2) hn hm hm2 hf
  have ef : ((((v : Int) - w).natAbs : Nat) : Int) = (far v w : Nat) := rfl
  obtain ⟨g', s4, e4, a4, b4, D4, F4⟩ := r_draw (many := (Z : Nat)) (G3.ds D2) (by omega) lz
  obtain ⟨g, rfl⟩ : ∃ g : Nat, g' = g := ⟨g'.toNat, by omega⟩
  obtain ⟨q1, hq1⟩ : ∃ q1, q1 = qd (lfar n m (far v w)) := ⟨_, rfl⟩
  -- the others
  obtain ⟨os, hos⟩ : ∃ os, os = (List.range Z).filter fun a => decide (far a v ≤ g) := ⟨_, rfl⟩
  have vos : v ∈ os := by
    rw [hos, List.mem_filter]
    exact ⟨List.mem_range.mpr (by omega), decide_eq_true (by unfold far; omega)⟩
  have osZ : ∀ a ∈ os, a < Z := fun a ha => by
    rw [hos] at ha
    exact List.mem_range.mp (List.mem_filter.mp ha).1
  have los : os.length ≤ 13 := by
    rw [hos]
    exact Nat.le_trans (List.length_filter_le _ _) (by rw [List.length_range]; omega)
  have hr : ∀ s, rg1 (.int (Z : Nat)) s = .ok (.fix (rng 0 (Z : Nat))) s := fun s => rg1_int (by omega)
  have c1 := comp_fil (q := .fix (rng 0 (Z : Nat))) (set := gN 12) (ft := tBl (eBin oLe (eCB fAbs (aCons (eBin oSub (eVar 12) (eVar 5)) aNil)) (eVar 8))) (fe := eVar 12) (τ := [some (.ref 1), some (rowsD rows), some (.int n), some (.int m), some (.int (Z : Nat)), some (.int (v : Nat)), some (.int (w : Nat)), some q1, some (.int (g : Nat)), none, none, none, none]) (st := s4) rfl (fun a : Nat => D.int (a : Nat)) (fun a => D.int (a : Nat)) (fun a => decide (far a v ≤ g)) (List.range Z) [] (fun a _ => by
    refine ⟨[some (.ref 1), some (rowsD rows), some (.int n), some (.int m), some (.int (Z : Nat)), some (.int (v : Nat)), some (.int (w : Nat)), some q1, some (.int (g : Nat)), none, none, none, some (.int (a : Nat))], rfl, ?_, fun _ => by simp⟩
    have e : (((((a : Int) - v).natAbs : Nat) : Int) ≤ (g : Nat)) = (far a v ≤ g) := by
      unfold far
      exact propext ⟨fun h => by omega, fun h => by omega⟩
    simp [e])
  rw [← rng_eq, List.nil_append, ← hos] at c1
  obtain ⟨OD, hOD⟩ : ∃ OD, OD = os.map fun a => D.int (a : Nat) := ⟨_, rfl⟩
  rw [← hOD] at c1
  obtain ⟨s5, hs5⟩ : ∃ s5, s5 = s4 ++ [Cell.lst OD] := ⟨_, rfl⟩
  obtain ⟨R9, hR9⟩ : ∃ R9, R9 = s4.length := ⟨_, rfl⟩
  have g5 : lstAt s5 R9 = some OD := by rw [hs5, hR9]; exact lstAt_new
  have lOD : OD.length ≤ 16777216 := by rw [hOD, List.length_map]; omega
  have c2 := fun s (hs : lstAt s R9 = some OD) => comp_map (q := .cell R9 OD) (set := gN 12) (fe := eTup (aCons (eVar 5) (aCons (eVar 12) aNil))) (τ := [some (.ref 1), some (rowsD rows), some (.int n), some (.int m), some (.int (Z : Nat)), some (.int (v : Nat)), some (.int (w : Nat)), some q1, some (.int (g : Nat)), some (.ref R9), none, none, none]) (st := s) (by simp [Sq.chk, hs]) (fun a : Nat => D.int (a : Nat)) (fun a => prD (v, a)) os [] (fun a _ => ⟨[some (.ref 1), some (rowsD rows), some (.int n), some (.int m), some (.int (Z : Nat)), some (.int (v : Nat)), some (.int (w : Nat)), some q1, some (.int (g : Nat)), some (.ref R9), none, none, some (.int (a : Nat))], rfl, by simp [prD]⟩)
  have c3 := fun s (hs : lstAt s R9 = some OD) => comp_map (q := .cell R9 OD) (set := gN 12) (fe := eTup (aCons (eVar 12) (aCons (eVar 5) aNil))) (τ := [some (.ref 1), some (rowsD rows), some (.int n), some (.int m), some (.int (Z : Nat)), some (.int (v : Nat)), some (.int (w : Nat)), some q1, some (.int (g : Nat)), some (.ref R9), none, none, none]) (st := s) (by simp [Sq.chk, hs]) (fun a : Nat => D.int (a : Nat)) (fun a => prD (a, v)) os [] (fun a _ => ⟨[some (.ref 1), some (rowsD rows), some (.int n), some (.int m), some (.int (Z : Nat)), some (.int (v : Nat)), some (.int (w : Nat)), some q1, some (.int (g : Nat)), some (.ref R9), none, none, some (.int (a : Nat))], rfl, by simp [prD]⟩)
  rw [← hOD] at c2 c3
  obtain ⟨P1, hP1⟩ : ∃ P1, P1 = os.map fun a => prD (v, a) := ⟨_, rfl⟩
  obtain ⟨P2, hP2⟩ : ∃ P2, P2 = os.map fun a => prD (a, v) := ⟨_, rfl⟩
  simp only [List.nil_append, ← hP1] at c2
  simp only [List.nil_append, ← hP2] at c3
  obtain ⟨l, hl⟩ : ∃ l : List (Nat × Nat), l = os.map (fun a => (v, a)) ++ os.map (fun a => (a, v)) := ⟨_, rfl⟩
  have lP : P1 ++ P2 = l.map prD := by rw [hP1, hP2, hl, List.map_append, List.map_map, List.map_map]; rfl
  have lenP : P1.length + P2.length ≤ 16777216 := by rw [hP1, hP2, List.length_map, List.length_map]; omega
  obtain ⟨s6, hs6⟩ : ∃ s6, s6 = s5 ++ [Cell.lst P1] := ⟨_, rfl⟩
  have g6 : lstAt s6 R9 = some OD := (hs6 ▸ Gr.app : Gr s5 s6).lst g5
  obtain ⟨s7, hs7⟩ : ∃ s7, s7 = s6 ++ [Cell.lst P2] := ⟨_, rfl⟩
  have h1 : lstAt s7 s5.length = some P1 := (hs7 ▸ Gr.app : Gr s6 s7).lst (hs6 ▸ lstAt_new)
  have h2 : lstAt s7 s6.length = some P2 := hs7 ▸ lstAt_new
  have ad := oAdd_ref h1 h2 lenP
  rw [lP] at ad
  obtain ⟨s8, hs8⟩ : ∃ s8, s8 = s7 ++ [Cell.lst (l.map prD)] := ⟨_, rfl⟩
  rw [← hs8] at ad
  have g8 : lstAt s8 s7.length = some (l.map prD) := hs8 ▸ lstAt_new
  have G58 : Gr s5 s8 := ((hs6 ▸ Gr.app : Gr s5 s6).trans (hs7 ▸ Gr.app)).trans (hs8 ▸ Gr.app)
  have g58 := G58.lst g5
  -- the furthest
  obtain ⟨k, ek, km, kle⟩ := gMax_of (ns := os.map fun a : Nat => (((a : Int) - v).natAbs : Int)) (by
    intro e
    have := congrArg List.length e
    rw [List.length_map] at this
    have h3 := List.length_pos_of_mem vos
    simp at this
    rw [this] at vos
    simp at vos)
  obtain ⟨a0, ha0, hk⟩ := List.mem_map.mp km
  obtain ⟨fm, hfm⟩ : ∃ fm : Nat, fm = far a0 v := ⟨_, rfl⟩
  have hk : k = (fm : Nat) := by rw [← hk, hfm]; rfl
  subst hk
  have fmle : ∀ a ∈ os, far a v ≤ fm := fun a ha => by
    have := kle _ (List.mem_map.mpr ⟨a, ha, rfl⟩)
    unfold far
    omega
  have fm12 : fm ≤ 12 := by
    have := osZ a0 ha0
    rw [hfm]
    unfold far
    omega
  have c4 := comp_map (q := .cell R9 OD) (set := gN 12) (fe := eCB fAbs (aCons (eBin oSub (eVar 12) (eVar 5)) aNil)) (τ := [some (.ref 1), some (rowsD rows), some (.int n), some (.int m), some (.int (Z : Nat)), some (.int (v : Nat)), some (.int (w : Nat)), some q1, some (.int (g : Nat)), some (.ref R9), some (.tup (l.map prD)), none, none]) (st := s8) (by simp [Sq.chk, g58]) (fun a : Nat => D.int (a : Nat)) (fun a => .int ((((a : Int) - v).natAbs : Nat) : Int)) os [] (fun a _ => ⟨[some (.ref 1), some (rowsD rows), some (.int n), some (.int m), some (.int (Z : Nat)), some (.int (v : Nat)), some (.int (w : Nat)), some q1, some (.int (g : Nat)), some (.ref R9), some (.tup (l.map prD)), none, some (.int (a : Nat))], rfl, by simp⟩)
  rw [← hOD, List.nil_append] at c4
  have ek : gMax (os.map fun a : Nat => D.int ((((a : Int) - v).natAbs : Nat) : Int)) s8 = .ok (.int (fm : Nat)) s8 := by
    have := ek s8
    rwa [List.map_map] at this
  obtain ⟨FD, hFD⟩ : ∃ FD, FD = os.map fun a : Nat => D.int ((((a : Int) - v).natAbs : Nat) : Int) := ⟨_, rfl⟩
  rw [← hFD] at c4 ek
  -- many pairs
  have lmem : ∀ p ∈ l, p.1 < top + 1 ∧ p.2 < top + 1 ∧ far p.1 p.2 ≤ fm := fun p hp => by
    rw [hl] at hp
    rcases List.mem_append.mp hp with hp | hp
    · obtain ⟨a, ha, rfl⟩ := List.mem_map.mp hp
      have := osZ a ha
      exact ⟨by show v < _; omega, by show a < _; omega, by show far v a ≤ _; rw [far_comm]; exact fmle a ha⟩
    · obtain ⟨a, ha, rfl⟩ := List.mem_map.mp hp
      have := osZ a ha
      exact ⟨by show a < _; omega, by show v < _; omega, fmle a ha⟩
  have tt : tot rows l = some (lfar n m fm) := by
    have := tot_far h hn hm hm2 l 0 lmem (Nat.zero_le _) (.inr ⟨(a0, v), by rw [hl]; exact List.mem_append_right _ (List.mem_map.mpr ⟨a0, ha0, rfl⟩), hfm.symm⟩)
    rw [lfar_0 hn hm] at this
    exact this
  obtain ⟨z2, o2, _⟩ := r_rows_loss (st := s8) h (l := l) (fun p hp => ⟨(lmem p hp).1, (lmem p hp).2.1⟩)
  rw [tt, show od (some (lfar n m fm)) = qd (lfar n m fm) from rfl] at z2
  have y2 := r_is_ratioQ (st := s8) (lfar_qb hn hm hm2 fm12) (by decide) (Rat.le_trans (by decide) (lfar_ge hn hm hm2 _))
  obtain ⟨s9, e9, G9⟩ := r_apart (st := s8) hn hm hm2 fm12
  have eq2 := eq_qd (x := lfar n m fm) (y := lfar n m fm) (st := s9)
  have ne1 := ne_qd (x := lfar n m (far v w)) (y := lfar n m (far v w)) (st := s3)
  rw [decide_eq_true rfl] at eq2
  rw [decide_eq_true rfl, Bool.not_true] at ne1
  have G49 : Gr s4 s9 := (hs5 ▸ Gr.app : Gr s4 s5).trans (G58.trans G9)
  refine ⟨s9, ?_, G49.ds D4, (((F1.trans F2).trans G3.fr).trans F4).trans G49.fr⟩
  obtain ⟨L, hL⟩ : ∃ L, L = l.map prD := ⟨_, rfl⟩
  rw [← hL] at c4 z2 g8
  obtain ⟨R, hR⟩ : ∃ R, R = rng 0 (Z : Nat) := ⟨_, rfl⟩
  have lR : R.length ≤ 16777216 := by rw [hR, rng_len]; omega
  have hr : ∀ s, rg1 (.int (Z : Nat)) s = .ok (.fix R) s := fun s => by rw [hr, hR]
  rw [← hR] at c1
  have c2 := c2 s5 g5
  have c3 := c3 s6 g6
  obtain ⟨q2, hq2⟩ : ∃ q2, q2 = qd (lfar n m fm) := ⟨_, rfl⟩
  rw [← hq1] at z y1 e3 ne1
  rw [← hq2] at z2 y2 e9 eq2
  have l5 : s5.length + 1 = s6.length := by rw [hs6]; simp
  unfold f__law_losses_right
  rw [runB_e]
  unfold m__law_losses_right
  simp [List.replicate, f, e1, e2, i1, i2, z, y1, ef, e3, ne1, e4, lComp_e, lc1, wipeD, hr, lR, c1, ← hR9, ← hs5]
  simp [dSq_ref g5, lComp_e, lc1, wipeD, lOD, c2]
  rw [← hs6]
  simp [dSq_ref g6, lComp_e, lc1, wipeD, lOD, c3]
  rw [← hs7, ad]
  simp [fTuple_ref g8, lComp_e, lc1, wipeD, lOD, dSq_ref g58, c4, ek, z2, y2, e9, eq2]
end

section
variable {st : Store} {ns : List Int}
theorem r_factor (H : DS ns st) : ∃ n m st', f__law_factor [.ref 1] st = .ok (.tup [.int n, .int m]) st' ∧ 0 < n ∧ n < m ∧ m ≤ 1000 ∧ DS ns st' ∧ Fr st st' := by
  obtain ⟨v0, s0, e0, a0, b0, D0, F0⟩ := r_draw (many := 8) H (by decide) (by decide)
  unfold f__law_factor
  rw [runB_e]
  unfold m__law_factor
  by_cases c : v0 = 3
  · have l2 := D0.len
    obtain ⟨x, s1, e1, hx, D1, F1⟩ := r_pick (st := s0 ++ [.lst [.tup [.int 1, .int 2], .tup [.int 1, .int 1000], .tup [.int 500, .int 1000], .tup [.int 999, .int 1000]]]) (m := s0.length) D0.app lstAt_new (by omega) (by decide) (by decide)
    have : ∃ n m : Int, x = .tup [.int n, .int m] ∧ 0 < n ∧ n < m ∧ m ≤ 1000 := by
      simp only [List.mem_cons, List.not_mem_nil, or_false] at hx
      rcases hx with rfl | rfl | rfl | rfl
      · exact ⟨1, 2, rfl, by decide, by decide, by decide⟩
      · exact ⟨1, 1000, rfl, by decide, by decide, by decide⟩
      · exact ⟨500, 1000, rfl, by decide, by decide, by decide⟩
      · exact ⟨999, 1000, rfl, by decide, by decide, by decide⟩
    obtain ⟨n, m, rfl, hn, hm, hm2⟩ := this
    exact ⟨n, m, s1, by simp [List.replicate, e0, c, e1], hn, hm, hm2, D1, (F0.trans Fr.app).trans F1⟩
  · obtain ⟨B, hB⟩ : ∃ B : Int, B = if v0 = 5 ∨ v0 = 6 then 999 else 9 := ⟨_, rfl⟩
    have B1 : 9 ≤ B ∧ B ≤ 999 := by rw [hB]; split <;> omega
    obtain ⟨v1, s1, e1, a1, b1, D1, F1⟩ := r_draw (many := B) D0 (by omega) (Nat.lt_of_le_of_lt (log2_le (k := 10) (by omega)) (by decide))
    obtain ⟨N, hN⟩ : ∃ N : Int, N = 2 + v1 - 1 := ⟨_, rfl⟩
    obtain ⟨v2, s2, e2, a2, b2, D2, F2⟩ := r_draw (many := N) D1 (by omega) (Nat.lt_of_le_of_lt (log2_le (k := 10) (by omega)) (by decide))
    have eB : (eIf (HM.tOr (tBl (eBin oEq (eVar 1) (eC (.int 5)))) (tBl (eBin oEq (eVar 1) (eC (.int 6))))) (eC (.int 999)) (eC (.int 9))) [some (.ref 1), some (.int v0), none] s0 = .ok (.int B) s0 := by
      rw [hB]
      by_cases h5 : v0 = 5
      · simp [h5]
      · by_cases h6 : v0 = 6 <;> simp [h5, h6]
    refine ⟨1 + v2, 2 + v1, s2, ?_, by omega, by omega, by omega, D2, (F0.trans F1).trans F2⟩
    simp [-eIf_e, List.replicate, e0, c, eB, e1, ← hN, e2]
end
theorem law_holds : ∀ ns : List Int, ns.length ≤ 63 → ∃ st, f_law [.rol (ns.map D.int)] [] = .ok (.bl true) st := by
  intro ns hns
  obtain ⟨s0, e0, D0, _⟩ := r_begin hns
  obtain ⟨v1, s1, e1, a1, b1, D1, F1⟩ := r_many (i := 1) (τ := [some (.rol (ns.map D.int)), some (.ref 1), none, none, none, none, none, none, none, none, none, none, none, none]) D0 (a := 13) (b := 5) (n := 3) (by decide) (by decide) (by decide) rfl
  obtain ⟨P, rfl⟩ : ∃ P : Nat, v1 = P := ⟨v1.toNat, by omega⟩
  have hP : P ≤ 12 := by omega
  obtain ⟨n, m, s2, e2, hn, hm, hm2, D2, F2⟩ := r_factor D1
  obtain ⟨rows, s3, e3, G3, hR⟩ := r_spread_rows (st := s2) (top := P) hn hm hm2 hP
  obtain ⟨s4, e4, G4⟩ := r_is_spread (st := s3) hR hn hm hm2 hP
  obtain ⟨K, hK⟩ : ∃ K : Int, K = (1000 : Int).fdiv m := ⟨_, rfl⟩
  have K1 : 1 ≤ K ∧ K * m ≤ 1000 ∧ K ≤ 1000 := by
    rw [hK, Int.fdiv_eq_ediv_of_nonneg _ (by omega)]
    exact ⟨(Int.le_ediv_iff_mul_le (by omega)).mpr (by omega), Int.ediv_mul_le _ (by omega), Int.ediv_le_self _ (by decide)⟩
  obtain ⟨vm, s5, e5, a5, b5, D5, F5⟩ := r_draw (many := K) (G4.ds (G3.ds D2)) (by omega) (Nat.lt_of_le_of_lt (log2_le (k := 10) (by omega)) (by decide))
  obtain ⟨W, hW⟩ : ∃ W : Int, W = 1 + vm := ⟨_, rfl⟩
  have hWm : W * m ≤ 1000 := by
    have : W * m ≤ K * m := Int.mul_le_mul_of_nonneg_right (by omega) (by omega)
    omega
  have hWn0 : 0 < W * n := Int.mul_pos (by omega) (by omega)
  have hWnm : W * n < W * m := Int.mul_lt_mul_of_pos_left hm (by omega)
  obtain ⟨rows2, s6, e6, G6, hR2⟩ := r_spread_rows (st := s5) (top := P) hWn0 hWnm hWm hP
  rw [Rat.divInt_mul_left (by omega)] at hR2
  obtain ⟨s7, e7, G7⟩ := r_is_spread (st := s6) hR2 hn hm hm2 hP
  have om1 : okMul W n = true := okMul_l (by omega)
  have om2 : okMul W m = true := okMul_l (by omega)
  have od1 : okDiv 1000 m = true := okDiv_of (by omega) (Nat.lt_of_le_of_lt (log2_le (k := 10) (by omega)) (by decide))
  obtain ⟨vl, s8, e8, a8, b8, D8, F8⟩ := r_draw (many := (P : Nat) + 1) (G7.ds (G6.ds D5)) (by omega) (Nat.lt_of_le_of_lt (log2_le (k := 10) (by omega)) (by decide))
  obtain ⟨low, rfl⟩ : ∃ low : Nat, vl = low := ⟨vl.toNat, by omega⟩
  obtain ⟨less, s9, e9, G9, hL⟩ := r_spread_rows (st := s8) (top := low) hn hm hm2 (by omega)
  obtain ⟨s10, e10, G10⟩ := r_is_spread (st := s9) hL hn hm hm2 (by omega)
  have e11 := r_is_held (st := s10) hR hL hn hm hm2 hP (by omega)
  obtain ⟨vb, s11, e12, a11, b11, D11, F11⟩ := r_draw (many := 2) (G10.ds (G9.ds D8)) (by decide) (by decide)
  obtain ⟨B, s12, e13, hB, D12, F12⟩ : ∃ (B : Nat) (s12 : Store), (eIf (tBl (eBin oEq (eCall 2 f__law_draw (aCons (eVar 1) (aCons (eC (.int 2)) aNil))) (eC (.int 1)))) (eVar 2) (eCall 2 f__law_draw (aCons (eVar 1) (aCons (eC (.int 4)) aNil)))) [some (.rol (ns.map D.int)), some (.ref 1), some (.int (P : Nat)), some (.int n), some (.int m), some (rowsD rows), some (.int W), some (.int (low : Nat)), some (rowsD less), none, none, none, none, none] s10 = .ok (.int (B : Nat)) s12 ∧ B ≤ 12 ∧ DS ns s12 ∧ Fr s10 s12 := by
    by_cases c : vb = 1
    · exact ⟨P, s11, by simp [e12, c], hP, D11, F11⟩
    · obtain ⟨x, sx, ex, ax, bx, Dx, Fx⟩ := r_draw (many := 4) D11 (by decide) (by decide)
      obtain ⟨y, rfl⟩ : ∃ y : Nat, x = y := ⟨x.toNat, by omega⟩
      exact ⟨y, sx, by simp [e12, c, ex], by omega, Dx, F11.trans Fx⟩
  obtain ⟨r, s, s13, e14, hr1, hs1, hs2, D13, F13⟩ := r_factor D12
  obtain ⟨rows3, s14, e15, G14, hR3⟩ := r_spread_rows (st := s13) (top := B) hr1 hs1 hs2 hB
  obtain ⟨s15, e16, G15⟩ := r_is_spread (st := s14) hR3 hr1 hs1 hs2 hB
  have D15 := G15.ds (G14.ds D13)
  obtain ⟨R, hR'⟩ : ∃ R, R = rng 0 ((P + 1 : Nat) : Int) := ⟨_, rfl⟩
  have hr : ∀ s, rg1 (.int ((P : Nat) + 1)) s = .ok (.fix (rng 0 ((P + 1 : Nat) : Int))) s := fun s => rg1_int (j := ((P + 1 : Nat) : Int)) (by omega)
  have hr2 : ∀ s, rg1 (.int ((P : Nat) + 1)) s = .ok (.fix R) s := fun s => by rw [hr, hR']
  obtain ⟨τ', s16, e17, x12, x13, rfl, G16⟩ := for_inv (q := .fix (rng 0 ((P + 1 : Nat) : Int))) (set := gN 12) (u := sFor (iRg1 (eBin oAdd (eVar 2) (eC (.int 1)))) (gN 13) (sIf (HM.tNot (tVal (eCall 5 f__law_is_within (aCons (eVar 5) (aCons (eVar 12) (aCons (eVar 13) (aCons (eVar 3) (aCons (eVar 4) aNil)))))))) (sRet (eC (.bl false))) sNil))
    (fun _ τ t => ∃ x12 x13, τ = [some (.rol (ns.map D.int)), some (.ref 1), some (.int (P : Nat)), some (.int n), some (.int m), some (rowsD rows), some (.int W), some (.int (low : Nat)), some (rowsD less), some (.int (B : Nat)), some (.int r), some (.int s), x12, x13] ∧ Gr s15 t) (fun _ _ _ _ => rfl) (rng 0 ((P + 1 : Nat) : Int)) 0 [some (.rol (ns.map D.int)), some (.ref 1), some (.int (P : Nat)), some (.int n), some (.int m), some (rowsD rows), some (.int W), some (.int (low : Nat)), some (rowsD less), some (.int (B : Nat)), some (.int r), some (.int s), none, none] s15 ⟨none, none, rfl, .refl⟩ (by
      intro v dd τ t hi hp
      obtain ⟨x12, x13, rfl, G⟩ := hp
      obtain ⟨hv, rfl⟩ := rngi hi
      obtain ⟨τ2, t2, e2, y13, rfl, G2⟩ := for_inv (q := .fix (rng 0 ((P + 1 : Nat) : Int))) (set := gN 13) (u := sIf (HM.tNot (tVal (eCall 5 f__law_is_within (aCons (eVar 5) (aCons (eVar 12) (aCons (eVar 13) (aCons (eVar 3) (aCons (eVar 4) aNil)))))))) (sRet (eC (.bl false))) sNil)
        (fun _ τ t' => ∃ x13, τ = [some (.rol (ns.map D.int)), some (.ref 1), some (.int (P : Nat)), some (.int n), some (.int m), some (rowsD rows), some (.int W), some (.int (low : Nat)), some (rowsD less), some (.int (B : Nat)), some (.int r), some (.int s), some (.int (v : Nat)), x13] ∧ Gr t t') (fun _ _ _ _ => rfl) (rng 0 ((P + 1 : Nat) : Int)) 0 [some (.rol (ns.map D.int)), some (.ref 1), some (.int (P : Nat)), some (.int n), some (.int m), some (rowsD rows), some (.int W), some (.int (low : Nat)), some (rowsD less), some (.int (B : Nat)), some (.int r), some (.int s), some (.int (v : Nat)), x13] t ⟨x13, rfl, .refl⟩ (by
          intro w dd τ t' hi hp
          obtain ⟨x13, rfl, G⟩ := hp
          obtain ⟨hw, rfl⟩ := rngi hi
          obtain ⟨t3, e3, G3⟩ := r_is_within (st := t') hR hn hm hm2 hP (v := v) (w := w) (by omega) (by omega)
          exact ⟨[some (.rol (ns.map D.int)), some (.ref 1), some (.int (P : Nat)), some (.int n), some (.int m), some (rowsD rows), some (.int W), some (.int (low : Nat)), some (rowsD less), some (.int (B : Nat)), some (.int r), some (.int s), some (.int (v : Nat)), some (.int (w : Nat))], rfl, [some (.rol (ns.map D.int)), some (.ref 1), some (.int (P : Nat)), some (.int n), some (.int m), some (rowsD rows), some (.int W), some (.int (low : Nat)), some (rowsD less), some (.int (B : Nat)), some (.int r), some (.int s), some (.int (v : Nat)), some (.int (w : Nat))], t3, .inl (by simp [e3]), _, rfl, G.trans G3⟩)
      rw [← hR'] at e2
      exact ⟨[some (.rol (ns.map D.int)), some (.ref 1), some (.int (P : Nat)), some (.int n), some (.int m), some (rowsD rows), some (.int W), some (.int (low : Nat)), some (rowsD less), some (.int (B : Nat)), some (.int r), some (.int s), some (.int (v : Nat)), x13], rfl, [some (.rol (ns.map D.int)), some (.ref 1), some (.int (P : Nat)), some (.int n), some (.int m), some (rowsD rows), some (.int W), some (.int (low : Nat)), some (rowsD less), some (.int (B : Nat)), some (.int r), some (.int s), some (.int (v : Nat)), y13], t2, .inl (by simp [sFor_e, hr2, e2]), _, _, rfl, G.trans G2⟩)
  rw [← hR'] at e17
  obtain ⟨s17, e18, D17, F17⟩ := r_losses_right (G16.ds D15) hR hn hm hm2 hP
  obtain ⟨rows4, s18, e19, G18, hR4⟩ := r_spread_rows (st := s17) (top := P) hn hm hm2 hP
  obtain ⟨s19, e20, G19⟩ := r_is_spread (st := s18) hR4 hn hm hm2 hP
  refine ⟨s19, ?_⟩
  have hsA : ∀ t, ofA (gT 2 (gCs 3 (gCs 4 gNil0))) [some (.rol (ns.map D.int)), some (.ref 1), some (.int (P : Nat)), none, none, none, none, none, none, none, none, none, none, none] (.tup [.int n, .int m]) t = .nx [some (.rol (ns.map D.int)), some (.ref 1), some (.int (P : Nat)), some (.int n), some (.int m), none, none, none, none, none, none, none, none, none] t := fun t => rfl
  have hsB : ∀ t, ofA (gT 2 (gCs 10 (gCs 11 gNil0))) [some (.rol (ns.map D.int)), some (.ref 1), some (.int (P : Nat)), some (.int n), some (.int m), some (rowsD rows), some (.int W), some (.int (low : Nat)), some (rowsD less), some (.int (B : Nat)), none, none, none, none] (.tup [.int r, .int s]) t = .nx [some (.rol (ns.map D.int)), some (.ref 1), some (.int (P : Nat)), some (.int n), some (.int m), some (rowsD rows), some (.int W), some (.int (low : Nat)), some (rowsD less), some (.int (B : Nat)), some (.int r), some (.int s), none, none] t := fun t => rfl
  obtain ⟨SC, hSC⟩ : ∃ SC, SC = D.rol (ns.map D.int) := ⟨_, rfl⟩
  rw [← hSC] at e0 e1 e13 e17 hsA hsB ⊢
  unfold f_law
  rw [runB_e]
  unfold m_law
  simp [-eIf_e, -eCall_e, List.replicate]
  rw [show eCall 1 f__law_begin (aCons (eVar 0) aNil) [some SC, none, none, none, none, none, none, none, none, none, none, none, none, none] [] = .ok (.ref 1) s0 by simp [e0]]
  simp [-eIf_e, -eCall_e, e1]
  simp [-eIf_e, e2, hsA, e3, e4, od1, ← hK, e5, ← hW, om1, om2, e6, e7, e8, e9, e10, e11, e13, e14, hsB, e15, e16, sFor_e, hr2, e17, e18, arr, e19, e20]

/-! ### the head -/
def fn : List He.DefD := [⟨("ratio", none), "ratio", "ratio", defArgs s_ratio, defBody s_ratio, defScope s_ratio, [], []⟩,
  ⟨("plus", none), "plus", "plus", defArgs s_plus, defBody s_plus, defScope s_plus, [], []⟩,
  ⟨("minus", none), "minus", "minus", defArgs s_minus, defBody s_minus, defScope s_minus, [], []⟩,
  ⟨("times", none), "times", "times", defArgs s_times, defBody s_times, defScope s_times, [], []⟩,
  ⟨("over", none), "over", "over", defArgs s_over, defBody s_over, defScope s_over, [], []⟩,
  ⟨("power", none), "power", "power", defArgs s_power, defBody s_power, defScope s_power, [], []⟩,
  ⟨("is_below", none), "is_below", "is_below", defArgs s_is_below, defBody s_is_below, defScope s_is_below, [], []⟩,
  ⟨("chances", none), "chances", "chances", defArgs s_chances, defBody s_chances, defScope s_chances, [], []⟩,
  ⟨("reduced", none), "reduced", "reduced", defArgs s_reduced, defBody s_reduced, defScope s_reduced, [], []⟩,
  ⟨("lowest", none), "lowest", "lowest", defArgs s_lowest, defBody s_lowest, defScope s_lowest, [], []⟩,
  ⟨("inner_share", none), "inner_share", "inner_share", defArgs s_inner_share, defBody s_inner_share, defScope s_inner_share, [], []⟩,
  ⟨("end_share", none), "end_share", "end_share", defArgs s_end_share, defBody s_end_share, defScope s_end_share, [], []⟩,
  ⟨("answer_share", none), "answer_share", "answer_share", defArgs s_answer_share, defBody s_answer_share, defScope s_answer_share, [], []⟩,
  ⟨("spread_share", none), "spread_share", "spread_share", defArgs s_spread_share, defBody s_spread_share, defScope s_spread_share, [], []⟩,
  ⟨("spread_chances", none), "spread_chances", "spread_chances", defArgs s_spread_chances, defBody s_spread_chances, defScope s_spread_chances, [], []⟩,
  ⟨("spread_row", none), "spread_row", "spread_row", defArgs s_spread_row, defBody s_spread_row, defScope s_spread_row, [], []⟩,
  ⟨("spread_rows", none), "spread_rows", "spread_rows", defArgs s_spread_rows, defBody s_spread_rows, defScope s_spread_rows, [], []⟩,
  ⟨("factor_of", none), "factor_of", "factor_of", defArgs s_factor_of, defBody s_factor_of, defScope s_factor_of, [], []⟩,
  ⟨("greater_loss", none), "greater_loss", "greater_loss", defArgs s_greater_loss, defBody s_greater_loss, defScope s_greater_loss, [], []⟩,
  ⟨("row_loss", none), "row_loss", "row_loss", defArgs s_row_loss, defBody s_row_loss, defScope s_row_loss, [], []⟩,
  ⟨("rows_loss", none), "rows_loss", "rows_loss", defArgs s_rows_loss, defBody s_rows_loss, defScope s_rows_loss, [], []⟩,
  ⟨("_law_begin", none), "_law_begin", "_law_begin", defArgs s__law_begin, defBody s__law_begin, defScope s__law_begin, [], []⟩,
  ⟨("_law_draw", none), "_law_draw", "_law_draw", defArgs s__law_draw, defBody s__law_draw, defScope s__law_draw, [], []⟩,
  ⟨("_law_pick", none), "_law_pick", "_law_pick", defArgs s__law_pick, defBody s__law_pick, defScope s__law_pick, [], []⟩,
  ⟨("_law_is_int", none), "_law_is_int", "_law_is_int", defArgs s__law_is_int, defBody s__law_is_int, defScope s__law_is_int, [], []⟩,
  ⟨("_law_is_ints", none), "_law_is_ints", "_law_is_ints", defArgs s__law_is_ints, defBody s__law_is_ints, defScope s__law_is_ints, [], []⟩,
  ⟨("_law_gcd", none), "_law_gcd", "_law_gcd", defArgs s__law_gcd, defBody s__law_gcd, defScope s__law_gcd, [], []⟩,
  ⟨("_law_f", none), "_law_f", "_law_f", defArgs s__law_f, defBody s__law_f, defScope s__law_f, [], []⟩,
  ⟨("_law_is_frac", none), "_law_is_frac", "_law_is_frac", defArgs s__law_is_frac, defBody s__law_is_frac, defScope s__law_is_frac, [], []⟩,
  ⟨("_law_is_ratio", none), "_law_is_ratio", "_law_is_ratio", defArgs s__law_is_ratio, defBody s__law_is_ratio, defScope s__law_is_ratio, [], []⟩,
  ⟨("_law_powers", none), "_law_powers", "_law_powers", defArgs s__law_powers, defBody s__law_powers, defScope s__law_powers, [], []⟩,
  ⟨("_law_factor", none), "_law_factor", "_law_factor", defArgs s__law_factor, defBody s__law_factor, defScope s__law_factor, [], []⟩,
  ⟨("_law_is_lowest", none), "_law_is_lowest", "_law_is_lowest", defArgs s__law_is_lowest, defBody s__law_is_lowest, defScope s__law_is_lowest, [], []⟩,
  ⟨("_law_share", none), "_law_share", "_law_share", defArgs s__law_share, defBody s__law_share, defScope s__law_share, [], []⟩,
  ⟨("_law_is_spread", none), "_law_is_spread", "_law_is_spread", defArgs s__law_is_spread, defBody s__law_is_spread, defScope s__law_is_spread, [], []⟩,
  ⟨("_law_is_held", none), "_law_is_held", "_law_is_held", defArgs s__law_is_held, defBody s__law_is_held, defScope s__law_is_held, [], []⟩,
  ⟨("_law_is_within", none), "_law_is_within", "_law_is_within", defArgs s__law_is_within, defBody s__law_is_within, defScope s__law_is_within, [], []⟩,
  ⟨("_law_apart", none), "_law_apart", "_law_apart", defArgs s__law_apart, defBody s__law_apart, defScope s__law_apart, [], []⟩,
  ⟨("_law_losses_right", none), "_law_losses_right", "_law_losses_right", defArgs s__law_losses_right, defBody s__law_losses_right, defScope s__law_losses_right, [], []⟩,
  ⟨("law", none), "law", "law", defArgs s_law, defBody s_law, defScope s_law, [], []⟩]
def fa : List He.Fa := [.glo "ratio", .glo "plus", .glo "minus", .glo "times", .glo "over", .glo "power", .glo "is_below", .glo "chances", .glo "reduced", .glo "lowest", .glo "inner_share", .glo "end_share", .glo "answer_share", .glo "spread_share", .glo "spread_chances", .glo "spread_row", .glo "spread_rows", .glo "factor_of", .glo "greater_loss", .glo "row_loss", .glo "rows_loss", .glo "_law_begin", .glo "_law_draw", .glo "_law_pick", .glo "_law_is_int", .glo "_law_is_ints", .glo "_law_gcd", .glo "_law_f", .glo "_law_is_frac", .glo "_law_is_ratio", .glo "_law_powers", .glo "_law_factor", .glo "_law_is_lowest", .glo "_law_share", .glo "_law_is_spread", .glo "_law_is_held", .glo "_law_is_within", .glo "_law_apart", .glo "_law_losses_right", .glo "law", .free "ZeroDivisionError", .free "sum", .free "tuple", .free "abs", .free "range", .free "zip", .free "int", .free "len", .free "isinstance", .free "bool", .free "all", .free "max"]
def fx : List Fx := [.blt "gcd" "math.gcd", .blt "lcm" "math.lcm", .con "ONE" q_ONE]
abbrev hk : PySem.W.Hook := hookM 5 fa fx fn
def ob (s : PySem.W.SharedT) : He.AlD := obsMG 5 fa fx fn (HandSHeadRun.getT s)
theorem ob_eq (s : PySem.W.SharedT) : ob s = hk.obs s.abs := obsMG_eq (HandSHeadRun.getT_eq s)
def nm0 : List PySem.Str := ["ONE", "ratio", "plus", "minus", "times", "over", "power", "is_below", "chances", "reduced", "lowest", "inner_share", "end_share", "answer_share", "spread_share", "spread_chances", "spread_row", "spread_rows", "factor_of", "greater_loss", "row_loss", "rows_loss", "_law_begin", "_law_draw", "_law_pick", "_law_is_int", "_law_is_ints", "_law_gcd", "_law_f", "_law_is_frac"]
def nm1 : List PySem.Str := ["_law_is_ratio", "_law_powers", "_law_factor", "_law_is_lowest", "_law_share", "_law_is_spread", "_law_is_held", "_law_is_within", "_law_apart", "_law_losses_right"]
def nms : List PySem.Str := nm0 ++ nm1
theorem run (w : World) : HandSHeadRun.RunEqI (PySem.W.OpenLaw.row PySem.Challenge.rw_closedratios_k24_whole_spreads) (PySem.W.view (PySem.W.OpenLaw.row PySem.Challenge.rw_closedratios_k24_whole_spreads).prog [0, 46]) hk ob 6000 nms w := by
  unfold HandSHeadRun.RunEqI
  kernel_rfl
theorem facts {P : Program} {w : World} {K : PySem.W.Frag} {h : Heap} {mg : PySem.Str → Option Value} {f : Addr} (X : K.In h) (G : h.Ns mainGlobals mg) (hfa : mg ("law" : PySem.Str) = some (.ref f)) (c : SaysM fa fx fn K) :
    ∃ fd : FuncData, (∀ (s : Shared) (v : Value), BindsTo s fd ⟨[v], []⟩ [("script", v)]) ∧ ∀ base : Heap, K.In base → base.Ns mainGlobals mg → FnM P w K mg base 9 f fd ["script"] f_law := by
  obtain ⟨fd_ratio, F_ratio⟩ := c.def_ 0 rfl
  have gx_ratio := He.glo_ok X G (c.fact 0 (f := .glo "ratio") rfl)
  obtain ⟨fd_plus, F_plus⟩ := c.def_ 1 rfl
  have gx_plus := He.glo_ok X G (c.fact 1 (f := .glo "plus") rfl)
  obtain ⟨fd_minus, F_minus⟩ := c.def_ 2 rfl
  have gx_minus := He.glo_ok X G (c.fact 2 (f := .glo "minus") rfl)
  obtain ⟨fd_times, F_times⟩ := c.def_ 3 rfl
  have gx_times := He.glo_ok X G (c.fact 3 (f := .glo "times") rfl)
  obtain ⟨fd_over, F_over⟩ := c.def_ 4 rfl
  have gx_over := He.glo_ok X G (c.fact 4 (f := .glo "over") rfl)
  obtain ⟨fd_power, F_power⟩ := c.def_ 5 rfl
  have gx_power := He.glo_ok X G (c.fact 5 (f := .glo "power") rfl)
  obtain ⟨fd_is_below, F_is_below⟩ := c.def_ 6 rfl
  have gx_is_below := He.glo_ok X G (c.fact 6 (f := .glo "is_below") rfl)
  obtain ⟨fd_chances, F_chances⟩ := c.def_ 7 rfl
  have gx_chances := He.glo_ok X G (c.fact 7 (f := .glo "chances") rfl)
  obtain ⟨fd_reduced, F_reduced⟩ := c.def_ 8 rfl
  have gx_reduced := He.glo_ok X G (c.fact 8 (f := .glo "reduced") rfl)
  obtain ⟨fd_lowest, F_lowest⟩ := c.def_ 9 rfl
  have gx_lowest := He.glo_ok X G (c.fact 9 (f := .glo "lowest") rfl)
  obtain ⟨fd_inner_share, F_inner_share⟩ := c.def_ 10 rfl
  have gx_inner_share := He.glo_ok X G (c.fact 10 (f := .glo "inner_share") rfl)
  obtain ⟨fd_end_share, F_end_share⟩ := c.def_ 11 rfl
  have gx_end_share := He.glo_ok X G (c.fact 11 (f := .glo "end_share") rfl)
  obtain ⟨fd_answer_share, F_answer_share⟩ := c.def_ 12 rfl
  have gx_answer_share := He.glo_ok X G (c.fact 12 (f := .glo "answer_share") rfl)
  obtain ⟨fd_spread_share, F_spread_share⟩ := c.def_ 13 rfl
  have gx_spread_share := He.glo_ok X G (c.fact 13 (f := .glo "spread_share") rfl)
  obtain ⟨fd_spread_chances, F_spread_chances⟩ := c.def_ 14 rfl
  have gx_spread_chances := He.glo_ok X G (c.fact 14 (f := .glo "spread_chances") rfl)
  obtain ⟨fd_spread_row, F_spread_row⟩ := c.def_ 15 rfl
  have gx_spread_row := He.glo_ok X G (c.fact 15 (f := .glo "spread_row") rfl)
  obtain ⟨fd_spread_rows, F_spread_rows⟩ := c.def_ 16 rfl
  have gx_spread_rows := He.glo_ok X G (c.fact 16 (f := .glo "spread_rows") rfl)
  obtain ⟨fd_factor_of, F_factor_of⟩ := c.def_ 17 rfl
  have gx_factor_of := He.glo_ok X G (c.fact 17 (f := .glo "factor_of") rfl)
  obtain ⟨fd_greater_loss, F_greater_loss⟩ := c.def_ 18 rfl
  have gx_greater_loss := He.glo_ok X G (c.fact 18 (f := .glo "greater_loss") rfl)
  obtain ⟨fd_row_loss, F_row_loss⟩ := c.def_ 19 rfl
  have gx_row_loss := He.glo_ok X G (c.fact 19 (f := .glo "row_loss") rfl)
  obtain ⟨fd_rows_loss, F_rows_loss⟩ := c.def_ 20 rfl
  have gx_rows_loss := He.glo_ok X G (c.fact 20 (f := .glo "rows_loss") rfl)
  obtain ⟨fd__law_begin, F__law_begin⟩ := c.def_ 21 rfl
  have gx__law_begin := He.glo_ok X G (c.fact 21 (f := .glo "_law_begin") rfl)
  obtain ⟨fd__law_draw, F__law_draw⟩ := c.def_ 22 rfl
  have gx__law_draw := He.glo_ok X G (c.fact 22 (f := .glo "_law_draw") rfl)
  obtain ⟨fd__law_pick, F__law_pick⟩ := c.def_ 23 rfl
  have gx__law_pick := He.glo_ok X G (c.fact 23 (f := .glo "_law_pick") rfl)
  obtain ⟨fd__law_is_int, F__law_is_int⟩ := c.def_ 24 rfl
  have gx__law_is_int := He.glo_ok X G (c.fact 24 (f := .glo "_law_is_int") rfl)
  obtain ⟨fd__law_is_ints, F__law_is_ints⟩ := c.def_ 25 rfl
  have gx__law_is_ints := He.glo_ok X G (c.fact 25 (f := .glo "_law_is_ints") rfl)
  obtain ⟨fd__law_gcd, F__law_gcd⟩ := c.def_ 26 rfl
  have gx__law_gcd := He.glo_ok X G (c.fact 26 (f := .glo "_law_gcd") rfl)
  obtain ⟨fd__law_f, F__law_f⟩ := c.def_ 27 rfl
  have gx__law_f := He.glo_ok X G (c.fact 27 (f := .glo "_law_f") rfl)
  obtain ⟨fd__law_is_frac, F__law_is_frac⟩ := c.def_ 28 rfl
  have gx__law_is_frac := He.glo_ok X G (c.fact 28 (f := .glo "_law_is_frac") rfl)
  obtain ⟨fd__law_is_ratio, F__law_is_ratio⟩ := c.def_ 29 rfl
  have gx__law_is_ratio := He.glo_ok X G (c.fact 29 (f := .glo "_law_is_ratio") rfl)
  obtain ⟨fd__law_powers, F__law_powers⟩ := c.def_ 30 rfl
  have gx__law_powers := He.glo_ok X G (c.fact 30 (f := .glo "_law_powers") rfl)
  obtain ⟨fd__law_factor, F__law_factor⟩ := c.def_ 31 rfl
  have gx__law_factor := He.glo_ok X G (c.fact 31 (f := .glo "_law_factor") rfl)
  obtain ⟨fd__law_is_lowest, F__law_is_lowest⟩ := c.def_ 32 rfl
  have gx__law_is_lowest := He.glo_ok X G (c.fact 32 (f := .glo "_law_is_lowest") rfl)
  obtain ⟨fd__law_share, F__law_share⟩ := c.def_ 33 rfl
  have gx__law_share := He.glo_ok X G (c.fact 33 (f := .glo "_law_share") rfl)
  obtain ⟨fd__law_is_spread, F__law_is_spread⟩ := c.def_ 34 rfl
  have gx__law_is_spread := He.glo_ok X G (c.fact 34 (f := .glo "_law_is_spread") rfl)
  obtain ⟨fd__law_is_held, F__law_is_held⟩ := c.def_ 35 rfl
  have gx__law_is_held := He.glo_ok X G (c.fact 35 (f := .glo "_law_is_held") rfl)
  obtain ⟨fd__law_is_within, F__law_is_within⟩ := c.def_ 36 rfl
  have gx__law_is_within := He.glo_ok X G (c.fact 36 (f := .glo "_law_is_within") rfl)
  obtain ⟨fd__law_apart, F__law_apart⟩ := c.def_ 37 rfl
  have gx__law_apart := He.glo_ok X G (c.fact 37 (f := .glo "_law_apart") rfl)
  obtain ⟨fd__law_losses_right, F__law_losses_right⟩ := c.def_ 38 rfl
  have gx__law_losses_right := He.glo_ok X G (c.fact 38 (f := .glo "_law_losses_right") rfl)
  obtain ⟨fd_law, F_law⟩ := c.def_ 39 rfl
  have z_ZeroDivisionError := He.free_ok X G (c.fact 40 (f := .free "ZeroDivisionError") rfl)
  have z_sum := He.free_ok X G (c.fact 41 (f := .free "sum") rfl)
  have z_tuple := He.free_ok X G (c.fact 42 (f := .free "tuple") rfl)
  have z_abs := He.free_ok X G (c.fact 43 (f := .free "abs") rfl)
  have z_range := He.free_ok X G (c.fact 44 (f := .free "range") rfl)
  have z_zip := He.free_ok X G (c.fact 45 (f := .free "zip") rfl)
  have z_int := He.free_ok X G (c.fact 46 (f := .free "int") rfl)
  have z_len := He.free_ok X G (c.fact 47 (f := .free "len") rfl)
  have z_isinstance := He.free_ok X G (c.fact 48 (f := .free "isinstance") rfl)
  have z_bool := He.free_ok X G (c.fact 49 (f := .free "bool") rfl)
  have z_all := He.free_ok X G (c.fact 50 (f := .free "all") rfl)
  have z_max := He.free_ok X G (c.fact 51 (f := .free "max") rfl)
  have g_gcd := blt_ok X G (c.more 0 (f := .blt "gcd" "math.gcd") rfl)
  have g_lcm := blt_ok X G (c.more 1 (f := .blt "lcm" "math.lcm") rfl)
  have k_ONE := con_ok X G (c.more 2 (f := .con "ONE" q_ONE) rfl)
  have e := hfa.symm.trans (He.glo_ok X G (c.fact 39 (f := .glo "law") rfl))
  cases e
  refine ⟨fd_law, fun s v => FunD.bindsA (ps := ["script"]) F_law (fun _ _ _ _ _ _ us hl => match us, hl with | [_], _ => rfl) s [v] rfl, fun base _ _ => ?_⟩
  have c_ratio := (ok_ratio (P := P) (w := w) (base := base) F_ratio gx_ratio g_gcd z_ZeroDivisionError).le le_ratio
  have c_plus := (ok_plus (P := P) (w := w) (base := base) F_plus gx_plus c_ratio).le le_plus
  have c_minus := (ok_minus (P := P) (w := w) (base := base) F_minus gx_minus c_ratio).le le_minus
  have c_times := (ok_times (P := P) (w := w) (base := base) F_times gx_times c_ratio).le le_times
  have c_over := (ok_over (P := P) (w := w) (base := base) F_over gx_over c_ratio).le le_over
  have c_power := (ok_power (P := P) (w := w) (base := base) F_power gx_power c_times k_ONE).le le_power
  have c_is_below := (ok_is_below (P := P) (w := w) (base := base) F_is_below gx_is_below ).le le_is_below
  have c_chances := (ok_chances (P := P) (w := w) (base := base) F_chances gx_chances c_ratio z_sum z_tuple).le le_chances
  have c_reduced := (ok_reduced (P := P) (w := w) (base := base) F_reduced gx_reduced g_gcd z_tuple).le le_reduced
  have c_lowest := (ok_lowest (P := P) (w := w) (base := base) F_lowest gx_lowest c_reduced g_lcm).le le_lowest
  have c_inner_share := (ok_inner_share (P := P) (w := w) (base := base) F_inner_share gx_inner_share c_over c_minus c_plus k_ONE).le le_inner_share
  have c_end_share := (ok_end_share (P := P) (w := w) (base := base) F_end_share gx_end_share c_over c_plus k_ONE).le le_end_share
  have c_answer_share := (ok_answer_share (P := P) (w := w) (base := base) F_answer_share gx_answer_share c_inner_share c_end_share).le le_answer_share
  have c_spread_share := (ok_spread_share (P := P) (w := w) (base := base) F_spread_share gx_spread_share c_times c_answer_share c_power k_ONE z_abs).le le_spread_share
  have c_spread_chances := (ok_spread_chances (P := P) (w := w) (base := base) F_spread_chances gx_spread_chances c_ratio c_spread_share z_range z_tuple).le le_spread_chances
  have c_spread_row := (ok_spread_row (P := P) (w := w) (base := base) F_spread_row gx_spread_row c_lowest c_spread_chances).le le_spread_row
  have c_spread_rows := (ok_spread_rows (P := P) (w := w) (base := base) F_spread_rows gx_spread_rows c_spread_row z_range z_tuple).le le_spread_rows
  have c_factor_of := (ok_factor_of (P := P) (w := w) (base := base) F_factor_of gx_factor_of c_over).le le_factor_of
  have c_greater_loss := (ok_greater_loss (P := P) (w := w) (base := base) F_greater_loss gx_greater_loss c_is_below).le le_greater_loss
  have c_row_loss := (ok_row_loss (P := P) (w := w) (base := base) F_row_loss gx_row_loss c_chances c_greater_loss c_factor_of k_ONE z_zip).le le_row_loss
  have c_rows_loss := (ok_rows_loss (P := P) (w := w) (base := base) F_rows_loss gx_rows_loss c_greater_loss c_row_loss k_ONE).le le_rows_loss
  have c__law_begin := (ok__law_begin (P := P) (w := w) (base := base) F__law_begin gx__law_begin z_int).le le__law_begin
  have c__law_draw := (ok__law_draw (P := P) (w := w) (base := base) F__law_draw gx__law_draw z_int z_len z_abs).le le__law_draw
  have c__law_pick := (ok__law_pick (P := P) (w := w) (base := base) F__law_pick gx__law_pick c__law_draw z_len).le le__law_pick
  have c__law_is_int := (ok__law_is_int (P := P) (w := w) (base := base) F__law_is_int gx__law_is_int z_int z_isinstance z_bool).le le__law_is_int
  have c__law_is_ints := (ok__law_is_ints (P := P) (w := w) (base := base) F__law_is_ints gx__law_is_ints c__law_is_int z_tuple z_isinstance z_all).le le__law_is_ints
  have c__law_gcd := (ok__law_gcd (P := P) (w := w) (base := base) F__law_gcd gx__law_gcd z_abs z_int).le le__law_gcd
  have c__law_f := (ok__law_f (P := P) (w := w) (base := base) F__law_f gx__law_f c__law_gcd).le le__law_f
  have c__law_is_frac := (ok__law_is_frac (P := P) (w := w) (base := base) F__law_is_frac gx__law_is_frac c__law_is_int c__law_gcd z_tuple z_isinstance z_len).le le__law_is_frac
  have c__law_is_ratio := (ok__law_is_ratio (P := P) (w := w) (base := base) F__law_is_ratio gx__law_is_ratio c__law_is_frac).le le__law_is_ratio
  have c__law_powers := (ok__law_powers (P := P) (w := w) (base := base) F__law_powers gx__law_powers z_range).le le__law_powers
  have c__law_factor := (ok__law_factor (P := P) (w := w) (base := base) F__law_factor gx__law_factor c__law_draw c__law_pick).le le__law_factor
  have c__law_is_lowest := (ok__law_is_lowest (P := P) (w := w) (base := base) F__law_is_lowest gx__law_is_lowest c__law_is_ints c__law_gcd z_len).le le__law_is_lowest
  have c__law_share := (ok__law_share (P := P) (w := w) (base := base) F__law_share gx__law_share c__law_powers z_abs).le le__law_share
  have c__law_is_spread := (ok__law_is_spread (P := P) (w := w) (base := base) F__law_is_spread gx__law_is_spread c__law_is_lowest c__law_share z_tuple z_isinstance z_len z_range z_sum).le le__law_is_spread
  have c__law_is_held := (ok__law_is_held (P := P) (w := w) (base := base) F__law_is_held gx__law_is_held z_len z_range z_sum).le le__law_is_held
  have c__law_is_within := (ok__law_is_within (P := P) (w := w) (base := base) F__law_is_within gx__law_is_within c__law_powers z_abs z_sum z_range z_len).le le__law_is_within
  have c__law_apart := (ok__law_apart (P := P) (w := w) (base := base) F__law_apart gx__law_apart c__law_f c__law_powers).le le__law_apart
  have c__law_losses_right := (ok__law_losses_right (P := P) (w := w) (base := base) F__law_losses_right gx__law_losses_right c__law_draw c_row_loss c__law_is_ratio c__law_apart c_rows_loss z_len z_abs z_range z_tuple z_max).le le__law_losses_right
  exact (ok_law (P := P) (w := w) (base := base) F_law c__law_begin c__law_draw c__law_factor c_spread_rows c__law_is_spread c__law_is_held c__law_is_within c__law_losses_right F_spread_rows gx_spread_rows z_range).le le_law
end K24
open PySem PySem.W PySem.Calls PyProof.Rows
set_option maxHeartbeats 0 in
theorem PySem.Challenge.cw_closedratios_k24_whole_spreads_holds : PySem.Challenge.rw_closedratios_k24_whole_spreads.Holds := by
  w_on; o_law
  refine HandSHeadRun.head_imp (r := OpenLaw.row PySem.Challenge.rw_closedratios_k24_whole_spreads) (q := view (OpenLaw.row PySem.Challenge.rw_closedratios_k24_whole_spreads).prog [0, 46]) (H := K24.hk) (ob := K24.ob) (M := 6000) (loose := K24.nms) (d := HandSHeadRun.topDef (OpenLaw.row PySem.Challenge.rw_closedratios_k24_whole_spreads).prog 46) (kwd := []) K24.ob_eq
    K24.run (by kernel_rfl) (by kernel_rfl) (by kernel_rfl) (by rfl) (by first | assumption | decide +kernel) (by decide +kernel) ⟨rfl, rfl, rfl, rfl, rfl, by decide +kernel⟩ ?hw ?hc
  case hw => w_witness2
  case hc =>
    refine L2.walk_ofE (l := PySem.Challenge.rw_closedratios_k24_whole_spreads) (n := 63) (k := 9) (x := "script") (CX := L2.CX0) rfl (by decide) (by kernel_rfl) ⟨rfl, by decide, by decide⟩ ?F (fun _ _ _ _ z => z)
    intro w mg fa h Y G hmg0
    obtain ⟨K, KX, c⟩ := Y
    have hmg : mg ("law" : PySem.Str) = some (.ref fa) := by
      have e : (HandSHeadRun.topDef (OpenLaw.row PySem.Challenge.rw_closedratios_k24_whole_spreads).prog 46).name = ("law" : PySem.Str) := by kernel_rfl
      rw [← e]
      exact hmg0
    obtain ⟨fd, hb, hF⟩ := K24.facts (P := (PySem.Challenge.rw_closedratios_k24_whole_spreads).prog) (w := w) KX G hmg c
    exact ⟨K, fd, (fun vs H Q _ => HM.spM K 1 K24.f_law vs H Q fun _ _ _ => False), KX, hb, fun H a ns hl ho hS => HM.law_sp (n := 63) K24.law_holds H a ns hl ho hS, fun base h1 h2 => (hF base h1 h2).shut⟩
