import PyProof.Rows.All
import Wide.All
import OpenK.AllK
import Wide.FinOn
import HandS.ForMost
import HandS.ForExc
import HandS.Wide
import HandS.Gcd
import HandS.Flow
import HandS.IsInst
import HandS.Conv
import HandS.TupAny
import HandS.Zip
import HandS.CallSlots
import HandS.TupLe
import HandS.ExcBuiltin
import HandS.TryOnly
import HandS.Defaults
import HandS.HeadEnd
import HandS.HeadHook1
import HandS.HeadHook2
import KE.KStateDown
import Lean
import HandS.Head0
import HandS.Head1
import HandS.Head2
import HandS.Head3
import HandS.More
import HandS.Deep
import HandS.Text
import KE.KTupSum
import KE.KMathGC
import HandS.Codes
import HandS.TupMul
import PySem.Challenge.RW_closedratios_k27_whole_row_losses
set_option Elab.async false
set_option linter.all false
set_option maxRecDepth 100000
set_option maxHeartbeats 4000000
/-! HM: a layer of values over the hand layer. Part 1: values, stores, judgements. -/
namespace HM
open PySem PySem.Spec PyProof.Rows L2

/-! ### values -/
inductive D where
  | non | bl (b : Bool) | int (i : Int) | str (x : List Nat) | tup (xs : List D) | ref (n : Nat) | ty (n : String) | adr (a : Addr) | rol (xs : List D)
mutual
def D.dec : (a b : D) → Decidable (a = b)
  | .non, .non => Decidable.isTrue rfl
  | .bl a, .bl b => if h : a = b then Decidable.isTrue (h ▸ rfl) else Decidable.isFalse (fun e => h (D.bl.inj e))
  | .int a, .int b => if h : a = b then Decidable.isTrue (h ▸ rfl) else Decidable.isFalse (fun e => h (D.int.inj e))
  | .str a, .str b => if h : a = b then Decidable.isTrue (h ▸ rfl) else Decidable.isFalse (fun e => h (D.str.inj e))
  | .ref a, .ref b => if h : a = b then Decidable.isTrue (h ▸ rfl) else Decidable.isFalse (fun e => h (D.ref.inj e))
  | .ty a, .ty b => if h : a = b then Decidable.isTrue (h ▸ rfl) else Decidable.isFalse (fun e => h (D.ty.inj e))
  | .adr a, .adr b => if h : a = b then Decidable.isTrue (h ▸ rfl) else Decidable.isFalse (fun e => h (D.adr.inj e))
  | .tup a, .tup b => match D.decAll a b with
    | .isTrue h => Decidable.isTrue (h ▸ rfl)
    | .isFalse h => Decidable.isFalse (fun e => h (D.tup.inj e))
  | .rol a, .rol b => match D.decAll a b with
    | .isTrue h => Decidable.isTrue (h ▸ rfl)
    | .isFalse h => Decidable.isFalse (fun e => h (D.rol.inj e))
  | .non, .bl _ | .non, .int _ | .non, .str _ | .non, .tup _ | .non, .ref _ | .non, .ty _ | .non, .adr _ | .non, .rol _ => Decidable.isFalse nofun
  | .bl _, .non | .bl _, .int _ | .bl _, .str _ | .bl _, .tup _ | .bl _, .ref _ | .bl _, .ty _ | .bl _, .adr _ | .bl _, .rol _ => Decidable.isFalse nofun
  | .int _, .non | .int _, .bl _ | .int _, .str _ | .int _, .tup _ | .int _, .ref _ | .int _, .ty _ | .int _, .adr _ | .int _, .rol _ => Decidable.isFalse nofun
  | .str _, .non | .str _, .bl _ | .str _, .int _ | .str _, .tup _ | .str _, .ref _ | .str _, .ty _ | .str _, .adr _ | .str _, .rol _ => Decidable.isFalse nofun
  | .tup _, .non | .tup _, .bl _ | .tup _, .int _ | .tup _, .str _ | .tup _, .ref _ | .tup _, .ty _ | .tup _, .adr _ | .tup _, .rol _ => Decidable.isFalse nofun
  | .ref _, .non | .ref _, .bl _ | .ref _, .int _ | .ref _, .str _ | .ref _, .tup _ | .ref _, .ty _ | .ref _, .adr _ | .ref _, .rol _ => Decidable.isFalse nofun
  | .ty _, .non | .ty _, .bl _ | .ty _, .int _ | .ty _, .str _ | .ty _, .tup _ | .ty _, .ref _ | .ty _, .adr _ | .ty _, .rol _ => Decidable.isFalse nofun
  | .rol _, .non | .rol _, .bl _ | .rol _, .int _ | .rol _, .str _ | .rol _, .tup _ | .rol _, .ref _ | .rol _, .ty _ | .rol _, .adr _ => Decidable.isFalse nofun
  | .adr _, .non | .adr _, .bl _ | .adr _, .int _ | .adr _, .str _ | .adr _, .tup _ | .adr _, .ref _ | .adr _, .ty _ | .adr _, .rol _ => Decidable.isFalse nofun
def D.decAll : (a b : List D) → Decidable (a = b)
  | [], [] => Decidable.isTrue rfl
  | [], _ :: _ => Decidable.isFalse nofun
  | _ :: _, [] => Decidable.isFalse nofun
  | x :: xs, y :: ys => match D.dec x y with
    | .isFalse h => Decidable.isFalse (fun e => h (List.cons.inj e).1)
    | .isTrue h => match D.decAll xs ys with
      | .isTrue h2 => Decidable.isTrue (by rw [h, h2])
      | .isFalse h2 => Decidable.isFalse (fun e => h2 (List.cons.inj e).2)
end
instance : DecidableEq D := D.dec
instance : Inhabited D := ⟨.non⟩
/-- what stands in a cell of the store -/
inductive Cell where
  | lst (xs : List D)
  deriving DecidableEq, Inhabited
abbrev Store := List Cell
abbrev Sl := List (Option D)
/-- an exception: its class, its fields -/
structure Xc where
  cls : D
  fs : List (Str × D) := []
/-- what an evaluation gives -/
inductive ER (α : Type) where
  | ok (a : α) (st : Store) | exc (x : Xc) (st : Store) | bad
def ER.bind {α β : Type} (r : ER α) (k : α → Store → ER β) : ER β := match r with
  | .ok a st => k a st
  | .exc x st => .exc x st
  | .bad => .bad
@[simp] theorem ER.bind_ok {α β : Type} (a : α) (st : Store) (k : α → Store → ER β) : (ER.ok a st).bind k = k a st := rfl
@[simp] theorem ER.bind_exc {α β : Type} (x : Xc) (st : Store) (k : α → Store → ER β) : (ER.exc x st : ER α).bind k = .exc x st := rfl
@[simp] theorem ER.bind_bad {α β : Type} (k : α → Store → ER β) : (ER.bad : ER α).bind k = .bad := rfl
/-- what a statement gives -/
inductive SR where
  | nx (τ : Sl) (st : Store) | bk (τ : Sl) (st : Store) | ct (τ : Sl) (st : Store) | rt (d : D) (st : Store) | exc (x : Xc) (τ : Sl) (st : Store) | bad
abbrev EM (α : Type) := Sl → Store → ER α
abbrev SM := Sl → Store → SR

/-! ### how values stand for those of the layer -/
/-- a list that nobody writes -/
def FzL (K : PySem.W.Frag) (H : Hp) (a : Addr) (xs : List V) : Prop :=
  (∃ o, H a = some (.frz o (.lst xs))) ∨
    ∃ (o : Obj) (its : Array Value) (n : Nat), K.lookup a = some o ∧ o.cls = .type "list" ∧ o.dict = none ∧ o.data = .seq its n ∧ its.size ≤ sizeLine ∧ Vals xs its.toList
theorem FzL.sq {K : PySem.W.Frag} {H : Hp} {a : Addr} {xs : List V} (h : FzL K H a xs) : SqL K H a xs := by
  rcases h with ⟨o, h⟩ | h
  · exact .inl (.inr ⟨o, h⟩)
  · exact .inr h
theorem FzL.of {K : PySem.W.Frag} {H : Hp} {a : Addr} {xs : List V} (h : SqL K H a xs) (n : ∀ ys, H a ≠ some (.lst ys)) : FzL K H a xs := by
  rcases h with (h | h) | h
  · exact absurd h (n xs)
  · exact .inl h
  · exact .inr h
theorem FzL.new {K : PySem.W.Frag} {H : Hp} {p : Addr} {o : HO} (h : H p = none) {a : Addr} {vs : List V} (s : FzL K H a vs) : FzL K (upd H p o) a vs := by
  rcases s with ⟨ob, s⟩ | s
  · exact .inl ⟨ob, by rw [upd_ne (ne_of_none s h)]; exact s⟩
  · exact .inr s
mutual
inductive RD (K : PySem.W.Frag) (m : List Addr) (H : Hp) : D → V → Prop
  | non : RD K m H .non .non
  | bl (b : Bool) : RD K m H (.bl b) (.bl b)
  | int (i : Int) : RD K m H (.int i) (.int i)
  | str (x : List Nat) : RD K m H (.str x) (.str ⟨x.toArray⟩)
  | ty (n : String) : RD K m H (.ty n) (.ty n)
  | adr (a : Addr) : RD K m H (.adr a) (.ref a)
  | tup {a : Addr} {vs : List V} {ds : List D} : SqT K H a vs → RDs K m H ds vs → RD K m H (.tup ds) (.ref a)
  | rol {a : Addr} {vs : List V} {ds : List D} : FzL K H a vs → RDs K m H ds vs → RD K m H (.rol ds) (.ref a)
  | ref {n : Nat} {a : Addr} : m[n]? = some a → RD K m H (.ref n) (.ref a)
inductive RDs (K : PySem.W.Frag) (m : List Addr) (H : Hp) : List D → List V → Prop
  | nil : RDs K m H [] []
  | cons {d : D} {v : V} {ds : List D} {vs : List V} : RD K m H d v → RDs K m H ds vs → RDs K m H (d :: ds) (v :: vs)
end
/-- what values lean on is kept -/
structure Kp (K : PySem.W.Frag) (m : List Addr) (H : Hp) (m' : List Addr) (H' : Hp) : Prop where
  pre : ∀ (n : Nat) (a : Addr), m[n]? = some a → m'[n]? = some a
  tup : ∀ (a : Addr) (vs : List V), SqT K H a vs → SqT K H' a vs
  fzl : ∀ (a : Addr) (vs : List V), FzL K H a vs → FzL K H' a vs
/-- all that was is kept, but what the store may change -/
structure Ext (K : PySem.W.Frag) (m : List Addr) (H : Hp) (m' : List Addr) (H' : Hp) : Prop extends Kp K m H m' H' where
  frm : ∀ (a : Addr) (o : HO), a ∉ m → H a = some o → H' a = some o
  new : ∀ a : Addr, a ∈ m' → a ∉ m → H a = none
section
variable {K : PySem.W.Frag} {m m1 m2 m' : List Addr} {H H1 H2 H' : Hp}
theorem Ext.refl : Ext K m H m H := ⟨⟨fun _ _ h => h, fun _ _ h => h, fun _ _ h => h⟩, fun _ _ _ h => h, fun _ h n => absurd h n⟩
theorem Ext.mem (e : Ext K m H m1 H1) {a : Addr} (h : a ∈ m) : a ∈ m1 := by
  obtain ⟨n, q⟩ := List.getElem?_of_mem h
  exact List.mem_of_getElem? (e.pre n a q)
theorem Ext.trans (e : Ext K m H m1 H1) (f : Ext K m1 H1 m2 H2) : Ext K m H m2 H2 where
  pre := fun n a h => f.pre n a (e.pre n a h)
  tup := fun a vs h => f.tup a vs (e.tup a vs h)
  fzl := fun a vs h => f.fzl a vs (e.fzl a vs h)
  frm := fun a o n h => by
    refine f.frm a o (fun q => ?_) (e.frm a o n h)
    rw [e.new a q n] at h
    cases h
  new := fun a h n => by
    by_cases q : a ∈ m1
    · exact e.new a q n
    · have z := f.new a h q
      cases r : H a with
      | none => rfl
      | some o =>
        rw [e.frm a o n r] at z
        cases z
mutual
theorem RD.kp (e : Kp K m H m' H') : ∀ {d : D} {v : V}, RD K m H d v → RD K m' H' d v
  | _, _, .non => .non
  | _, _, .bl b => .bl b
  | _, _, .int i => .int i
  | _, _, .str x => .str x
  | _, _, .ty n => .ty n
  | _, _, .adr a => .adr a
  | _, _, .tup h r => .tup (e.tup _ _ h) (RDs.kp e r)
  | _, _, .rol h r => .rol (e.fzl _ _ h) (RDs.kp e r)
  | _, _, .ref h => .ref (e.pre _ _ h)
theorem RDs.kp (e : Kp K m H m' H') : ∀ {ds : List D} {vs : List V}, RDs K m H ds vs → RDs K m' H' ds vs
  | _, _, .nil => .nil
  | _, _, .cons h r => .cons (RD.kp e h) (RDs.kp e r)
end
theorem RD.mono (e : Ext K m H m' H') {d : D} {v : V} (r : RD K m H d v) : RD K m' H' d v := r.kp e.toKp
theorem RDs.mono (e : Ext K m H m' H') {ds : List D} {vs : List V} (r : RDs K m H ds vs) : RDs K m' H' ds vs := r.kp e.toKp
theorem RDs.len : ∀ {ds : List D} {vs : List V}, RDs K m H ds vs → ds.length = vs.length
  | _, _, .nil => rfl
  | _, _, .cons _ r => congrArg (· + 1) r.len
theorem RDs.get : ∀ {ds : List D} {vs : List V} {i : Nat} {d : D}, RDs K m H ds vs → ds[i]? = some d → ∃ v, vs[i]? = some v ∧ RD K m H d v
  | _, _, _, _, .nil, e => by simp at e
  | _, _, 0, _, .cons h _, e => by
    simp at e
    subst e
    exact ⟨_, rfl, h⟩
  | _, _, i + 1, d, .cons _ r, e => by
    obtain ⟨v, h1, h2⟩ := RDs.get (i := i) (d := d) r (by simpa using e)
    exact ⟨v, by simpa using h1, h2⟩
theorem RDs.append : ∀ {ds es : List D} {vs us : List V}, RDs K m H ds vs → RDs K m H es us → RDs K m H (ds ++ es) (vs ++ us)
  | _, _, _, _, .nil, s => s
  | _, _, _, _, .cons h r, s => .cons h (RDs.append r s)
theorem RDs.take : ∀ {ds : List D} {vs : List V} (n : Nat), RDs K m H ds vs → RDs K m H (ds.take n) (vs.take n)
  | _, _, 0, _ => .nil
  | _, _, _ + 1, .nil => .nil
  | _, _, n + 1, .cons h r => .cons h (RDs.take n r)
theorem RDs.drop : ∀ {ds : List D} {vs : List V} (n : Nat), RDs K m H ds vs → RDs K m H (ds.drop n) (vs.drop n)
  | _, _, 0, r => r
  | _, _, _ + 1, .nil => .nil
  | _, _, n + 1, .cons _ r => RDs.drop n r
theorem RDs.set {d : D} {v : V} (h : RD K m H d v) : ∀ {ds : List D} {vs : List V} (i : Nat), RDs K m H ds vs → RDs K m H (ds.set i d) (vs.set i v)
  | _, _, _, .nil => .nil
  | _, _, 0, .cons _ r => .cons h r
  | _, _, i + 1, .cons g r => .cons g (RDs.set h i r)
theorem RDs.erase : ∀ {ds : List D} {vs : List V} (i : Nat), RDs K m H ds vs → RDs K m H (ds.eraseIdx i) (vs.eraseIdx i)
  | _, _, _, .nil => .nil
  | _, _, 0, .cons _ r => r
  | _, _, i + 1, .cons g r => .cons g (RDs.erase i r)
theorem RDs.dropLast {ds : List D} {vs : List V} (r : RDs K m H ds vs) : RDs K m H ds.dropLast vs.dropLast := by
  rw [List.dropLast_eq_take, List.dropLast_eq_take, r.len]
  exact r.take _
theorem RDs.one {d : D} {vs : List V} (r : RDs K m H [d] vs) : ∃ v, vs = [v] ∧ RD K m H d v := by
  cases r with
  | cons h r =>
    cases r
    exact ⟨_, rfl, h⟩
theorem RDs.two {d e : D} {vs : List V} (r : RDs K m H [d, e] vs) : ∃ v u, vs = [v, u] ∧ RD K m H d v ∧ RD K m H e u := by
  cases r with
  | cons h r =>
    obtain ⟨u, rfl, h2⟩ := r.one
    exact ⟨_, _, rfl, h, h2⟩
theorem RDs.reverse {ds : List D} {vs : List V} (r : RDs K m H ds vs) : RDs K m H ds.reverse vs.reverse := by
  induction ds generalizing vs with
  | nil =>
    cases r
    exact .nil
  | cons d ds ih =>
    cases r with
    | cons h r =>
      rw [List.reverse_cons, List.reverse_cons]
      exact (ih r).append (.cons h .nil)
theorem RDs.ints : ∀ (ns : List Int), RDs K m H (ns.map D.int) (ns.map V.int)
  | [] => .nil
  | n :: r => .cons (.int n) (RDs.ints r)
/-- a cell and what stands at its address -/
def RC (K : PySem.W.Frag) (m : List Addr) (H : Hp) (a : Addr) : Cell → Prop
  | .lst ds => ∃ vs, H a = some (.lst vs) ∧ RDs K m H ds vs
structure SS (K : PySem.W.Frag) (m : List Addr) (st : Store) (H : Hp) : Prop where
  len : m.length = st.length
  nd : m.Nodup
  cel : ∀ (n : Nat) (c : Cell) (a : Addr), st[n]? = some c → m[n]? = some a → RC K m H a c
/-- the slots -/
structure SL (K : PySem.W.Frag) (m : List Addr) (H : Hp) (τ : Sl) (σ : L2.St) : Prop where
  len : τ.length = σ.length
  get : ∀ (i : Nat) (d : D), τ[i]? = some (some d) → ∃ v, σ[i]? = some (some v) ∧ RD K m H d v
theorem SL.mono {τ : Sl} {σ : L2.St} (s : SL K m H τ σ) (e : Ext K m H m' H') : SL K m' H' τ σ :=
  ⟨s.len, fun i d h => let ⟨v, h1, h2⟩ := s.get i d h; ⟨v, h1, h2.mono e⟩⟩
theorem SL.set {τ : Sl} {σ : L2.St} {d : D} {v : V} (s : SL K m H τ σ) (i : Nat) (r : RD K m H d v) : SL K m H (τ.set i (some d)) (σ.set i (some v)) := by
  refine ⟨by simpa using s.len, fun j e h => ?_⟩
  by_cases hj : i = j
  · subst hj
    by_cases hl : i < τ.length
    · rw [List.getElem?_set_self hl] at h
      simp only [Option.some.injEq] at h
      subst h
      exact ⟨v, by rw [List.getElem?_set_self (by rw [← s.len]; exact hl)], r⟩
    · rw [List.getElem?_eq_none (by simpa using hl)] at h
      cases h
  · rw [List.getElem?_set_ne hj] at h
    rw [List.getElem?_set_ne hj]
    exact s.get j e h
theorem SS.at {st : Store} {n : Nat} {c : Cell} (s : SS K m st H) (h : st[n]? = some c) : ∃ a, m[n]? = some a ∧ RC K m H a c := by
  have hl : n < m.length := by
    rw [s.len]
    exact (List.getElem?_eq_some_iff.mp h).1
  exact ⟨m[n], by simp, s.cel n c _ h (by simp)⟩
theorem sqT_new {p : Addr} {o : HO} (h : H p = none) {a : Addr} {vs : List V} (s : SqT K H a vs) : SqT K (upd H p o) a vs := by
  rcases s with (s | ⟨ob, s⟩) | s
  · exact .inl (.inl (by rw [upd_ne (ne_of_none s h)]; exact s))
  · exact .inl (.inr ⟨ob, by rw [upd_ne (ne_of_none s h)]; exact s⟩)
  · exact .inr s
theorem sqL_new {p : Addr} {o : HO} (h : H p = none) {a : Addr} {vs : List V} (s : SqL K H a vs) : SqL K (upd H p o) a vs := by
  rcases s with (s | ⟨ob, s⟩) | s
  · exact .inl (.inl (by rw [upd_ne (ne_of_none s h)]; exact s))
  · exact .inl (.inr ⟨ob, by rw [upd_ne (ne_of_none s h)]; exact s⟩)
  · exact .inr s
theorem sqL_ne {p a : Addr} {o : HO} {vs : List V} (h : a ≠ p) (s : SqL K H a vs) : SqL K (upd H p o) a vs := by
  rcases s with (s | ⟨ob, s⟩) | s
  · exact .inl (.inl (by rw [upd_ne h]; exact s))
  · exact .inl (.inr ⟨ob, by rw [upd_ne h]; exact s⟩)
  · exact .inr s
theorem RC.here {a : Addr} {c : Cell} (r : RC K m H a c) : ∃ o, H a = some o := by
  cases c with
  | lst ds =>
    obtain ⟨vs, h, _⟩ := r
    exact ⟨_, h⟩
/-- a new object that the store does not hold -/
theorem Ext.fresh {p : Addr} {o : HO} (h : H p = none) : Ext K m H m (upd H p o) :=
  ⟨⟨fun _ _ h => h, fun _ _ s => sqT_new h s, fun _ _ s => s.new h⟩, fun a ob _ q => by rw [upd_ne (ne_of_none q h)]; exact q, fun _ q n => absurd q n⟩
theorem RC.fresh {p a : Addr} {o : HO} {c : Cell} (h : H p = none) (r : RC K m H a c) : RC K m (upd H p o) a c := by
  cases c with
  | lst ds =>
    obtain ⟨vs, q, r⟩ := r
    exact ⟨vs, by rw [upd_ne (ne_of_none q h)]; exact q, r.mono (Ext.fresh h)⟩
theorem SS.fresh {p : Addr} {o : HO} {st : Store} (s : SS K m st H) (h : H p = none) : SS K m st (upd H p o) :=
  ⟨s.len, s.nd, fun n c a h1 h2 => (s.cel n c a h1 h2).fresh h⟩
/-- a new object of the store's -/
theorem Ext.app {p : Addr} {o : HO} (h : H p = none) : Ext K m H (m ++ [p]) (upd H p o) where
  pre := fun n a q => by
    rw [List.getElem?_append_left (List.getElem?_eq_some_iff.mp q).1]
    exact q
  tup := fun _ _ s => sqT_new h s
  fzl := fun _ _ s => s.new h
  frm := fun a ob _ q => by rw [upd_ne (ne_of_none q h)]; exact q
  new := fun a q n => by
    rcases List.mem_append.mp q with q | q
    · exact absurd q n
    · have e : a = p := by simpa using q
      rw [e]
      exact h
theorem Ext.grow {p : Addr} : (H p = none) → Ext K m H (m ++ [p]) H := fun h => {
  pre := fun n a q => by
    rw [List.getElem?_append_left (List.getElem?_eq_some_iff.mp q).1]
    exact q
  tup := fun _ _ s => s
  fzl := fun _ _ s => s
  frm := fun a ob _ q => q
  new := fun a q n => by
    rcases List.mem_append.mp q with q | q
    · exact absurd q n
    · have e : a = p := by simpa using q
      rw [e]
      exact h }
theorem RC.kp {a : Addr} {c : Cell} (r : RC K m H a c) (e : Kp K m H m' H') (h : ∀ o, H a = some o → H' a = some o) : RC K m' H' a c := by
  cases c with
  | lst ds =>
    obtain ⟨vs, q, r⟩ := r
    exact ⟨vs, h _ q, r.kp e⟩
theorem Kp.grow {p : Addr} : Kp K m H (m ++ [p]) H := ⟨fun n a q => by
    rw [List.getElem?_append_left (List.getElem?_eq_some_iff.mp q).1]
    exact q, fun _ _ s => s, fun _ _ s => s⟩
/-- an object that is there becomes the store's -/
theorem SS.grow {p : Addr} {c : Cell} {st : Store} (s : SS K m st H) (hp : p ∉ m) (r : RC K (m ++ [p]) H p c) : SS K (m ++ [p]) (st ++ [c]) H where
  len := by simp [s.len]
  nd := by
    rw [List.nodup_append]
    refine ⟨s.nd, by simp, fun a h1 b h2 e => ?_⟩
    have e2 : b = p := by simpa using h2
    rw [e, e2] at h1
    exact hp h1
  cel := fun n d a h1 h2 => by
    by_cases hn : n < st.length
    · rw [List.getElem?_append_left hn] at h1
      rw [List.getElem?_append_left (by rw [s.len]; exact hn)] at h2
      exact (s.cel n d a h1 h2).kp Kp.grow fun _ q => q
    · have hl : n < (st ++ [c]).length := (List.getElem?_eq_some_iff.mp h1).1
      have e : n = st.length := by
        rw [List.length_append, List.length_singleton] at hl
        omega
      subst e
      have e1 : c = d := by simpa using h1
      have e2 : p = a := by
        rw [← s.len] at h2
        simpa using h2
      rw [← e1, ← e2]
      exact r
theorem SS.notin {st : Store} {p : Addr} (s : SS K m st H) (h : H p = none) : p ∉ m := fun q => by
  obtain ⟨n, e⟩ := List.getElem?_of_mem q
  have hl : n < st.length := by
    rw [← s.len]
    exact (List.getElem?_eq_some_iff.mp e).1
  obtain ⟨o, z⟩ := (s.cel n st[n] p (by simp) e).here
  rw [h] at z
  cases z
/-- a list is written -/
theorem Kp.write {p : Addr} {xs : List V} {o : HO} (h : H p = some (.lst xs)) : Kp K m H m (upd H p o) where
  pre := fun _ _ q => q
  tup := fun a vs s => by
    rcases s with (s | ⟨ob, s⟩) | s
    · exact .inl (.inl (by rw [upd_ne (fun e => by rw [e, h] at s; cases s)]; exact s))
    · exact .inl (.inr ⟨ob, by rw [upd_ne (fun e => by rw [e, h] at s; cases s)]; exact s⟩)
    · exact .inr s
  fzl := fun a vs s => by
    rcases s with ⟨ob, s⟩ | s
    · exact .inl ⟨ob, by rw [upd_ne (fun e => by rw [e, h] at s; cases s)]; exact s⟩
    · exact .inr s
/-- a list that is not the store's is written -/
theorem SS.other {st : Store} {p : Addr} {xs : List V} {o : HO} (s : SS K m st H) (h : H p = some (.lst xs)) (hp : p ∉ m) : SS K m st (upd H p o) :=
  ⟨s.len, s.nd, fun n c a h1 h2 => (s.cel n c a h1 h2).kp (Kp.write h) fun ob q => by rw [upd_ne (fun e : a = p => hp (by rw [← e]; exact List.mem_of_getElem? h2))]; exact q⟩
/-- a list of the store's is written -/
theorem Ext.write {n : Nat} {p : Addr} {xs : List V} {o : HO} (h : H p = some (.lst xs)) (hn : m[n]? = some p) : Ext K m H m (upd H p o) :=
  { Kp.write h with
    frm := fun a ob q z => by rw [upd_ne (fun e : a = p => q (by rw [e]; exact List.mem_of_getElem? hn))]; exact z
    new := fun a q n => absurd q n }
theorem SS.write {st : Store} {n : Nat} {p : Addr} {xs ys : List V} {ds : List D} (s : SS K m st H) (h : H p = some (.lst xs)) (hn : m[n]? = some p) (r : RDs K m H ds ys) : SS K m (st.set n (.lst ds)) (upd H p (.lst ys)) where
  len := by rw [List.length_set]; exact s.len
  nd := s.nd
  cel := fun i c a h1 h2 => by
    by_cases hi : n = i
    · subst hi
      rw [hn] at h2
      cases h2
      have hl : n < st.length := by
        rw [← s.len]
        exact (List.getElem?_eq_some_iff.mp hn).1
      rw [List.getElem?_set_self hl] at h1
      cases h1
      exact ⟨ys, upd_same, r.kp (Kp.write h)⟩
    · rw [List.getElem?_set_ne hi] at h1
      refine (s.cel i c a h1 h2).kp (Kp.write h) fun ob q => ?_
      rw [upd_ne fun e => hi ?_]
      · exact q
      · subst e
        obtain ⟨l1, e1⟩ := List.getElem?_eq_some_iff.mp hn
        obtain ⟨l2, e2⟩ := List.getElem?_eq_some_iff.mp h2
        exact (List.getElem_inj s.nd).mp (e1.trans e2.symm)
end
end HM

/-! HM, part 2: what an evaluation promises; expressions. -/
namespace HM
open PySem PySem.Spec PyProof.Rows L2

/-- an exception and how it flies -/
def XR (K : PySem.W.Frag) (m : List Addr) (H : Hp) (x : Xc) (c : Value) (d : Option Addr) : Prop := match x.cls with
  | .ty n => c = .type n ∧ x.fs = []
  | .adr a => c = .ref a ∧ (x.fs = [] ∨ ∃ da vs, d = some da ∧ H da = some (.xd vs) ∧ Paired (fun (p : Str × D) (q : Str × V) => p.1 = q.1 ∧ RD K m H p.2 q.2) x.fs vs)
  | _ => False
/-- behind an evaluation -/
def Pe {α β : Type} (K : PySem.W.Frag) (E : XK) (R : List Addr → Hp → α → β → Prop) (m : List Addr) (H : Hp) (r : ER α) (Q : β → Hp → Prop) : Prop := match r with
  | .ok a st => ∀ m' H' b, Ext K m H m' H' → SS K m' st H' → R m' H' a b → Q b H'
  | .exc x st => ∀ m' H' c d, Ext K m H m' H' → SS K m' st H' → XR K m' H' x c d → E c d H'
  | .bad => False
section
variable {α β γ δ : Type} {K : PySem.W.Frag} {E : XK} {R : List Addr → Hp → α → β → Prop} {S : List Addr → Hp → γ → δ → Prop} {m m1 : List Addr} {H H1 : Hp} {r : ER α} {Q : β → Hp → Prop}
theorem Pe.up (h : Pe K E R m H r Q) (e : Ext K m H m1 H1) : Pe K E R m1 H1 r Q := by
  cases r with
  | ok a st => exact fun m' H' b e' s q => h m' H' b (e.trans e') s q
  | exc x st => exact fun m' H' c d e' s q => h m' H' c d (e.trans e') s q
  | bad => exact h
theorem Pe.bind {k : α → Store → ER γ} {Q' : δ → Hp → Prop} (h : Pe K E S m H (r.bind k) Q')
    (hk : ∀ a st m' H' b, Ext K m H m' H' → SS K m' st H' → R m' H' a b → Pe K E S m' H' (k a st) Q' → Q b H') : Pe K E R m H r Q := by
  cases r with
  | ok a st => exact fun m' H' b e s q => hk a st m' H' b e s q (Pe.up h e)
  | exc x st => exact h
  | bad => exact h
theorem Pe.now {a : α} {st : Store} {b : β} (h : Pe K E R m H (.ok a st) Q) (s : SS K m st H) (q : R m H a b) : Q b H := h m H b .refl s q
theorem Pe.imp {Q' : β → Hp → Prop} (h : Pe K E R m H r Q) (hQ : ∀ b H, Q b H → Q' b H) : Pe K E R m H r Q' := by
  cases r with
  | ok a st => exact fun m' H' b e s q => hQ _ _ (h m' H' b e s q)
  | exc x st => exact h
  | bad => exact h
end
abbrev RB : List Addr → Hp → Bool → Bool → Prop := fun _ _ a b => a = b

/-! ### judgements -/
def wE (X : Cx) (e : Expr) : TE := fun σ H Q => ∀ (pins : List (Addr × Obj)) (s : Shared), Inv X pins σ H s → wpAny (model X.prog X.w) X.A (eval e X.env) (EP X pins σ Q) X.xe s
def wT (X : Cx) (e : Expr) : TT := fun σ H Q => ∀ (pins : List (Addr × Obj)) (s : Shared), Inv X pins σ H s → wpAny (model X.prog X.w) X.A (isTrue e X.env (eval e X.env)) (TP X pins σ Q) X.xe s
def wW (X : Cx) (e : Expr) : TT := fun σ H Q => ∀ (whole : Sem Value) (pins : List (Addr × Obj)) (s : Shared), Inv X pins σ H s → wpAny (model X.prog X.w) X.A (isTrue e X.env whole) (TP X pins σ Q) X.xe s
def wA (X : Cx) (es : List Expr) : TA := fun σ H Q => ∀ (pos : Pos) (pins : List (Addr × Obj)) (s : Shared), Inv X pins σ H s → wpAny (model X.prog X.w) X.A (spliced (backTo pos (starEach es X.env))) (AP X pins σ Q) X.xe s
theorem peW {X : Cx} {e : Expr} : PE X e (wE X e) := ⟨fun pins s σ H Q I h => h pins s I⟩
theorem ptW {X : Cx} {e : Expr} : PT X e (wT X e) := ⟨fun pins s σ H Q I h => h pins s I⟩
theorem pwW {X : Cx} {e : Expr} : PW X e (wW X e) := ⟨fun wh pins s σ H Q I h => h wh pins s I⟩
theorem paW {X : Cx} {es : List Expr} : PA X es (wA X es) := ⟨fun pos pins s σ H Q I h => h pos pins s I⟩
/-- an expression -/
structure Ex (X : Cx) (W : WX) (e : Expr) (f : EM D) : Prop where
  run : ∀ (m : List Addr) (τ : Sl) (st : Store) (σ : L2.St) (H : Hp) (Q : VK), SL X.K m H τ σ → SS X.K m st H → Pe X.K (fun c d H' => W c d σ H') (RD X.K) m H (f τ st) Q → wE X e σ H Q
/-- a test -/
structure Et (X : Cx) (W : WX) (e : Expr) (f : EM Bool) : Prop where
  run : ∀ (m : List Addr) (τ : Sl) (st : Store) (σ : L2.St) (H : Hp) (Q : Bool → Hp → Prop), SL X.K m H τ σ → SS X.K m st H → Pe X.K (fun c d H' => W c d σ H') RB m H (f τ st) Q → wT X e σ H Q
/-- a test whatever its whole is -/
structure Ew (X : Cx) (W : WX) (e : Expr) (f : EM Bool) : Prop where
  run : ∀ (m : List Addr) (τ : Sl) (st : Store) (σ : L2.St) (H : Hp) (Q : Bool → Hp → Prop), SL X.K m H τ σ → SS X.K m st H → Pe X.K (fun c d H' => W c d σ H') RB m H (f τ st) Q → wW X e σ H Q
/-- arguments -/
structure Ea (X : Cx) (W : WX) (es : List Expr) (f : EM (List D)) : Prop where
  run : ∀ (m : List Addr) (τ : Sl) (st : Store) (σ : L2.St) (H : Hp) (Q : List V → Hp → Prop), SL X.K m H τ σ → SS X.K m st H → Pe X.K (fun c d H' => W c d σ H') (RDs X.K) m H (f τ st) Q → wA X es σ H Q
section
variable {X : Cx} {W : WX} {e a b c : Expr} {es rest : List Expr} {pos : Pos} {f fa fb fc : EM D} {fs : EM (List D)} {g : EM Bool}
theorem Ex.le {f' : EM D} (h : Ex X W e f) (hl : ∀ (m : List Addr) (τ : Sl) (st : Store) (H : Hp) (E : XK) (Q : VK), SS X.K m st H → Pe X.K E (RD X.K) m H (f' τ st) Q → Pe X.K E (RD X.K) m H (f τ st) Q) : Ex X W e f' :=
  ⟨fun m τ st σ H Q hL hS hP => h.run m τ st σ H Q hL hS (hl m τ st H _ Q hS hP)⟩

/-! ### names, constants -/
def eVar (i : Nat) : EM D := fun τ st => match τ[i]? with
  | some (some d) => .ok d st
  | _ => .bad
theorem ex_var {i : Nat} {x : Str} (hN : X.N[i]? = some x) (hv : Vis X.env.scope x) (hd : (x == ("__debug__" : Str)) = false := by decide) (hcd : (x == ("__classdict__" : Str)) = false := by decide) : Ex X W (.Name x pos) (eVar i) := by
  refine ⟨fun m τ st σ H Q hL hS hP pins s I => ?_⟩
  refine (pe_var hN hv hd hcd).run pins s σ H Q I ?_
  unfold eVar at hP
  split at hP
  · rename_i d hd
    obtain ⟨v, h1, h2⟩ := hL.get i d hd
    exact ⟨v, h1, hP.now hS h2⟩
  · exact hP.elim
theorem xv (i : Nat) {x : Str} (hN : X.N[i]? = some x := by rfl) (hv : Vis X.env.scope x := by first | exact Or.inl rfl | exact Or.inr (Or.inl rfl) | exact Or.inr (Or.inr rfl)) (hd : (x == ("__debug__" : Str)) = false := by decide)
    (hcd : (x == ("__classdict__" : Str)) = false := by decide) : Ex X W (.Name x pos) (eVar i) := ex_var hN hv hd hcd
def eC (d : D) : EM D := fun _ st => .ok d st
theorem ex_c {t : TE} {d : D} {v : V} (h : PE X e t) (ht : ∀ σ H Q, Q v H → t σ H Q) (r : ∀ m H, RD X.K m H d v) : Ex X W e (eC d) :=
  ⟨fun m τ st σ H Q hL hS hP pins s I => h.run pins s σ H Q I (ht _ _ _ (hP.now hS (r m H)))⟩
theorem ex_int {i j} : Ex X W (.Constant (.int i) j pos) (eC (.int i)) := ex_c pe_int (fun _ _ _ h => h) fun _ _ => .int i
theorem ex_bl {i j} : Ex X W (.Constant (.bool i) j pos) (eC (.bl i)) := ex_c pe_bl (fun _ _ _ h => h) fun _ _ => .bl i
theorem ex_non {j} : Ex X W (.Constant .none j pos) (eC .non) := ex_c pe_non (fun _ _ _ h => h) fun _ _ => .non
theorem ex_str {x : Str} {j} : Ex X W (.Constant (.str x) j pos) (eC (.str x.cps.toList)) := ex_c pe_str (fun _ _ _ h => h) fun _ _ => by
  have e : x = ⟨x.cps.toList.toArray⟩ := by simp
  exact e ▸ .str x.cps.toList
theorem ex_strc {x : Str} {j} (l : List Nat) (h : x.cps.toList = l) : Ex X W (.Constant (.str x) j pos) (eC (.str l)) := by
  subst h
  exact ex_str
/-- a module's constant -/
theorem ex_glob {x : Str} {v : V} {u : Value} {d : D} (hg : Gl X x) (hm : X.mg x = some u) (r : RelV v u) (rd : ∀ m H, RD X.K m H d v) (hd : (x == ("__debug__" : Str)) = false := by decide) : Ex X W (.Name x pos) (eC d) :=
  ex_c (pe_glob hg hm r hd) (fun _ _ _ h => h) rd
theorem ex_bltn {x : Str} {v : V} {u : Value} {d : D} (hg : Gl X x) (hm : X.mg x = none) (hv : bootBuiltins x = some u) (r : RelV v u) (rd : ∀ m H, RD X.K m H d v) (hn : x ≠ "__name__" := by decide) (hd : (x == ("__debug__" : Str)) = false := by decide) : Ex X W (.Name x pos) (eC d) :=
  ex_c (pe_bltn hg hm hv r hn hd) (fun _ _ _ h => h) rd

/-! ### operators -/
abbrev O1 := D → Store → ER D
abbrev O2 := D → D → Store → ER D
/-- a rule by values -/
def OpM (X : Cx) (W : WX) (f : Value → Value → Sem Value) (g : O2) : Prop :=
  ∀ (m : List Addr) (st : Store) (σ : L2.St) (H : Hp) (dx dy : D) (x y : V) (Q : VK), SS X.K m st H → RD X.K m H dx x → RD X.K m H dy y → Pe X.K (fun c d H' => W c d σ H') (RD X.K) m H (g dx dy st) Q →
    ∀ (pins : List (Addr × Obj)) (s : Shared) (v u : Value), Inv X pins σ H s → RelV x v → RelV y u → wpAny (model X.prog X.w) X.A (f v u) (EP X pins σ Q) X.xe s
theorem OpM.opr {F : Value → Value → Sem Value} {g : O2} (h : OpM X W F g) : OpR X F (fun x y H Q => ∀ (pins : List (Addr × Obj)) (s : Shared) (σ : L2.St) (v u : Value), Inv X pins σ H s → RelV x v → RelV y u → wpAny (model X.prog X.w) X.A (F v u) (EP X pins σ Q) X.xe s) :=
  fun pins s σ H x y v u Q I rx ry z => z pins s σ v u I rx ry
def eBin (g : O2) (fa fb : EM D) : EM D := fun τ st => (fa τ st).bind fun x s1 => (fb τ s1).bind fun y s2 => g x y s2
def wR2 (X : Cx) (f : Value → Value → Sem Value) (σ : L2.St) : R2 := fun x y H Q => ∀ (pins : List (Addr × Obj)) (s : Shared) (v u : Value), Inv X pins σ H s → RelV x v → RelV y u → wpAny (model X.prog X.w) X.A (f v u) (EP X pins σ Q) X.xe s
/-- two expressions in a row -/
theorem two {g : D → D → Store → ER α} {α' : Type} {RA : List Addr → Hp → α → α' → Prop} {Q : α' → Hp → Prop} (ha : Ex X W a fa) (hb : Ex X W b fb) {m : List Addr} {τ : Sl} {st : Store} {σ : L2.St} {H : Hp} (hL : SL X.K m H τ σ) (hS : SS X.K m st H)
    (hP : Pe X.K (fun c d H' => W c d σ H') RA m H ((fa τ st).bind fun x s1 => (fb τ s1).bind fun y s2 => g x y s2) Q) {R : V → V → Hp → Prop}
    (hk : ∀ (m2 : List Addr) (st2 : Store) (H2 : Hp) (dx dy : D) (x y : V), Ext X.K m H m2 H2 → SS X.K m2 st2 H2 → RD X.K m2 H2 dx x → RD X.K m2 H2 dy y → Pe X.K (fun c d H' => W c d σ H') RA m2 H2 (g dx dy st2) Q → R x y H2) :
    wE X a σ H fun x H1 => wE X b σ H1 fun y H2 => R x y H2 :=
  ha.run m τ st σ H _ hL hS (hP.bind fun dx s1 m1 H1 x e1 hS1 r1 hP1 => hb.run m1 τ s1 σ H1 _ (hL.mono e1) hS1 (hP1.bind fun dy s2 m2 H2 y e2 hS2 r2 hP2 => hk m2 s2 H2 dx dy x y (e1.trans e2) hS2 (r1.mono e2) r2 hP2))
theorem ex_op {op : Operator} {g : O2} (ho : OpM X W (binaryOp op) g) (ha : Ex X W a fa) (hb : Ex X W b fb) : Ex X W (.BinOp a op b pos) (eBin g fa fb) := by
  refine ⟨fun m τ st σ H Q hL hS hP pins s I => ?_⟩
  refine wpAny_BinOp (binT peW peW I (R := fun x y H2 => wR2 X (binaryOp op) σ x y H2 Q) (two ha hb hL hS hP fun m2 st2 H2 dx dy x y e2 hS2 r1 r2 hP2 pins s v u I rx ry => ho m2 st2 σ H2 dx dy x y Q hS2 r1 r2 hP2 pins s v u I rx ry) fun v u s2 x y H2 I2 rx ry q => q pins s2 v u I2 rx ry)
end
end HM

/-! HM, part 3: operators by values. -/
namespace HM
open PySem PySem.Spec PyProof.Rows L2
section
variable {X : Cx} {W : WX}
theorem opm_of {f : Value → Value → Sem Value} {r : R2} {g : O2} (hr : OpR X f r) (h : ∀ (m : List Addr) (st : Store) (H : Hp) (dx dy : D) (x y : V) (E : XK) (Q : VK), SS X.K m st H → RD X.K m H dx x → RD X.K m H dy y → Pe X.K E (RD X.K) m H (g dx dy st) Q → r x y H Q) : OpM X W f g :=
  fun m st σ H dx dy x y Q hS r1 r2 hP pins s v u I rx ry => hr pins s σ H x y v u Q I rx ry (h m st H dx dy x y _ Q hS r1 r2 hP)
end
section
variable {K : PySem.W.Frag} {E : XK} {m : List Addr} {st : Store} {H : Hp} {Q : VK}
/-- a new tuple -/
theorem Pe.tup {ds : List D} {vs : List V} (h : Pe K E (RD K) m H (.ok (.tup ds) st) Q) (s : SS K m st H) (r : RDs K m H ds vs) : ∀ p, H p = none → Q (.ref p) (upd H p (.tup vs)) := fun p hp =>
  h m _ _ (Ext.fresh hp) (s.fresh hp) (.tup (SqT.of upd_same) (r.mono (Ext.fresh hp)))
/-- a new list of the store's -/
theorem SS.app {c : Cell} {p : Addr} {o : HO} (s : SS K m st H) (hp : H p = none) (r : RC K (m ++ [p]) (upd H p o) p c) : SS K (m ++ [p]) (st ++ [c]) (upd H p o) :=
  (s.fresh hp).grow (s.notin hp) r
theorem Pe.lst {ds : List D} {vs : List V} (h : Pe K E (RD K) m H (.ok (.ref st.length) (st ++ [.lst ds])) Q) (s : SS K m st H) (r : RDs K m H ds vs) : ∀ p, H p = none → Q (.ref p) (upd H p (.lst vs)) := fun p hp => by
  refine h (m ++ [p]) _ _ (Ext.app hp) (s.app hp ⟨vs, upd_same, r.mono (Ext.app hp)⟩) (.ref ?_)
  rw [← s.len]
  simp
end
/-- the items of a list -/
def lstAt (st : Store) (n : Nat) : Option (List D) := match st[n]? with
  | some (.lst xs) => some xs
  | none => none
@[simp] theorem lstAt_app {st : Store} {xs : List D} : lstAt (st ++ [.lst xs]) st.length = some xs := by simp [lstAt]
theorem lstAt_left {st more : Store} {n : Nat} (h : n < st.length) : lstAt (st ++ more) n = lstAt st n := by
  unfold lstAt
  rw [List.getElem?_append_left h]
theorem SS.list {K : PySem.W.Frag} {m : List Addr} {st : Store} {H : Hp} {n : Nat} {xs : List D} {a : Addr} (s : SS K m st H) (h : lstAt st n = some xs) (e : m[n]? = some a) : ∃ vs, H a = some (.lst vs) ∧ RDs K m H xs vs := by
  unfold lstAt at h
  split at h
  · rename_i ys q
    cases h
    exact s.cel n _ a q e
  · cases h
theorem lstAt_lt {st : Store} {n : Nat} {xs : List D} (h : lstAt st n = some xs) : n < st.length := by
  unfold lstAt at h
  split at h
  · rename_i q
    exact (List.getElem?_eq_some_iff.mp q).1
  · cases h

/-! ### arithmetic -/
def oAdd : O2 := fun x y st => match x, y with
  | .int i, .int j => .ok (.int (i + j)) st
  | .str a, .str b => if a.length + b.length ≤ 16777216 then .ok (.str (a ++ b)) st else .bad
  | .tup a, .tup b => if a.length + b.length ≤ 16777216 then .ok (.tup (a ++ b)) st else .bad
  | .ref a, .ref b => match lstAt st a, lstAt st b with
    | some xs, some ys => if xs.length + ys.length ≤ 16777216 then .ok (.ref st.length) (st ++ [.lst (xs ++ ys)]) else .bad
    | _, _ => .bad
  | _, _ => .bad
def oInt (g : Int → Int → Int) : O2 := fun x y st => match x, y with
  | .int i, .int j => .ok (.int (g i j)) st
  | _, _ => .bad
def oIntC (C : Int → Int → Bool) (g : Int → Int → Int) : O2 := fun x y st => match x, y with
  | .int i, .int j => if C i j then .ok (.int (g i j)) st else .bad
  | _, _ => .bad
abbrev oSub : O2 := oInt fun i j => i - j
def oIAdd : O2 := fun x y st => match x, y with
  | .int i, .int j => .ok (.int (i + j)) st
  | .str a, .str b => if a.length + b.length ≤ 16777216 then .ok (.str (a ++ b)) st else .bad
  | _, _ => .bad
def okMul (i j : Int) : Bool := decide ((i.natAbs < 18446744073709551616 ∨ j.natAbs < 18446744073709551616) ∨ i.natAbs.log2 + j.natAbs.log2 < 1000000)
def okDiv (_ j : Int) : Bool := decide (j ≠ 0 ∧ j.natAbs.log2 < 9000)
def okMod (_ j : Int) : Bool := decide (j ≠ 0)
def okPow (i j : Int) : Bool := decide (0 ≤ j ∧ j ≤ 1000000 ∧ i.natAbs < 18446744073709551616)
def okShr (_ j : Int) : Bool := decide (0 ≤ j)
abbrev oMulI : O2 := oIntC okMul fun i j => i * j
abbrev oDiv : O2 := oIntC okDiv fun i j => i.fdiv j
abbrev oMod : O2 := oIntC okMod fun i j => i.fmod j
abbrev oPow : O2 := oIntC okPow fun i j => i ^ j.toNat
abbrev oShl : O2 := oIntC okPow fun i j => i * 2 ^ j.toNat
abbrev oShr : O2 := oIntC okShr fun i j => i / 2 ^ j.toNat
abbrev oAnd : O2 := oInt Builtin.bitAnd
section
variable {X : Cx} {W : WX}
theorem line_of {n : Nat} (h : n ≤ 16777216) : n ≤ sizeLine := by
  rw [PySem.sizeLine_eq]
  exact h
theorem op_add_all : OpR X (binaryOp .Add) (fun x y H Q => (rI0 (fun i j => .int (i + j)) x y H Q ∨ (∃ i j, x = .str i ∧ y = .str j ∧ i.length + j.length ≤ sizeLine ∧ Q (.str (i ++ j)) H)) ∨ (rCatA X.K x y H Q ∨ rCat x y H Q)) :=
  (op_add.or op_add_str).or (op_catA.or op_cat)
theorem m_add : OpM X W (binaryOp .Add) oAdd := opm_of op_add_all fun m st H dx dy x y E Q hS r1 r2 hP => by
  unfold oAdd at hP
  split at hP
  · cases r1
    cases r2
    exact .inl (.inl ⟨_, _, rfl, rfl, hP.now hS (.int _)⟩)
  · split at hP
    · rename_i hl
      cases r1
      cases r2
      refine .inl (.inr ⟨_, _, rfl, rfl, line_of hl, ?_⟩)
      have q := hP.now hS (.str _)
      have e : ∀ a b : List Nat, (⟨(a ++ b).toArray⟩ : PySem.Str) = (⟨a.toArray⟩ : PySem.Str) ++ (⟨b.toArray⟩ : PySem.Str) := fun a b => by
        show (⟨(a ++ b).toArray⟩ : PySem.Str) = ⟨a.toArray ++ b.toArray⟩
        simp
      rw [e] at q
      exact q
    · exact hP.elim
  · split at hP
    · rename_i a b hl
      cases r1 with
      | tup s1 h1 =>
        rename_i va
        cases r2 with
        | tup s2 h2 =>
          rename_i vb
          refine .inr (.inl ⟨_, _, _, _, rfl, rfl, s1, s2, line_of (by rw [← h1.len, ← h2.len]; exact hl), fun e => ?_, fun _ e => ?_, fun _ _ => ?_⟩)
          · subst e
            cases h1
            exact hP.now hS (.tup s2 h2)
          · subst e
            cases h2
            rw [List.append_nil] at hP
            exact hP.now hS (.tup s1 h1)
          · exact hP.tup hS (h1.append h2)
    · exact hP.elim
  · rename_i a b
    split at hP
    · rename_i xs ys ex ey
      split at hP
      · rename_i hl
        cases r1 with
        | ref e1 =>
          cases r2 with
          | ref e2 =>
            obtain ⟨va, ha, ra⟩ := hS.list ex e1
            obtain ⟨vb, hb, rb⟩ := hS.list ey e2
            exact .inr (.inr ⟨_, _, va, vb, rfl, rfl, ha, hb, line_of (by rw [← ra.len, ← rb.len]; exact hl), hP.lst hS (ra.append rb)⟩)
      · exact hP.elim
    · exact hP.elim
  · exact hP.elim
theorem m_int {f : Value → Value → Sem Value} {g : Int → Int → Int} (h : OpR X f (rI0 fun i j => .int (g i j))) : OpM X W f (oInt g) := opm_of h fun m st H dx dy x y E Q hS r1 r2 hP => by
  unfold oInt at hP
  split at hP
  · cases r1
    cases r2
    exact ⟨_, _, rfl, rfl, hP.now hS (.int _)⟩
  · exact hP.elim
theorem m_intC {f : Value → Value → Sem Value} {C : Int → Int → Bool} {C' : Int → Int → Prop} {g : Int → Int → Int} (h : OpR X f (rI C' fun i j => .int (g i j))) (hC : ∀ i j, C i j = true → C' i j) : OpM X W f (oIntC C g) := opm_of h fun m st H dx dy x y E Q hS r1 r2 hP => by
  unfold oIntC at hP
  split at hP
  · split at hP
    · rename_i hc
      cases r1
      cases r2
      exact ⟨_, _, rfl, rfl, hC _ _ hc, hP.now hS (.int _)⟩
    · exact hP.elim
  · exact hP.elim
theorem m_sub : OpM X W (binaryOp .Sub) oSub := m_int op_sub
theorem op_mulAny : OpR X (binaryOp .Mult) (rI IntMulOk fun i j => .int (i * j)) := opI fun _ _ _ _ _ _ _ hc q => mul_int q hc
theorem m_mulI : OpM X W (binaryOp .Mult) oMulI := m_intC op_mulAny fun i j h => by
  have q : (i.natAbs < 18446744073709551616 ∨ j.natAbs < 18446744073709551616) ∨ i.natAbs.log2 + j.natAbs.log2 < 1000000 := of_decide_eq_true h
  rcases q with (q | q) | q
  · exact CMul.ok (.inl (by omega))
  · exact CMul.ok (.inr (by omega))
  · exact CMulW.ok q
theorem op_fdivAny : OpR X (binaryOp .FloorDiv) (rI (fun _ j => j ≠ 0 ∧ j.natAbs.log2 < 9000) fun i j => .int (i.fdiv j)) := opI fun _ _ _ _ _ _ _ hc q => floordiv_int hc.1 q (.inl (PyProof.noPylong_of_log2 hc.2))
theorem m_div : OpM X W (binaryOp .FloorDiv) oDiv := m_intC op_fdivAny fun i j h => of_decide_eq_true h
theorem m_mod : OpM X W (binaryOp .Mod) oMod := m_intC op_modN fun i j h => of_decide_eq_true h
theorem ok_pow {i j : Int} (h : okPow i j = true) : CPow i j := by
  have q : 0 ≤ j ∧ j ≤ 1000000 ∧ i.natAbs < 18446744073709551616 := of_decide_eq_true h
  exact q
theorem m_pow : OpM X W (binaryOp .Pow) oPow := m_intC op_pow fun i j h => ok_pow h
theorem m_shl : OpM X W (binaryOp .LShift) oShl := m_intC op_shl fun i j h => ok_pow h
theorem m_shr : OpM X W (binaryOp .RShift) oShr := m_intC op_shr fun i j h => of_decide_eq_true h
theorem m_and : OpM X W (binaryOp .BitAnd) oAnd := m_int op_and
/-- in place -/
theorem mi_add : OpM X W (inplaceOp .Add) oIAdd := opm_of (iop_add.or iop_add_str) fun m st H dx dy x y E Q hS r1 r2 hP => by
  unfold oIAdd at hP
  split at hP
  · cases r1
    cases r2
    exact .inl ⟨_, _, rfl, rfl, hP.now hS (.int _)⟩
  · split at hP
    · rename_i hl
      cases r1
      cases r2
      refine .inr ⟨_, _, rfl, rfl, line_of hl, ?_⟩
      have q := hP.now hS (.str _)
      have e : ∀ a b : List Nat, (⟨(a ++ b).toArray⟩ : PySem.Str) = (⟨a.toArray⟩ : PySem.Str) ++ (⟨b.toArray⟩ : PySem.Str) := fun a b => by
        show (⟨(a ++ b).toArray⟩ : PySem.Str) = ⟨a.toArray ++ b.toArray⟩
        simp
      rw [e] at q
      exact q
    · exact hP.elim
  · exact hP.elim
theorem mi_sub : OpM X W (inplaceOp .Sub) oSub := m_int iop_sub
end

/-! ### == by what is data -/
def D.plain : Nat → D → Bool
  | _, .non => true
  | _, .int _ => true
  | _, .str x => x.all fun c => decide (c < 1114112)
  | 0, .tup _ => false
  | n + 1, .tup xs => xs.all (D.plain n)
  | _, _ => false
def D.toP : Nat → D → PyData
  | _, .int i => .int i
  | _, .str x => .str ⟨x.toArray⟩
  | n + 1, .tup xs => .tuple (xs.map (D.toP n))
  | _, .bl b => .bool b
  | _, _ => .none
theorem plain_all {K : PySem.W.Frag} {m : List Addr} {H : Hp} {n : Nat} (ih : ∀ (d : D) (v : V), d.plain n = true → RD K m H d v → Dp K H v (d.toP n) ∧ (d.toP n).canLay0 = true ∧ (d.toP n).depth ≤ n) : ∀ (ds : List D) (vs : List V), ds.all (D.plain n) = true → RDs K m H ds vs →
    DpAll K H vs (ds.map (D.toP n)) ∧ PyData.canLayAll0 (ds.map (D.toP n)) = true ∧ PyData.depthAll (ds.map (D.toP n)) ≤ n
  | [], _, _, r => by
    cases r
    exact ⟨.nil, by simp [PyData.canLayAll0], by simp [PyData.depthAll]⟩
  | d :: ds, _, h, r => by
    cases r with
    | cons r1 r2 =>
      rw [List.all_cons, Bool.and_eq_true] at h
      obtain ⟨a1, a2, a3⟩ := ih d _ h.1 r1
      obtain ⟨b1, b2, b3⟩ := plain_all ih ds _ h.2 r2
      refine ⟨.cons a1 b1, ?_, ?_⟩
      · simp only [List.map_cons, PyData.canLayAll0, a2, b2, Bool.and_self]
      · simp only [List.map_cons, PyData.depthAll]
        omega
theorem str_ok {x : List Nat} {n : Nat} (h : (x.all fun c => decide (c < 1114112)) = true) : ((D.str x).toP n).canLay0 = true := by
  have e : (D.str x).toP n = .str ⟨x.toArray⟩ := by cases n <;> rfl
  rw [e]
  simp only [PyData.canLay0, PyData.strOk]
  simpa using h
theorem plain_dp {K : PySem.W.Frag} {m : List Addr} {H : Hp} : ∀ (n : Nat) (d : D) (v : V), d.plain n = true → RD K m H d v → Dp K H v (d.toP n) ∧ (d.toP n).canLay0 = true ∧ (d.toP n).depth ≤ n := by
  intro n
  induction n with
  | zero =>
    intro d v h r
    cases r <;> simp [D.plain] at h
    · exact ⟨.non, by simp [D.toP, PyData.canLay0], by simp [D.toP, PyData.depth]⟩
    · exact ⟨.int _, by simp [D.toP, PyData.canLay0], by simp [D.toP, PyData.depth]⟩
    · exact ⟨.str _, str_ok (by simpa using h), by simp [D.toP, PyData.depth]⟩
  | succ n ih =>
    intro d v h r
    cases r with
    | non => exact ⟨.non, by simp [D.toP, PyData.canLay0], by simp [D.toP, PyData.depth]⟩
    | int i => exact ⟨.int _, by simp [D.toP, PyData.canLay0], by simp [D.toP, PyData.depth]⟩
    | str x => exact ⟨.str _, str_ok h, by simp [D.toP, PyData.depth]⟩
    | tup s rs =>
      rename_i a vs ds
      obtain ⟨b1, b2, b3⟩ := plain_all ih ds vs h rs
      refine ⟨.tup s b1, by simpa only [D.toP, PyData.canLay0] using b2, ?_⟩
      simp only [D.toP, PyData.depth]
      omega
    | _ => simp [D.plain] at h
theorem eqvAll_map {n : Nat} (ih : ∀ x y : D, x.plain n = true → y.plain n = true → PyData.eqv (x.toP n) (y.toP n) = decide (x = y)) : ∀ xs ys : List D, xs.all (D.plain n) = true → ys.all (D.plain n) = true → PyData.eqvAll (xs.map (D.toP n)) (ys.map (D.toP n)) = decide (xs = ys)
  | [], [], _, _ => by simp [PyData.eqvAll]
  | [], _ :: _, _, _ => by simp [PyData.eqvAll]
  | _ :: _, [], _, _ => by simp [PyData.eqvAll]
  | x :: xs, y :: ys, h1, h2 => by
    rw [List.all_cons, Bool.and_eq_true] at h1 h2
    simp only [List.map_cons, PyData.eqvAll, ih x y h1.1 h2.1, eqvAll_map ih xs ys h1.2 h2.2, List.cons.injEq, Bool.decide_and]
theorem eqv_plain : ∀ (n : Nat) (x y : D), x.plain n = true → y.plain n = true → PyData.eqv (x.toP n) (y.toP n) = decide (x = y) := by
  intro n
  induction n with
  | zero =>
    intro x y h1 h2
    cases x <;> simp [D.plain] at h1 <;> cases y <;> simp [D.plain] at h2 <;> simp [D.toP, PyData.eqv]
    all_goals first | rfl | (rw [Bool.eq_iff_iff]; simp)
  | succ n ih =>
    intro x y h1 h2
    cases x <;> simp only [D.plain, Bool.false_eq_true] at h1 <;> cases y <;> simp only [D.plain, Bool.false_eq_true] at h2 <;> first
      | (simp only [D.toP, PyData.eqv, D.tup.injEq]; exact eqvAll_map ih _ _ h1 h2)
      | (simp only [D.toP, PyData.eqv]; first | rfl | (rw [Bool.eq_iff_iff]; simp))
/-- a value as data that == compares: one by itself, or a list -/
def D.pd (st : Store) (d : D) : Option (D ⊕ List D) := match d with
  | .ref n => match lstAt st n with
    | some xs => if xs.all (D.plain 59) then some (.inr xs) else none
    | none => none
  | .rol xs => if xs.all (D.plain 59) then some (.inr xs) else none
  | d => if d.plain 60 then some (.inl d) else none
def pdP : D ⊕ List D → PyData
  | .inl d => d.toP 60
  | .inr xs => .list (xs.map (D.toP 59))
theorem pd_dp {K : PySem.W.Frag} {m : List Addr} {st : Store} {H : Hp} {d : D} {v : V} {p : D ⊕ List D} (s : SS K m st H) (h : d.pd st = some p) (r : RD K m H d v) : Dp K H v (pdP p) ∧ SeqAt.shaped (pdP p) = true := by
  have fin : ∀ {q : PyData}, q.canLay0 = true → q.depth ≤ 60 → SeqAt.shaped q = true := fun {q} h1 h2 => by
    unfold SeqAt.shaped
    rw [h1, Bool.true_and, decide_eq_true_eq]
    omega
  have one : ∀ {d : D}, RD K m H d v → d.plain 60 = true → Dp K H v (d.toP 60) ∧ SeqAt.shaped (d.toP 60) = true := fun {d} r h => by
    obtain ⟨a, b, c⟩ := plain_dp 60 d v h r
    exact ⟨a, fin b c⟩
  have lst : ∀ {xs : List D} {vs : List V} {a : Addr}, SqL K H a vs → RDs K m H xs vs → xs.all (D.plain 59) = true → Dp K H (.ref a) (.list (xs.map (D.toP 59))) ∧ SeqAt.shaped (.list (xs.map (D.toP 59))) = true := fun {xs vs a} hl rs h => by
    obtain ⟨a, b, c⟩ := plain_all (plain_dp 59) xs vs h rs
    refine ⟨.lst hl a, fin (by simpa only [PyData.canLay0] using b) ?_⟩
    simp only [PyData.depth]
    omega
  unfold D.pd at h
  split at h
  · split at h
    · split at h
      · rename_i n _ xs e ha
        cases h
        cases r with
        | ref q =>
          obtain ⟨vs, h1, h2⟩ := s.list e q
          exact lst (SqL.of h1) h2 ha
      · cases h
    · cases h
  · split at h
    · rename_i ha
      cases h
      cases r with
      | rol q rs => exact lst q.sq rs ha
    · cases h
  · split at h
    · rename_i ha
      cases h
      exact one r ha
    · cases h
theorem pd_ok {st : Store} {d : D} {p : D ⊕ List D} (h : d.pd st = some p) : (∃ e : D, p = .inl e ∧ e.plain 60 = true) ∨ ∃ xs : List D, p = .inr xs ∧ xs.all (D.plain 59) = true := by
  unfold D.pd at h
  split at h
  · split at h
    · split at h
      · cases h
        exact .inr ⟨_, rfl, by assumption⟩
      · cases h
    · cases h
  · split at h
    · cases h
      exact .inr ⟨_, rfl, by assumption⟩
    · cases h
  · split at h
    · cases h
      exact .inl ⟨_, rfl, by assumption⟩
    · cases h
theorem pd_eqv {st st' : Store} {d e : D} {p q : D ⊕ List D} (h : d.pd st = some p) (h' : e.pd st' = some q) : PyData.eqv (pdP p) (pdP q) = decide (p = q) := by
  rcases pd_ok h with ⟨x, rfl, hx⟩ | ⟨xs, rfl, hx⟩
  · rcases pd_ok h' with ⟨y, rfl, hy⟩ | ⟨ys, rfl, hy⟩
    · show PyData.eqv (x.toP 60) (y.toP 60) = _
      rw [eqv_plain 60 x y hx hy]
      simp
    · show PyData.eqv (x.toP 60) _ = _
      cases x <;> simp [D.plain] at hx <;> simp [D.toP, pdP, PyData.eqv]
  · rcases pd_ok h' with ⟨y, rfl, hy⟩ | ⟨ys, rfl, hy⟩
    · show PyData.eqv _ (y.toP 60) = _
      cases y <;> simp [D.plain] at hy <;> simp [D.toP, pdP, PyData.eqv]
    · show PyData.eqvAll (xs.map (D.toP 59)) (ys.map (D.toP 59)) = _
      rw [eqvAll_map (eqv_plain 59) xs ys hx hy]
      simp
def dEq (x y : D) (st : Store) : Option Bool := match x, y with
  | .str a, .str b => some (decide (a = b))
  | .bl a, .bl b => some (decide (a = b))
  | .int a, .int b => some (decide (a = b))
  | .bl a, .int b => some (decide ((if a then 1 else 0) = b))
  | .int a, .bl b => some (decide (a = (if b then 1 else 0)))
  | x, y => match x.pd st, y.pd st with
    | some p, some q => some (decide (p = q))
    | _, _ => none
def oEq : O2 := fun x y st => match dEq x y st with
  | some b => .ok (.bl b) st
  | none => .bad
def oNe : O2 := fun x y st => match dEq x y st with
  | some b => .ok (.bl !b) st
  | none => .bad
section
variable {X : Cx} {W : WX}
theorem m_eqB {op : CmpOp} {neg : Bool → Bool} {r1 r2 : R2} (h1 : OpR X (compareOp op) r1) (h2 : OpR X (compareOp op) r2) (s1 : ∀ x y H Q, scal x y = true → Q (.bl (neg (decide (x = y)))) H → r1 x y H Q)
    (s2 : ∀ x y H Q d e, Dp X.K H x d → Dp X.K H y e → SeqAt.shaped d = true → SeqAt.shaped e = true → Q (.bl (neg (PyData.eqv d e))) H → r2 x y H Q) : OpM X W (compareOp op) (fun x y st => match dEq x y st with
    | some b => .ok (.bl (neg b)) st
    | none => .bad) := opm_of (h1.or h2) fun m st H dx dy x y E Q hS ra rb hP => by
  split at hP
  · rename_i b hb
    have q := hP.now hS (.bl _)
    unfold dEq at hb
    split at hb
    · cases ra
      cases rb
      cases hb
      refine .inl (s1 _ _ _ _ rfl ?_)
      simpa using q
    · cases ra
      cases rb
      cases hb
      refine .inl (s1 _ _ _ _ rfl ?_)
      simpa using q
    · cases ra
      cases rb
      cases hb
      refine .inl (s1 _ _ _ _ rfl ?_)
      simpa using q
    · cases ra
      cases rb
      cases hb
      refine .inr (s2 _ _ _ _ _ _ (.bl _) (.int _) rfl rfl ?_)
      simpa [PyData.eqv, Bool.beq_eq_decide_eq] using q
    · cases ra
      cases rb
      cases hb
      refine .inr (s2 _ _ _ _ _ _ (.int _) (.bl _) rfl rfl ?_)
      simpa [PyData.eqv, Bool.beq_eq_decide_eq] using q
    · split at hb
      · rename_i p q' e1 e2
        cases hb
        obtain ⟨a1, a2⟩ := pd_dp hS e1 ra
        obtain ⟨b1, b2⟩ := pd_dp hS e2 rb
        refine .inr (s2 _ _ _ _ _ _ a1 b1 a2 b2 ?_)
        rw [pd_eqv e1 e2]
        exact q
      · cases hb
  · exact hP.elim
theorem m_eq (hu : X.A.units + 64 < cLine) : OpM X W (compareOp .Eq) oEq := m_eqB (neg := id) op_eq (op_eqD hu) (fun x y H Q h q => ⟨h, q⟩) fun x y H Q d e h1 h2 h3 h4 q => ⟨d, e, h1, h2, h3, h4, q⟩
theorem m_ne (hu : X.A.units + 64 < cLine) : OpM X W (compareOp .NotEq) oNe := m_eqB (neg := Bool.not) op_ne (op_neD hu) (fun x y H Q h q => ⟨h, q⟩) fun x y H Q d e h1 h2 h3 h4 q => ⟨d, e, h1, h2, h3, h4, q⟩
/-! ### order of ints, is -/
def oCmp (g : Int → Int → Bool) : O2 := fun x y st => match x, y with
  | .int i, .int j => .ok (.bl (g i j)) st
  | _, _ => .bad
theorem m_cmp {f : Value → Value → Sem Value} {g : Int → Int → Bool} (h : OpR X f (rI0 fun i j => .bl (g i j))) : OpM X W f (oCmp g) := opm_of h fun m st H dx dy x y E Q hS r1 r2 hP => by
  unfold oCmp at hP
  split at hP
  · cases r1
    cases r2
    exact ⟨_, _, rfl, rfl, hP.now hS (.bl _)⟩
  · exact hP.elim
abbrev oLt : O2 := oCmp fun i j => decide (i < j)
abbrev oLe : O2 := oCmp fun i j => decide (i ≤ j)
abbrev oGt : O2 := oCmp fun i j => decide (j < i)
abbrev oGe : O2 := oCmp fun i j => decide (j ≤ i)
theorem m_lt : OpM X W (compareOp .Lt) oLt := m_cmp op_lt
theorem m_le : OpM X W (compareOp .LtE) oLe := m_cmp op_le
theorem m_gt : OpM X W (compareOp .Gt) oGt := m_cmp op_gt
theorem m_ge : OpM X W (compareOp .GtE) oGe := m_cmp op_ge
def dIs (x y : D) : Option Bool := match x, y with
  | .non, .non => some true
  | .bl _, .non | .int _, .non | .str _, .non | .tup _, .non | .ref _, .non | .rol _, .non => some false
  | .bl a, .bl b => some (decide (a = b))
  | _, _ => none
def oIs : O2 := fun x y st => match dIs x y with
  | some b => .ok (.bl b) st
  | none => .bad
def oIsNot : O2 := fun x y st => match dIs x y with
  | some b => .ok (.bl !b) st
  | none => .bad
theorem m_isB {op : CmpOp} {neg : Bool → Bool} {r1 r2 : R2} (h1 : OpR X (compareOp op) r1) (h2 : OpR X (compareOp op) r2) (s1 : ∀ x H (Q : VK), Q (.bl (neg (decide (x = .non)))) H → r1 x .non H Q)
    (s2 : ∀ a b H (Q : VK), Q (.bl (neg (decide (a = b)))) H → r2 (.bl a) (.bl b) H Q) : OpM X W (compareOp op) (fun x y st => match dIs x y with
    | some b => .ok (.bl (neg b)) st
    | none => .bad) := opm_of (h1.or h2) fun m st H dx dy x y E Q hS ra rb hP => by
  split at hP
  · rename_i b hb
    have q := hP.now hS (.bl _)
    unfold dIs at hb
    split at hb <;> cases hb <;> cases ra <;> cases rb <;> first | exact .inl (s1 _ _ _ q) | exact .inr (s2 _ _ _ _ q)
  · exact hP.elim
theorem m_is : OpM X W (compareOp .Is) oIs := m_isB (neg := id) op_isN op_is_bl (fun x H Q q => ⟨rfl, q⟩) fun a b H Q q => ⟨_, _, rfl, rfl, q⟩
theorem m_isnot : OpM X W (compareOp .IsNot) oIsNot := m_isB (neg := Bool.not) op_notN op_isnot_bl (fun x H Q q => ⟨rfl, q⟩) fun a b H Q q => ⟨_, _, rfl, rfl, q⟩
end
end HM

/-! HM, part 4: expressions. -/
namespace HM
open PySem PySem.Spec PyProof.Rows L2
section
variable {X : Cx} {W : WX} {e a b c : Expr} {es rest : List Expr} {pos : Pos} {f fa fb fc : EM D} {fs : EM (List D)} {g ga gb : EM Bool}

/-! ### unary, comparisons -/
def eUn (o : O1) (fa : EM D) : EM D := fun τ st => (fa τ st).bind o
def UnM (X : Cx) (W : WX) (F : Value → Sem Value) (g : O1) : Prop :=
  ∀ (m : List Addr) (st : Store) (σ : L2.St) (H : Hp) (dx : D) (x : V) (Q : VK), SS X.K m st H → RD X.K m H dx x → Pe X.K (fun c d H' => W c d σ H') (RD X.K) m H (g dx st) Q →
    ∀ (pins : List (Addr × Obj)) (s : Shared) (v : Value), Inv X pins σ H s → RelV x v → wpAny (model X.prog X.w) X.A (F v) (EP X pins σ Q) X.xe s
theorem ex_un {op : UnaryOp} {o : O1} (ho : UnM X W (unaryOp op) o) (ha : Ex X W a fa) : Ex X W (.UnaryOp op a pos) (eUn o fa) := by
  refine ⟨fun m τ st σ H Q hL hS hP pins s I => ?_⟩
  refine UnaryOp_ (thn (ha.run m τ st σ H (fun x H1 => ∀ (pins : List (Addr × Obj)) (s : Shared) (v : Value), Inv X pins σ H1 s → RelV x v → wpAny (model X.prog X.w) X.A (unaryOp op v) (EP X pins σ Q) X.xe s) hL hS (hP.bind fun dx s1 m1 H1 x e1 hS1 r1 hP1 pins s v I rx => ho m1 s1 σ H1 dx x Q hS1 r1 hP1 pins s v I rx) pins s I) fun v s1 ⟨x, H1, I1, r1, q1⟩ => q1 pins s1 v I1 r1)
def oNeg : O1 := fun x st => match x with
  | .int i => .ok (.int (-i)) st
  | _ => .bad
theorem m_neg : UnM X W (unaryOp .USub) oNeg := fun m st σ H dx x Q hS r hP pins s v I rx => by
  unfold oNeg at hP
  split at hP
  · cases r
    exact un_neg pins s σ H _ v Q I rx ⟨_, rfl, hP.now hS (.int _)⟩
  · exact hP.elim
theorem ex_cmp {op : CmpOp} {o : O2} (ho : OpM X W (compareOp op) o) (ha : Ex X W a fa) (hb : Ex X W b fb) (hm : behindInMarks op b = false) : Ex X W (.Compare a [op] [b] pos) (eBin o fa fb) := by
  refine ⟨fun m τ st σ H Q hL hS hP pins s I => ?_⟩
  exact wpAny_Compare1 (binT peW peW I (R := fun x y H2 => wR2 X (compareOp op) σ x y H2 Q) (two ha hb hL hS hP fun m2 st2 H2 dx dy x y e2 hS2 r1 r2 hP2 pins s v u I rx ry => ho m2 st2 σ H2 dx dy x y Q hS2 r1 r2 hP2 pins s v u I rx ry) fun v u s2 x y H2 I2 rx ry q => q pins s2 v u I2 rx ry) hm
/-- a bool as a test -/
def dBl (x : D) (st : Store) : ER Bool := match x with
  | .bl b => .ok b st
  | _ => .bad
def tBl (fa : EM D) : EM Bool := fun τ st => (fa τ st).bind dBl
theorem bl_post {K : PySem.W.Frag} {E : XK} {m : List Addr} {H : Hp} {dx : D} {s1 : Store} {x : V} {Q : Bool → Hp → Prop} (hS : SS K m s1 H) (r : RD K m H dx x) (hP : Pe K E RB m H (dBl dx s1) Q) : ∃ k, x = .bl k ∧ Q k H := by
  unfold dBl at hP
  split at hP
  · cases r
    exact ⟨_, rfl, hP.now hS rfl⟩
  · exact hP.elim
theorem et_cmp {op : CmpOp} {o : O2} (ho : OpM X W (compareOp op) o) (ha : Ex X W a fa) (hb : Ex X W b fb) (hm : behindInMarks op b = false) : Et X W (.Compare a [op] [b] pos) (tBl (eBin o fa fb)) := by
  refine ⟨fun m τ st σ H Q hL hS hP pins s I => ?_⟩
  have q : wE X (.Compare a [op] [b] pos) σ H fun x H1 => ∃ k, x = .bl k ∧ Q k H1 := (ex_cmp ho ha hb hm).run m τ st σ H _ hL hS (hP.bind fun dx s1 m1 H1 x e1 hS1 r1 hP1 => bl_post hS1 r1 hP1)
  refine wpAny_isTrue_Compare1 (binT peW peW I (R := fun x y H2 => wR2 X (compareOp op) σ x y H2 fun x H1 => ∃ k, x = .bl k ∧ Q k H1) ?_ fun v u s2 x y H2 I2 rx ry q => thn (q pins s2 v u I2 rx ry) fun c s3 ⟨x, H1, I1, r1, q1⟩ => ?_) hm
  · have hP' : Pe X.K (fun c d H' => W c d σ H') (RD X.K) m H (eBin o fa fb τ st) fun x H1 => ∃ k, x = .bl k ∧ Q k H1 := hP.bind fun dx s1 m1 H1 x e1 hS1 r1 hP1 => bl_post hS1 r1 hP1
    exact two ha hb hL hS hP' fun m2 st2 H2 dx dy x y e2 hS2 r1 r2 hP2 pins s v u I rx ry => ho m2 st2 σ H2 dx dy x y _ hS2 r1 r2 hP2 pins s v u I rx ry
  · obtain ⟨k, rfl, q1⟩ := q1
    cases r1
    exact wpAny_truthy_bool ⟨H1, I1, q1⟩
/-- a chain of two comparisons -/
def eChain (o o' : O2) (fa fb fc : EM D) : EM D := fun τ st => (fa τ st).bind fun x s1 => (fb τ s1).bind fun y s2 => (o x y s2).bind fun z s3 => match z with
  | .bl true => (fc τ s3).bind fun w s4 => o' y w s4
  | .bl false => .ok (.bl false) s3
  | _ => .bad
theorem chain_read {op op' : CmpOp} {o o' : O2} (ho : OpM X W (compareOp op) o) (ho' : OpM X W (compareOp op') o') (ha : Ex X W a fa) (hb : Ex X W b fb) (hc : Ex X W c fc) {m : List Addr} {τ : Sl} {st : Store} {σ : L2.St} {H : Hp} {Q : VK} (hL : SL X.K m H τ σ) (hS : SS X.K m st H)
    (hP : Pe X.K (fun c d H' => W c d σ H') (RD X.K) m H (eChain o o' fa fb fc τ st) Q) : tChain (fun x y H Q => wR2 X (compareOp op) σ x y H Q) (fun x y H Q => wR2 X (compareOp op') σ x y H Q) (wE X a) (wE X b) (wE X c) σ H Q := by
  refine two ha hb hL hS hP fun m2 st2 H2 dx dy x y e2 hS2 r1 r2 hP2 pins s v u I rx ry => ?_
  refine ho m2 st2 σ H2 dx dy x y _ hS2 r1 r2 (hP2.bind fun dz s3 m3 H3 z e3 hS3 r3 hP3 => ?_) pins s v u I rx ry
  split at hP3
  · cases r3
    refine ⟨true, rfl, ?_⟩
    rw [if_pos rfl]
    exact hc.run m3 τ s3 σ H3 _ (hL.mono (e2.trans e3)) hS3 (hP3.bind fun dw s4 m4 H4 w e4 hS4 r4 hP4 pins s v u I rx ry => ho' m4 s4 σ H4 dy dw y w Q hS4 ((r2.mono e3).mono e4) r4 hP4 pins s v u I rx ry)
  · cases r3
    refine ⟨false, rfl, ?_⟩
    rw [if_neg Bool.false_ne_true]
    exact hP3.now hS3 (.bl _)
  · exact hP3.elim
/-- a rule of the layer's whose premises may speak of the slots at hand -/
theorem oprS {F : Value → Value → Sem Value} {σ : L2.St} : ∀ (pins : List (Addr × Obj)) (s : Shared) (H : Hp) (x y : V) (v u : Value) (Q : VK), Inv X pins σ H s → RelV x v → RelV y u → wR2 X F σ x y H Q → wpAny (model X.prog X.w) X.A (F v u) (EP X pins σ Q) X.xe s :=
  fun pins s H x y v u Q I rx ry q => q pins s v u I rx ry
theorem ex_chain {op op' : CmpOp} {o o' : O2} (ho : OpM X W (compareOp op) o) (ho' : OpM X W (compareOp op') o') (ha : Ex X W a fa) (hb : Ex X W b fb) (hc : Ex X W c fc) (hm : lastMarks [op, op'] [b, c] = false := by with_unfolding_all rfl) : Ex X W (.Compare a [op, op'] [b, c] pos) (eChain o o' fa fb fc) := by
  refine ⟨fun m τ st σ H Q hL hS hP pins s I => ?_⟩
  have h := chain_read ho ho' ha hb hc hL hS hP
  refine Compare_chain (thn (peW.run pins s σ H _ I h) fun v s1 ⟨x, H1, I1, r1, q1⟩ => chain_link (thn (peW.run pins s1 σ H1 _ I1 q1) fun u s2 ⟨y, H2, I2, r2, q2⟩ =>
    thn (q2 pins s2 v u I2 r1 r2) fun d s3 ⟨z, H3, I3, r3, k, e, q3⟩ => ?_)) hm
  subst e
  cases r3
  refine wpAny_truthy_bool ?_
  cases k with
  | false => exact ite_ff ⟨.bl false, H3, I3, rfl, q3⟩
  | true => exact ite_tt (chain_last (thn (peW.run pins s3 σ H3 _ I3 q3) fun w' s4 ⟨z', H4, I4, r4, q4⟩ => q4 pins s4 u w' I4 r2 r4))
theorem et_chain {op op' : CmpOp} {o o' : O2} (ho : OpM X W (compareOp op) o) (ho' : OpM X W (compareOp op') o') (ha : Ex X W a fa) (hb : Ex X W b fb) (hc : Ex X W c fc) (hm : lastMarks [op, op'] [b, c] = false := by with_unfolding_all rfl) : Et X W (.Compare a [op, op'] [b, c] pos) (tBl (eChain o o' fa fb fc)) := by
  refine ⟨fun m τ st σ H Q hL hS hP pins s I => ?_⟩
  have hP' : Pe X.K (fun c d H' => W c d σ H') (RD X.K) m H (eChain o o' fa fb fc τ st) fun x H1 => ∃ k, x = .bl k ∧ Q k H1 := hP.bind fun dx s1 m1 H1 x e1 hS1 r1 hP1 => bl_post hS1 r1 hP1
  have h := chain_read ho ho' ha hb hc hL hS hP'
  refine isTrue_chain (thn (peW.run pins s σ H _ I h) fun v s1 ⟨x, H1, I1, r1, q1⟩ => test_link (thn (peW.run pins s1 σ H1 _ I1 q1) fun u s2 ⟨y, H2, I2, r2, q2⟩ =>
    thn (q2 pins s2 v u I2 r1 r2) fun d s3 ⟨z, H3, I3, r3, k, e, q3⟩ => ?_)) hm
  subst e
  cases r3
  refine wpAny_truthy_bool ?_
  cases k with
  | false =>
    obtain ⟨k', e', q'⟩ := q3
    cases e'
    exact ite_ff ⟨H3, I3, q'⟩
  | true =>
    refine ite_tt (test_last (thn (peW.run pins s3 σ H3 _ I3 q3) fun w' s4 ⟨z', H4, I4, r4, q4⟩ => thn (q4 pins s4 u w' I4 r2 r4) fun d' s5 ⟨z2, H5, I5, r5, k2, e2, q5⟩ => ?_))
    subst e2
    cases r5
    exact wpAny_truthy_bool ⟨H5, I5, q5⟩

/-! ### tests -/
/-- a value's truth -/
def dTru (st : Store) : D → Option Bool
  | .non => some false
  | .bl b => some b
  | .int i => some (i != 0)
  | .str x => if x.length ≤ 16777216 then some (!x.isEmpty) else none
  | .tup xs => some (!xs.isEmpty)
  | .rol xs => some (!xs.isEmpty)
  | .ref n => (lstAt st n).map fun xs => !xs.isEmpty
  | _ => none
def tVal (fa : EM D) : EM Bool := fun τ st => (fa τ st).bind fun x s1 => match dTru s1 x with
  | some b => .ok b s1
  | none => .bad
theorem empty_of {K : PySem.W.Frag} {m : List Addr} {H : Hp} {ds : List D} {vs : List V} (r : RDs K m H ds vs) : ds.isEmpty = vs.isEmpty := by
  cases r <;> rfl
theorem tru_read {K : PySem.W.Frag} {m : List Addr} {st : Store} {H : Hp} {d : D} {v : V} {b : Bool} (s : SS K m st H) (h : dTru st d = some b) (r : RD K m H d v) : TruV K v H b := by
  cases r with
  | non =>
    cases h
    exact rfl
  | bl b =>
    cases h
    exact rfl
  | int i =>
    cases h
    exact rfl
  | str x =>
    have h : (if x.length ≤ 16777216 then some (!x.isEmpty) else none) = some b := h
    split at h
    · rename_i hl
      cases h
      refine ⟨line_of (by simpa [PySem.Str.length] using hl), ?_⟩
      cases x with
      | nil => rfl
      | cons c x =>
        have e : ((⟨(c :: x).toArray⟩ : PySem.Str).length : Int) ≠ 0 := by
          show (((c :: x).toArray.size : Nat) : Int) ≠ 0
          rw [List.size_toArray, List.length_cons]
          omega
        simp [PySem.Str.length]
        omega
    · cases h
  | tup q rs =>
    cases h
    exact .inr (.inl ⟨_, q, by rw [empty_of rs]⟩)
  | rol q rs =>
    cases h
    exact .inl ⟨_, q.sq, by rw [empty_of rs]⟩
  | ref q =>
    unfold dTru at h
    simp only [Option.map_eq_some_iff] at h
    obtain ⟨xs, e, rfl⟩ := h
    obtain ⟨vs, h1, h2⟩ := s.list e q
    exact .inl ⟨vs, SqL.of h1, by rw [empty_of h2]⟩
  | _ => cases h
theorem et_val (ha : Ex X W a fa) (he : ∀ whole, isTrue a X.env whole = (do let v ← whole; standAt a.pos; holding [v] (truthy v)) := by intro _; rfl) : Et X W a (tVal fa) := by
  refine ⟨fun m τ st σ H Q hL hS hP pins s I => ?_⟩
  refine isTrue_plain (thn (ha.run m τ st σ H (fun x H' => ∃ k, TruV X.K x H' k ∧ Q k H') hL hS (hP.bind fun dx s1 m1 H1 x e1 hS1 r1 hP1 => ?_) pins s I) fun v s1 ⟨x, H1, I1, r1, q1⟩ => tru_ok pins s1 σ H1 x v Q I1 r1 q1) (he _)
  split at hP1
  · rename_i k hk
    exact ⟨k, tru_read hS1 hk r1, hP1.now hS1 rfl⟩
  · exact hP1.elim
def tAnd (ga gb : EM Bool) : EM Bool := fun τ st => (ga τ st).bind fun x s1 => if x then gb τ s1 else .ok false s1
def tOr (ga gb : EM Bool) : EM Bool := fun τ st => (ga τ st).bind fun x s1 => if x then .ok true s1 else gb τ s1
def tNot (ga : EM Bool) : EM Bool := fun τ st => (ga τ st).bind fun x s1 => .ok (!x) s1
theorem Ew.et (h : Ew X W e g) : Et X W e g := ⟨fun m τ st σ H Q hL hS hP pins s I => h.run m τ st σ H Q hL hS hP _ pins s I⟩
theorem ew_and1 (ha : Et X W a ga) : Ew X W (.BoolOp .And [a] pos) ga := ⟨fun m τ st σ H Q hL hS hP wh pins s I => (pw_and1 ptW).run wh pins s σ H Q I (ha.run m τ st σ H Q hL hS hP)⟩
theorem ew_or1 (ha : Et X W a ga) : Ew X W (.BoolOp .Or [a] pos) ga := ⟨fun m τ st σ H Q hL hS hP wh pins s I => (pw_or1 ptW).run wh pins s σ H Q I (ha.run m τ st σ H Q hL hS hP)⟩
theorem ew_and (ha : Et X W a ga) (hb : Ew X W (.BoolOp .And (b :: rest) pos) gb) : Ew X W (.BoolOp .And (a :: b :: rest) pos) (tAnd ga gb) := by
  refine ⟨fun m τ st σ H Q hL hS hP wh pins s I => (pw_and ptW pwW).run wh pins s σ H Q I ?_⟩
  refine ha.run m τ st σ H _ hL hS (hP.bind fun dx s1 m1 H1 x e1 hS1 r1 hP1 => ?_)
  subst r1
  cases dx with
  | true => exact iteT (hb.run m1 τ s1 σ H1 Q (hL.mono e1) hS1 hP1)
  | false => exact iteF (hP1.now hS1 rfl)
theorem ew_or (ha : Et X W a ga) (hb : Ew X W (.BoolOp .Or (b :: rest) pos) gb) : Ew X W (.BoolOp .Or (a :: b :: rest) pos) (tOr ga gb) := by
  refine ⟨fun m τ st σ H Q hL hS hP wh pins s I => (pw_or ptW pwW).run wh pins s σ H Q I ?_⟩
  refine ha.run m τ st σ H _ hL hS (hP.bind fun dx s1 m1 H1 x e1 hS1 r1 hP1 => ?_)
  subst r1
  cases dx with
  | true => exact iteT (hP1.now hS1 rfl)
  | false => exact iteF (hb.run m1 τ s1 σ H1 Q (hL.mono e1) hS1 hP1)
theorem et_not (ha : Et X W a ga) : Et X W (.UnaryOp .Not a pos) (tNot ga) := by
  refine ⟨fun m τ st σ H Q hL hS hP pins s I => (pt_not ptW).run pins s σ H Q I ?_⟩
  refine ha.run m τ st σ H _ hL hS (hP.bind fun dx s1 m1 H1 x e1 hS1 r1 hP1 => ?_)
  subst r1
  exact hP1.now hS1 rfl
/-! ### and, or, not as values -/
def eAnd (fa fb : EM D) : EM D := fun τ st => (fa τ st).bind fun x s1 => match dTru s1 x with
  | some true => fb τ s1
  | some false => .ok x s1
  | none => .bad
def eOr (fa fb : EM D) : EM D := fun τ st => (fa τ st).bind fun x s1 => match dTru s1 x with
  | some true => .ok x s1
  | some false => fb τ s1
  | none => .bad
def eNot (fa : EM D) : EM D := fun τ st => (fa τ st).bind fun x s1 => match dTru s1 x with
  | some b => .ok (.bl !b) s1
  | none => .bad
theorem ex_one {op} (h : Ex X W a fa) : Ex X W (.BoolOp op [a] pos) fa := ⟨fun m τ st σ H Q hL hS hP pins s I => BoolOp_one (h.run m τ st σ H Q hL hS hP pins s I)⟩
theorem ex_and (ha : Ex X W a fa) (hb : Ex X W (.BoolOp .And (b :: rest) pos) fb) : Ex X W (.BoolOp .And (a :: b :: rest) pos) (eAnd fa fb) := by
  refine ⟨fun m τ st σ H Q hL hS hP pins s I => (pe_andT peW peW).run pins s σ H Q I ?_⟩
  refine ha.run m τ st σ H _ hL hS (hP.bind fun dx s1 m1 H1 x e1 hS1 r1 hP1 => ?_)
  split at hP1
  · rename_i hk
    exact ⟨true, tru_read hS1 hk r1, iteT (hb.run m1 τ s1 σ H1 Q (hL.mono e1) hS1 hP1)⟩
  · rename_i hk
    exact ⟨false, tru_read hS1 hk r1, iteF (hP1.now hS1 r1)⟩
  · exact hP1.elim
theorem ex_or (ha : Ex X W a fa) (hb : Ex X W (.BoolOp .Or (b :: rest) pos) fb) : Ex X W (.BoolOp .Or (a :: b :: rest) pos) (eOr fa fb) := by
  refine ⟨fun m τ st σ H Q hL hS hP pins s I => (pe_orT peW peW).run pins s σ H Q I ?_⟩
  refine ha.run m τ st σ H _ hL hS (hP.bind fun dx s1 m1 H1 x e1 hS1 r1 hP1 => ?_)
  split at hP1
  · rename_i hk
    exact ⟨true, tru_read hS1 hk r1, iteT (hP1.now hS1 r1)⟩
  · rename_i hk
    exact ⟨false, tru_read hS1 hk r1, iteF (hb.run m1 τ s1 σ H1 Q (hL.mono e1) hS1 hP1)⟩
  · exact hP1.elim
theorem ex_not (ha : Ex X W a fa) : Ex X W (.UnaryOp .Not a pos) (eNot fa) := by
  refine ⟨fun m τ st σ H Q hL hS hP pins s I => (pe_notT peW).run pins s σ H Q I ?_⟩
  refine ha.run m τ st σ H _ hL hS (hP.bind fun dx s1 m1 H1 x e1 hS1 r1 hP1 => ?_)
  split at hP1
  · rename_i k hk
    exact ⟨k, tru_read hS1 hk r1, hP1.now hS1 (.bl _)⟩
  · exact hP1.elim
def eIf (g : EM Bool) (fa fb : EM D) : EM D := fun τ st => (g τ st).bind fun x s1 => if x then fa τ s1 else fb τ s1
theorem ex_if {c : Expr} (hc : Et X W c g) (ha : Ex X W a fa) (hb : Ex X W b fb) : Ex X W (.IfExp c a b pos) (eIf g fa fb) := by
  refine ⟨fun m τ st σ H Q hL hS hP pins s I => (pe_ifExp ptW peW peW).run pins s σ H Q I ?_⟩
  refine hc.run m τ st σ H _ hL hS (hP.bind fun dx s1 m1 H1 x e1 hS1 r1 hP1 => ?_)
  subst r1
  cases dx with
  | true => exact iteT (ha.run m1 τ s1 σ H1 Q (hL.mono e1) hS1 hP1)
  | false => exact iteF (hb.run m1 τ s1 σ H1 Q (hL.mono e1) hS1 hP1)

/-! ### arguments, displays -/
def aNil : EM (List D) := fun _ st => .ok [] st
def aCons (f : EM D) (fs : EM (List D)) : EM (List D) := fun τ st => (f τ st).bind fun x s1 => (fs τ s1).bind fun xs s2 => .ok (x :: xs) s2
theorem ea_nil : Ea X W [] aNil := ⟨fun m τ st σ H Q hL hS hP pos pins s I => pa_nil.run pos pins s σ H Q I (hP.now hS .nil)⟩
theorem ea_cons (ha : Ex X W e f) (hr : Ea X W es fs) (hs : starEach (e :: es) X.env = (false, eval e X.env) :: starEach es X.env := by rfl) : Ea X W (e :: es) (aCons f fs) := by
  refine ⟨fun m τ st σ H Q hL hS hP pos pins s I => (pa_cons peW paW hs).run pos pins s σ H Q I ?_⟩
  refine ha.run m τ st σ H _ hL hS (hP.bind fun dx s1 m1 H1 x e1 hS1 r1 hP1 => ?_)
  exact hr.run m1 τ s1 σ H1 _ (hL.mono e1) hS1 (hP1.bind fun ds s2 m2 H2 xs e2 hS2 r2 hP2 => hP2.now hS2 (.cons (r1.mono e2) r2))
def eTup (fs : EM (List D)) : EM D := fun τ st => (fs τ st).bind fun xs s1 => if xs.length ≤ 16777216 then .ok (.tup xs) s1 else .bad
def eLst (fs : EM (List D)) : EM D := fun τ st => (fs τ st).bind fun xs s1 => if xs.length ≤ 16777216 then .ok (.ref s1.length) (s1 ++ [.lst xs]) else .bad
theorem ex_tup {x1} (h : Ea X W es fs) : Ex X W (.Tuple es x1 pos) (eTup fs) := by
  refine ⟨fun m τ st σ H Q hL hS hP pins s I => (pe_tup paW).run pins s σ H Q I ?_⟩
  refine h.run m τ st σ H _ hL hS (hP.bind fun ds s1 m1 H1 vs e1 hS1 r1 hP1 => ?_)
  split at hP1
  · rename_i hl
    exact ⟨line_of (by rw [← r1.len]; exact hl), hP1.tup hS1 r1⟩
  · exact hP1.elim
theorem ex_lst (h : Ea X W es fs) : Ex X W (.List es pos) (eLst fs) := by
  refine ⟨fun m τ st σ H Q hL hS hP pins s I => (pe_lst paW).run pins s σ H Q I ?_⟩
  refine h.run m τ st σ H _ hL hS (hP.bind fun ds s1 m1 H1 vs e1 hS1 r1 hP1 => ?_)
  split at hP1
  · rename_i hl
    exact ⟨line_of (by rw [← r1.len]; exact hl), hP1.lst hS1 r1⟩
  · exact hP1.elim

/-! ### subscripts -/
def IxM (X : Cx) (W : WX) (g : O2) : Prop :=
  ∃ r : R2, IxR X r ∧ ∀ (m : List Addr) (st : Store) (H : Hp) (dx dy : D) (x y : V) (E : XK) (Q : VK), SS X.K m st H → RD X.K m H dx x → RD X.K m H dy y → Pe X.K E (RD X.K) m H (g dx dy st) Q → r x y H Q
theorem ex_ix {o : O2} (ho : IxM X W o) (ha : Ex X W a fa) (hb : Ex X W b fb) (hs : PlainIx b := by exact fun _ _ => rfl) : Ex X W (.Subscript a b pos) (eBin o fa fb) := by
  obtain ⟨r, hr, h⟩ := ho
  refine ⟨fun m τ st σ H Q hL hS hP pins s I => (pe_ix hr peW peW hs).run pins s σ H Q I ?_⟩
  exact two ha hb hL hS hP fun m2 st2 H2 dx dy x y e2 hS2 r1 r2 hP2 => h m2 st2 H2 dx dy x y _ Q hS2 r1 r2 hP2
def oIx : O2 := fun x y st => match x, y with
  | .tup xs, .int i => match atI xs i with
    | some d => .ok d st
    | none => .bad
  | .rol xs, .int i => match atI xs i with
    | some d => .ok d st
    | none => .bad
  | .ref n, .int i => match lstAt st n with
    | some xs => match atI xs i with
      | some d => .ok d st
      | none => .bad
    | none => .bad
  | .str x, .int i => if x.length ≤ 16777216 then match atI x i with
      | some c => .ok (.str [c]) st
      | none => .bad
    else .bad
  | _, _ => .bad
theorem atI_rds {K : PySem.W.Frag} {m : List Addr} {H : Hp} {ds : List D} {vs : List V} {i : Int} {d : D} (r : RDs K m H ds vs) (h : atI ds i = some d) : ∃ v, atI vs i = some v ∧ RD K m H d v := by
  unfold atI at h ⊢
  rw [← r.len]
  cases e : ixN ds.length i with
  | none =>
    rw [e] at h
    cases h
  | some j =>
    rw [e] at h
    exact r.get h
theorem m_ix : IxM X W oIx := ⟨_, ix_seq, fun m st H dx dy x y E Q hS r1 r2 hP => by
  unfold oIx at hP
  split at hP
  · split at hP
    · rename_i d e
      cases r1 with
      | tup q rs =>
        cases r2
        obtain ⟨v, h1, h2⟩ := atI_rds rs e
        exact .inr (.inl ⟨_, _, _, v, rfl, rfl, q, h1, hP.now hS h2⟩)
    · exact hP.elim
  · split at hP
    · rename_i d e
      cases r1 with
      | rol q rs =>
        cases r2
        obtain ⟨v, h1, h2⟩ := atI_rds rs e
        exact .inl ⟨_, _, _, v, rfl, rfl, q.sq, h1, hP.now hS h2⟩
    · exact hP.elim
  · split at hP
    · split at hP
      · rename_i ex _ _ e
        cases r1 with
        | ref q =>
          cases r2
          obtain ⟨vs, h1, h2⟩ := hS.list ex q
          obtain ⟨v, h3, h4⟩ := atI_rds h2 e
          exact .inl ⟨_, _, _, v, rfl, rfl, SqL.of h1, h3, hP.now hS h4⟩
      · exact hP.elim
    · exact hP.elim
  · split at hP
    · split at hP
      · rename_i hl _ c e
        cases r1
        cases r2
        exact .inr (.inr ⟨_, _, c, rfl, rfl, line_of (by simpa [PySem.Str.length] using hl), by simpa using e, hP.now hS (.str [c])⟩)
      · exact hP.elim
    · exact hP.elim
  · exact hP.elim⟩
end
end HM

/-! HM, part 5: calls, what is walked, comprehensions. -/
namespace HM
open PySem PySem.Spec PyProof.Rows L2

/-! ### defs -/
abbrev FM := List D → Store → ER D
/-- a def's promise by its mirror -/
def spM (K : PySem.W.Frag) (n : Nat) (mf : FM) : Sp := fun vs H Q E => ∃ (m : List Addr) (st : Store) (ds : List D), ds.length = n ∧ SS K m st H ∧ RDs K m H ds vs ∧ Pe K E (RD K) m H (mf ds st) Q
/-- the def f keeps the mirror -/
abbrev FnM (P : Program) (w : World) (K : PySem.W.Frag) (mg : Str → Option Value) (base : Heap) (k : Nat) (f : Addr) (fd : FuncData) (ps : List Str) (mf : FM) : Prop :=
  FnOk P w K mg base (L2.CX P w) k f fd ps (spM K ps.length mf)
section
variable {X : Cx} {W : WX} {e a b c : Expr} {es rest : List Expr} {pos p : Pos} {f fa fb fc : EM D} {fs : EM (List D)} {g ga gb : EM Bool}
def eCall (n : Nat) (mf : FM) (fs : EM (List D)) : EM D := fun τ st => (fs τ st).bind fun ds s1 => if ds.length = n then mf ds s1 else .bad
theorem ex_call {k : Nat} {fa : Addr} {fd : FuncData} {ps : List Str} {mf : FM} {x : Str} (tk : Takes X W) (F : FnM X.prog X.w X.K X.mg X.base k fa fd ps mf) (hr : Room k X.A) (hg : Gl X x) (hm : X.mg x = some (.ref fa)) (hk : PySem.W.keepIn X.K (.ref fa) = true) (hb : Binds X.K fd ps [])
    (ha : Ea X W (e :: es) fs) (hdb : (x == ("__debug__" : Str)) = false := by decide) (he : starEach (e :: es) X.env = (false, eval e X.env) :: starEach es X.env := by rfl) (hpl : (backTo pos (starEach es X.env)).any (·.1) = false := by rfl) :
    Ex X W (.Call (.Name x p) (e :: es) [] pos) (eCall ps.length mf fs) := by
  refine ⟨fun m τ st σ H Q hL hS hP pins s I => ?_⟩
  refine wpAny_Call_Name_kw (ld_glob I hg hm ?_ hdb)
  have q : wA X (e :: es) σ H fun vs H1 => spM X.K ps.length mf (vs ++ []) H1 Q (WE W σ) := ha.run m τ st σ H _ hL hS (hP.bind fun ds s1 m1 H1 vs e1 hS1 r1 hP1 => by
    split at hP1
    · rename_i hl
      rw [List.append_nil]
      exact ⟨m1, s1, ds, hl, hS1, r1, hP1⟩
    · exact hP1.elim)
  refine PySem.W.callWith_K (h₀ := X.base) I.ok.mod.kin hk (thn (q pos pins s I) fun us s1 ⟨vs, H1, I1, r, q⟩ => ⟨I1.kIn, ?_⟩) he hpl
  exact run_fnSD (E := WE W) F hr hb .nil (passAt tk σ) I1 r q
theorem ex_call0 {k : Nat} {fa : Addr} {fd : FuncData} {ps : List Str} {mf : FM} {x : Str} (tk : Takes X W) (F : FnM X.prog X.w X.K X.mg X.base k fa fd ps mf) (hr : Room k X.A) (hg : Gl X x) (hm : X.mg x = some (.ref fa)) (hk : PySem.W.keepIn X.K (.ref fa) = true) (hb : Binds X.K fd ps [])
    (hdb : (x == ("__debug__" : Str)) = false := by decide) : Ex X W (.Call (.Name x p) [] [] pos) (eCall ps.length mf aNil) := by
  refine ⟨fun m τ st σ H Q hL hS hP pins s I => ?_⟩
  refine wpAny_Call_Name_kw (ld_glob I hg hm ?_ hdb)
  refine PySem.W.callWith_K0 I.kIn hk (run_fnSD (E := WE W) (us := []) (vs := []) F hr hb .nil (passAt tk σ) I .nil ?_)
  have hP : Pe X.K (fun c d H' => W c d σ H') (RD X.K) m H (if ([] : List D).length = ps.length then mf [] st else .bad) Q := hP
  split at hP
  · rename_i hl
    exact ⟨m, st, [], hl, hS, .nil, hP⟩
  · exact hP.elim

/-! ### built-ins by values -/
def CallM (X : Cx) (fv : Value) (g : FM) : Prop :=
  ∃ r, CallR X fv r ∧ ∀ (m : List Addr) (st : Store) (H : Hp) (ds : List D) (vs : List V) (E : XK) (Q : VK), SS X.K m st H → RDs X.K m H ds vs → Pe X.K E (RD X.K) m H (g ds st) Q → r vs H Q
def eCB (mf : FM) (fs : EM (List D)) : EM D := fun τ st => (fs τ st).bind mf
theorem ex_callB {x : Str} {id : String} {mf : FM} (hc : CallM X (.builtin id) mf) (hg : Gl X x) (hm : X.mg x = none) (hv : bootBuiltins x = some (.builtin id)) (ha : Ea X W (e :: es) fs) (hn : x ≠ "__name__" := by decide) (hdb : (x == ("__debug__" : Str)) = false := by decide)
    (he : starEach (e :: es) X.env = (false, eval e X.env) :: starEach es X.env := by rfl) (hpl : (backTo pos (starEach es X.env)).any (·.1) = false := by rfl) : Ex X W (.Call (.Name x p) (e :: es) [] pos) (eCB mf fs) := by
  obtain ⟨r, hr, h⟩ := hc
  refine ⟨fun m τ st σ H Q hL hS hP pins s I => (pe_callB hr hg hm hv paW hn hdb he hpl).run pins s σ H Q I ?_⟩
  exact ha.run m τ st σ H _ hL hS (hP.bind fun ds s1 m1 H1 vs e1 hS1 r1 hP1 => h m1 s1 H1 ds vs _ Q hS1 r1 hP1)
theorem ex_callT {x : Str} {T : String} {mf : FM} (hc : CallM X (.type T) mf) (hg : Gl X x) (hm : X.mg x = none) (hv : bootBuiltins x = some (.type T)) (ha : Ea X W (e :: es) fs) (hn : x ≠ "__name__" := by decide) (hdb : (x == ("__debug__" : Str)) = false := by decide)
    (he : starEach (e :: es) X.env = (false, eval e X.env) :: starEach es X.env := by rfl) (hpl : (backTo pos (starEach es X.env)).any (·.1) = false := by rfl) : Ex X W (.Call (.Name x p) (e :: es) [] pos) (eCB mf fs) := by
  obtain ⟨r, hr, h⟩ := hc
  refine ⟨fun m τ st σ H Q hL hS hP pins s I => (pe_callTy hr hg hm hv paW hn hdb he hpl).run pins s σ H Q I ?_⟩
  exact ha.run m τ st σ H _ hL hS (hP.bind fun ds s1 m1 H1 vs e1 hS1 r1 hP1 => h m1 s1 H1 ds vs _ Q hS1 r1 hP1)
theorem ex_callF {x : Str} {id : String} {mf : FM} (hc : CallM X (.builtin id) mf) (hg : Gl X x) (hm : X.mg x = some (.builtin id)) (ha : Ea X W (e :: es) fs) (hdb : (x == ("__debug__" : Str)) = false := by decide)
    (he : starEach (e :: es) X.env = (false, eval e X.env) :: starEach es X.env := by rfl) (hpl : (backTo pos (starEach es X.env)).any (·.1) = false := by rfl) : Ex X W (.Call (.Name x p) (e :: es) [] pos) (eCB mf fs) := by
  obtain ⟨r, hr, h⟩ := hc
  refine ⟨fun m τ st σ H Q hL hS hP pins s I => (pe_callBfun hr hg hm paW hdb he hpl).run pins s σ H Q I ?_⟩
  exact ha.run m τ st σ H _ hL hS (hP.bind fun ds s1 m1 H1 vs e1 hS1 r1 hP1 => h m1 s1 H1 ds vs _ Q hS1 r1 hP1)
/-- the items of what is a list or a tuple -/
def dSeq (st : Store) : D → Option (List D)
  | .tup xs => some xs
  | .rol xs => some xs
  | .ref n => lstAt st n
  | _ => none
def SqV (K : PySem.W.Frag) (m : List Addr) (H : Hp) (ds : List D) (v : V) : Prop := ∃ a vs, v = .ref a ∧ (SqL K H a vs ∨ SqT K H a vs) ∧ RDs K m H ds vs
theorem dSeq_read {K : PySem.W.Frag} {m : List Addr} {st : Store} {H : Hp} {d : D} {v : V} {xs : List D} (s : SS K m st H) (h : dSeq st d = some xs) (r : RD K m H d v) : SqV K m H xs v := by
  cases r with
  | tup q rs =>
    cases h
    exact ⟨_, _, rfl, .inr q, rs⟩
  | rol q rs =>
    cases h
    exact ⟨_, _, rfl, .inl q.sq, rs⟩
  | ref q =>
    obtain ⟨vs, h1, h2⟩ := s.list h q
    exact ⟨_, vs, rfl, .inl (SqL.of h1), h2⟩
  | _ => cases h
def fLen : FM := fun ds st => match ds with
  | [.str x] => if x.length ≤ 16777216 then .ok (.int x.length) st else .bad
  | [d] => match dSeq st d with
    | some xs => .ok (.int xs.length) st
    | none => .bad
  | _ => .bad
theorem c_len : CallM X (.builtin "len") fLen := ⟨_, call_len_seq.or call_len_str, fun m st H ds vs E Q hS r hP => by
  unfold fLen at hP
  split at hP
  · split at hP
    · rename_i x hl
      obtain ⟨v, rfl, r1⟩ := r.one
      cases r1
      refine .inr ⟨_, rfl, line_of (by simpa [PySem.Str.length] using hl), ?_⟩
      have e : (((⟨x.toArray⟩ : PySem.Str).length : Nat) : Int) = (x.length : Int) := by simp [PySem.Str.length]
      rw [e]
      exact hP.now hS (.int _)
    · exact hP.elim
  · split at hP
    · rename_i xs hx
      obtain ⟨v, rfl, r1⟩ := r.one
      obtain ⟨a, vs, rfl, q, rs⟩ := dSeq_read hS hx r1
      refine .inl ⟨a, vs, rfl, q, ?_⟩
      rw [← rs.len]
      exact hP.now hS (.int _)
    · exact hP.elim
  · exact hP.elim⟩
def fInt : FM := fun ds st => match ds with
  | [.int i] => .ok (.int i) st
  | [.bl b] => .ok (.int (if b then 1 else 0)) st
  | _ => .bad
theorem c_int : CallM X (.type "int") fInt := ⟨_, call_int1, fun m st H ds vs E Q hS r hP => by
  unfold fInt at hP
  split at hP
  · obtain ⟨v, rfl, r1⟩ := r.one
    cases r1
    exact .inl ⟨_, rfl, hP.now hS (.int _)⟩
  · obtain ⟨v, rfl, r1⟩ := r.one
    cases r1
    exact .inr ⟨_, rfl, hP.now hS (.int _)⟩
  · exact hP.elim⟩
def fAbs : FM := fun ds st => match ds with
  | [.int i] => .ok (.int (i.natAbs : Nat)) st
  | _ => .bad
theorem c_abs : CallM X (.builtin "abs") fAbs := ⟨_, call_abs, fun m st H ds vs E Q hS r hP => by
  unfold fAbs at hP
  split at hP
  · rename_i i
    obtain ⟨v, rfl, r1⟩ := r.one
    cases r1
    refine ⟨_, rfl, ?_⟩
    have e : (if i < 0 then -i else i) = ((i.natAbs : Nat) : Int) := by split <;> omega
    rw [e]
    exact hP.now hS (.int _)
  · exact hP.elim⟩
def fGcd : FM := fun ds st => match ds with
  | [.int i, .int j] => .ok (.int (Nat.gcd i.natAbs j.natAbs : Nat)) st
  | _ => .bad
theorem c_gcd : CallM X (.builtin "math.gcd") fGcd := ⟨_, cr_gcd, fun m st H ds vs E Q hS r hP => by
  unfold fGcd at hP
  split at hP
  · obtain ⟨v, u, rfl, r1, r2⟩ := r.two
    cases r1
    cases r2
    exact ⟨_, _, rfl, hP.now hS (.int _)⟩
  · exact hP.elim⟩
def fTuple : FM := fun ds st => match ds with
  | [d] => match dSeq st d with
    | some xs => .ok (.tup xs) st
    | none => .bad
  | _ => .bad
theorem c_tuple : CallM X (.type "tuple") fTuple := ⟨_, call_tuple_of, fun m st H ds vs E Q hS r hP => by
  unfold fTuple at hP
  split at hP
  · split at hP
    · rename_i xs hx
      obtain ⟨v, rfl, r1⟩ := r.one
      obtain ⟨a, vs, rfl, q, rs⟩ := dSeq_read hS hx r1
      rcases q with q | q
      · exact ⟨a, vs, rfl, .inl ⟨q, hP.tup hS rs⟩⟩
      · exact ⟨a, vs, rfl, .inr ⟨q, hP.now hS (.tup q rs)⟩⟩
    · exact hP.elim
  · exact hP.elim⟩
def fList : FM := fun ds st => match ds with
  | [d] => match dSeq st d with
    | some xs => .ok (.ref st.length) (st ++ [.lst xs])
    | none => .bad
  | _ => .bad
theorem c_list : CallM X (.type "list") fList := ⟨_, call_list_of, fun m st H ds vs E Q hS r hP => by
  unfold fList at hP
  split at hP
  · split at hP
    · rename_i xs hx
      obtain ⟨v, rfl, r1⟩ := r.one
      obtain ⟨a, vs, rfl, q, rs⟩ := dSeq_read hS hx r1
      exact ⟨a, vs, rfl, q, hP.lst hS rs⟩
    · exact hP.elim
  · exact hP.elim⟩
def fMin2 : FM := fun ds st => match ds with
  | [.int i, .int j] => .ok (.int (if j < i then j else i)) st
  | _ => .bad
theorem c_min2 (hc : X.calm = true) : CallM X (.builtin "min") fMin2 := ⟨_, call_min2 hc, fun m st H ds vs E Q hS r hP => by
  unfold fMin2 at hP
  split at hP
  · obtain ⟨v, u, rfl, r1, r2⟩ := r.two
    cases r1
    cases r2
    exact ⟨_, _, rfl, hP.now hS (.int _)⟩
  · exact hP.elim⟩
def fMax2 : FM := fun ds st => match ds with
  | [.int i, .int j] => .ok (.int (if j > i then j else i)) st
  | _ => .bad
theorem c_max2 (hc : X.calm = true) : CallM X (.builtin "max") fMax2 := ⟨_, call_max2 hc, fun m st H ds vs E Q hS r hP => by
  unfold fMax2 at hP
  split at hP
  · obtain ⟨v, u, rfl, r1, r2⟩ := r.two
    cases r1
    cases r2
    exact ⟨_, _, rfl, hP.now hS (.int _)⟩
  · exact hP.elim⟩
/-! ### isinstance -/
def dTy (st : Store) : D → Option String
  | .non => some "NoneType"
  | .bl _ => some "bool"
  | .int _ => some "int"
  | .str _ => some "str"
  | .tup _ => some "tuple"
  | .rol _ => some "list"
  | .ref n => (lstAt st n).map fun _ => "list"
  | _ => none
def isiT (a b : String) : Option Bool :=
  if (["NoneType", "bool", "int", "str", "tuple", "list"].contains a && ["bool", "int", "str", "tuple", "list"].contains b) = true then some (decide (a = b) || (decide (a = "bool") && decide (b = "int"))) else none
theorem isiT_ok {a b : String} {r : Bool} (h : isiT a b = some r) : kitB a b = some r := by
  have all : (["NoneType", "bool", "int", "str", "tuple", "list"].all fun a => ["bool", "int", "str", "tuple", "list"].all fun b => decide (kitB a b = some (decide (a = b) || (decide (a = "bool") && decide (b = "int"))))) = true := by decide +kernel
  unfold isiT at h
  split at h
  · rename_i c
    rw [Bool.and_eq_true] at c
    have z := List.all_eq_true.mp (List.all_eq_true.mp all a (List.contains_iff_mem.mp c.1)) b (List.contains_iff_mem.mp c.2)
    rw [of_decide_eq_true z]
    exact h
  · cases h
theorem ty_read {K : PySem.W.Frag} {m : List Addr} {st : Store} {H : Hp} {d : D} {v : V} {t : String} (s : SS K m st H) (h : dTy st d = some t) (r : RD K m H d v) : TyX K H v (.type t) := by
  cases r with
  | non => cases h; exact .base .non
  | bl b => cases h; exact .base (.bl b)
  | int i => cases h; exact .base (.int i)
  | str x => cases h; exact .base (.str _)
  | tup q rs =>
    cases h
    rcases q with (q | ⟨o, q⟩) | ⟨o, its, n, q1, q2, _⟩
    · exact .base (.tup q)
    · exact .fTuple q
    · exact .kTuple q1 q2
  | rol q rs =>
    cases h
    rcases q with ⟨o, q⟩ | ⟨o, its, n, q1, q2, _⟩
    · exact .base (.frz q)
    · exact .kList q1 q2
  | ref q =>
    have h : (lstAt st _).map (fun _ => "list") = some t := h
    simp only [Option.map_eq_some_iff] at h
    obtain ⟨xs, e, rfl⟩ := h
    obtain ⟨vs, h1, h2⟩ := s.list e q
    exact .base (.lst h1)
  | _ => cases h
def fIsi : FM := fun ds st => match ds with
  | [d, .ty c] => match dTy st d with
    | some t => match isiT t c with
      | some b => .ok (.bl b) st
      | none => .bad
    | none => .bad
  | _ => .bad
theorem c_isi : CallM X (.builtin "isinstance") fIsi := ⟨_, call_isi, fun m st H ds vs E Q hS r hP => by
  unfold fIsi at hP
  split at hP
  · split at hP
    · rename_i t ht
      split at hP
      · rename_i b hb
        obtain ⟨v, u, rfl, r1, r2⟩ := r.two
        cases r2
        exact ⟨_, _, _, _, b, rfl, by constructor, ty_read hS ht r1, kit_ty (isiT_ok hb), hP.now hS (.bl _)⟩
      · exact hP.elim
    · exact hP.elim
  · exact hP.elim⟩

/-! ### fresh lists, sequences as arguments -/
/-- an expression that makes a list that nobody else has -/
structure El (X : Cx) (W : WX) (e : Expr) (f : EM (List D)) : Prop where
  run : ∀ (m : List Addr) (τ : Sl) (st : Store) (σ : L2.St) (H : Hp) (Q : VK), SL X.K m H τ σ → SS X.K m st H →
    Pe X.K (fun c d H' => W c d σ H') (fun m' H' ds v => ∃ a vs, v = .ref a ∧ H' a = some (.lst vs) ∧ a ∉ m' ∧ H a = none ∧ RDs X.K m' H' ds vs) m H (f τ st) Q → wE X e σ H Q
def eEl (f : EM (List D)) : EM D := fun τ st => (f τ st).bind fun ds s1 => .ok (.ref s1.length) (s1 ++ [.lst ds])
theorem Ext.back {K : PySem.W.Frag} {m m1 : List Addr} {H H1 : Hp} {s1 : Store} {a : Addr} (e : Ext K m H m1 H1) (s : SS K m1 s1 H1) (h : H1 a = none) : H a = none := by
  cases q : H a with
  | none => rfl
  | some o =>
    by_cases hm : a ∈ m
    · exact absurd (e.mem hm) (s.notin h)
    · rw [e.frm a o hm q] at h
      cases h
theorem Ext.own {K : PySem.W.Frag} {m m1 : List Addr} {H H1 : Hp} {a : Addr} (e : Ext K m H m1 H1) (h : H a = none) : Ext K m H (m1 ++ [a]) H1 where
  pre := fun n b q => by
    have z := e.pre n b q
    rw [List.getElem?_append_left (List.getElem?_eq_some_iff.mp z).1]
    exact z
  tup := e.tup
  fzl := e.fzl
  frm := e.frm
  new := fun b q n => by
    rcases List.mem_append.mp q with q | q
    · exact e.new b q n
    · have z : b = a := by simpa using q
      rw [z]
      exact h
theorem ex_el {fl : EM (List D)} (h : El X W e fl) : Ex X W e (eEl fl) := by
  refine ⟨fun m τ st σ H Q hL hS hP => h.run m τ st σ H Q hL hS ?_⟩
  unfold eEl at hP
  cases hq : fl τ st with
  | ok ds s1 =>
    rw [hq] at hP
    intro m1 H1 v e1 hS1 ⟨a, vs, e, ha, na, hn, rs⟩
    subst e
    refine hP (m1 ++ [a]) H1 (.ref a) (e1.own hn) (hS1.grow na ⟨vs, ha, rs.kp Kp.grow⟩) (.ref ?_)
    rw [← hS1.len]
    simp
  | exc x st' =>
    rw [hq] at hP
    exact hP
  | bad =>
    rw [hq] at hP
    exact hP.elim
/-- the items of an expression's list or tuple -/
structure Es (X : Cx) (W : WX) (e : Expr) (f : EM (List D)) : Prop where
  run : ∀ (m : List Addr) (τ : Sl) (st : Store) (σ : L2.St) (H : Hp) (Q : VK), SL X.K m H τ σ → SS X.K m st H → Pe X.K (fun c d H' => W c d σ H') (SqV X.K) m H (f τ st) Q → wE X e σ H Q
theorem es_el {fl : EM (List D)} (h : El X W e fl) : Es X W e fl := by
  refine ⟨fun m τ st σ H Q hL hS hP => h.run m τ st σ H Q hL hS ?_⟩
  cases hq : fl τ st with
  | ok ds s1 =>
    rw [hq] at hP
    intro m1 H1 v e1 hS1 ⟨a, vs, e, ha, na, hn, rs⟩
    exact hP m1 H1 v e1 hS1 ⟨a, vs, e, .inl (SqL.of ha), rs⟩
  | exc x st' =>
    rw [hq] at hP
    exact hP
  | bad =>
    rw [hq] at hP
    exact hP.elim
def sEx (f : EM D) : EM (List D) := fun τ st => (f τ st).bind fun d s1 => match dSeq s1 d with
  | some xs => .ok xs s1
  | none => .bad
theorem es_ex (h : Ex X W e f) : Es X W e (sEx f) := by
  refine ⟨fun m τ st σ H Q hL hS hP => h.run m τ st σ H Q hL hS (hP.bind fun d s1 m1 H1 v e1 hS1 r1 hP1 => ?_)⟩
  split at hP1
  · rename_i xs hx
    exact hP1.now hS1 (dSeq_read hS1 hx r1)
  · exact hP1.elim
/-- a built-in of one argument, by its items -/
abbrev SM1 := List D → Store → ER D
def CallS (X : Cx) (fv : Value) (g : SM1) : Prop :=
  ∃ r, CallR X fv r ∧ ∀ (m : List Addr) (st : Store) (H : Hp) (ds : List D) (v : V) (E : XK) (Q : VK), SS X.K m st H → SqV X.K m H ds v → Pe X.K E (RD X.K) m H (g ds st) Q → r [v] H Q
def eCS (g : SM1) (f : EM (List D)) : EM D := fun τ st => (f τ st).bind g
theorem ex_callBs {x : Str} {id : String} {g : SM1} {fl : EM (List D)} (hc : CallS X (.builtin id) g) (hg : Gl X x) (hm : X.mg x = none) (hv : bootBuiltins x = some (.builtin id)) (ha : Es X W e fl) (hn : x ≠ "__name__" := by decide) (hdb : (x == ("__debug__" : Str)) = false := by decide)
    (he : starEach [e] X.env = (false, eval e X.env) :: starEach [] X.env := by rfl) (hpl : (backTo pos (starEach [] X.env)).any (·.1) = false := by rfl) : Ex X W (.Call (.Name x p) [e] [] pos) (eCS g fl) := by
  obtain ⟨r, hr, h⟩ := hc
  refine ⟨fun m τ st σ H Q hL hS hP pins s I => (pe_callB hr hg hm hv (pa_cons peW pa_nil he) hn hdb he hpl).run pins s σ H Q I ?_⟩
  exact ha.run m τ st σ H _ hL hS (hP.bind fun ds s1 m1 H1 v e1 hS1 r1 hP1 => h m1 s1 H1 ds v _ Q hS1 r1 hP1)
theorem ex_callTs {x : Str} {T : String} {g : SM1} {fl : EM (List D)} (hc : CallS X (.type T) g) (hg : Gl X x) (hm : X.mg x = none) (hv : bootBuiltins x = some (.type T)) (ha : Es X W e fl) (hn : x ≠ "__name__" := by decide) (hdb : (x == ("__debug__" : Str)) = false := by decide)
    (he : starEach [e] X.env = (false, eval e X.env) :: starEach [] X.env := by rfl) (hpl : (backTo pos (starEach [] X.env)).any (·.1) = false := by rfl) : Ex X W (.Call (.Name x p) [e] [] pos) (eCS g fl) := by
  obtain ⟨r, hr, h⟩ := hc
  refine ⟨fun m τ st σ H Q hL hS hP pins s I => (pe_callTy hr hg hm hv (pa_cons peW pa_nil he) hn hdb he hpl).run pins s σ H Q I ?_⟩
  exact ha.run m τ st σ H _ hL hS (hP.bind fun ds s1 m1 H1 v e1 hS1 r1 hP1 => h m1 s1 H1 ds v _ Q hS1 r1 hP1)
def gTuple : SM1 := fun xs st => .ok (.tup xs) st
theorem s_tuple : CallS X (.type "tuple") gTuple := ⟨_, call_tuple_of, fun m st H ds v E Q hS r hP => by
  obtain ⟨a, vs, rfl, q, rs⟩ := r
  rcases q with q | q
  · exact ⟨a, vs, rfl, .inl ⟨q, hP.tup hS rs⟩⟩
  · exact ⟨a, vs, rfl, .inr ⟨q, hP.now hS (.tup q rs)⟩⟩⟩
def gLen : SM1 := fun xs st => .ok (.int xs.length) st
theorem s_len : CallS X (.builtin "len") gLen := ⟨_, call_len_seq, fun m st H ds v E Q hS r hP => by
  obtain ⟨a, vs, rfl, q, rs⟩ := r
  refine ⟨a, vs, rfl, q, ?_⟩
  rw [← rs.len]
  exact hP.now hS (.int _)⟩

/-! ### targets -/
def wG (X : Cx) (tg : Expr) : TG := fun v σ H Q => ∀ (pins : List (Addr × Obj)) (s : Shared) (u : Value), Inv X pins σ H s → RelV v u → wpAny (model X.prog X.w) X.A (assign tg X.env u) (fun _ s' => ∃ σ' H', Inv X pins σ' H' s' ∧ Q σ' H') X.xe s
theorem pgW {X : Cx} {tg : Expr} : PG X tg (wG X tg) := ⟨fun pins s σ H v u Q I r h => h pins s u I r⟩
/-- a target: the slots at ix are set -/
structure Eg (X : Cx) (tg : Expr) (ix : List Nat) (set : D → Sl → Option Sl) : Prop where
  run : ∀ (m : List Addr) (τ τ' : Sl) (st : Store) (σ : L2.St) (H : Hp) (d : D) (v : V) (Q : L2.St → Hp → Prop), SL X.K m H τ σ → SS X.K m st H → RD X.K m H d v → set d τ = some τ' →
    (∀ σ', σ'.length = σ.length → (∀ j, j ∉ ix → σ'[j]? = σ[j]?) → SL X.K m H τ' σ' → Q σ' H) → wG X tg v σ H Q
def gN (i : Nat) : D → Sl → Option Sl := fun d τ => some (τ.set i (some d))
theorem eg_name {i : Nat} {x : Str} (hN : X.N.Nodup) (hi : X.N[i]? = some x := by rfl) (hx : Loc X.env.scope x := by first | exact Or.inl rfl | exact Or.inr rfl) (hf : X.fn x = true ∨ X.env.scope.names.lookup x = some .local := by first | exact .inl rfl | exact .inr rfl) : Eg X (.Name x pos) [i] (gN i) := by
  refine ⟨fun m τ τ' st σ H d v Q hL hS r e k pins s u I ru => (pg_name hN hi hx hf).run pins s σ H v u Q I ru ?_⟩
  cases e
  exact k _ (by simp) (fun j hj => List.getElem?_set_ne (fun z => hj (by simp [z]))) (hL.set i r)
/-- several names, one after another -/
structure Egs (X : Cx) (ts : List Expr) (ix : List Nat) (set : List D → Sl → Option Sl) : Prop where
  run : ∃ t : TGs, PGs X ts t ∧ ∀ (m : List Addr) (τ τ' : Sl) (σ : L2.St) (H : Hp) (ds : List D) (vs : List V) (Q : L2.St → Hp → Prop), SL X.K m H τ σ → RDs X.K m H ds vs → set ds τ = some τ' →
    (∀ σ', σ'.length = σ.length → (∀ j, j ∉ ix → σ'[j]? = σ[j]?) → SL X.K m H τ' σ' → Q σ' H) → t vs σ H Q
def gNil0 : List D → Sl → Option Sl := fun ds τ => match ds with
  | [] => some τ
  | _ => none
theorem egs_nil : Egs X [] [] gNil0 := ⟨_, pgs_nil, fun m τ τ' σ H ds vs Q hL r e k => by
    cases r with
    | nil =>
      cases e
      exact ⟨rfl, k σ rfl (fun _ _ => rfl) hL⟩
    | cons _ _ => cases e⟩
def gCs (i : Nat) (set : List D → Sl → Option Sl) : List D → Sl → Option Sl := fun ds τ => match ds with
  | d :: r => set r (τ.set i (some d))
  | [] => none
theorem egs_cons {i : Nat} {ix : List Nat} {x : Str} {ts : List Expr} {set : List D → Sl → Option Sl} (hN : X.N.Nodup) (hr : Egs X ts ix set) (hi : X.N[i]? = some x := by rfl) (hx : Loc X.env.scope x := by first | exact Or.inl rfl | exact Or.inr rfl) (hf : X.fn x = true ∨ X.env.scope.names.lookup x = some .local := by first | exact .inl rfl | exact .inr rfl)
    (hs : (assignEach (.Name x pos :: ts) X.env).map (·.2) = assign (.Name x pos) X.env :: (assignEach ts X.env).map (·.2) := by rfl) : Egs X (.Name x pos :: ts) (i :: ix) (gCs i set) := by
  obtain ⟨t, ht, h⟩ := hr
  refine ⟨_, pgs_cons (pg_name hN hi hx hf) ht hs, fun m τ τ' σ H ds vs Q hL r e k => ?_⟩
  cases r with
  | nil => cases e
  | cons r1 r2 =>
    refine ⟨_, _, rfl, h m _ τ' _ H _ _ Q (hL.set i r1) r2 e fun σ' l q s => k σ' (by rw [l, List.length_set]) (fun j hj => ?_) s⟩
    rw [q j fun z => hj (List.mem_cons_of_mem _ z)]
    exact List.getElem?_set_ne (fun z => hj (by simp [z]))
def gT (n : Nat) (set : List D → Sl → Option Sl) : D → Sl → Option Sl := fun d τ => match d with
  | .tup ds => if ds.length = n then set ds τ else none
  | _ => none
theorem eg_tup {ts : List Expr} {kk : Nat} {ix : List Nat} {set : List D → Sl → Option Sl} {n : Nat} (hc : X.calm = true) (h : Egs X ts ix set) (hn : (assignEach ts X.env).length = n := by rfl) (hst : (assignEach ts X.env).findIdx? (·.1) = none := by rfl) : Eg X (.Tuple ts kk pos) ix (gT n set) := by
  obtain ⟨t, ht, h⟩ := h
  refine ⟨fun m τ τ' st σ H d v Q hL hS r e k pins s u I ru => (pg_tup hc ht hn hst).run pins s σ H v u Q I ru ?_⟩
  unfold gT at e
  split at e
  · split at e
    · rename_i hl
      cases r with
      | tup q rs => exact ⟨_, _, rfl, q, by rw [← rs.len]; exact hl, h m τ τ' σ H _ _ Q hL rs e k⟩
    · cases e
  · cases e

/-! ### what is walked -/
inductive Sq where
  /-- items that stay -/
  | fix (xs : List D)
  /-- the items of a list of the store's, which must stay as long as it is walked -/
  | cell (n : Nat) (xs : List D)
  /-- pairs of the items of two lists of the store's -/
  | two (n k : Nat) (xs ys : List D)
/-- pairs -/
def zipD (xs ys : List D) : List D := (List.zip xs ys).map fun p => .tup [p.1, p.2]
def Sq.items : Sq → List D
  | .fix xs => xs
  | .cell _ xs => xs
  | .two _ _ xs ys => zipD xs ys
def Sq.chk (q : Sq) (st : Store) : Bool := match q with
  | .fix _ => true
  | .cell n xs => decide (lstAt st n = some xs)
  | .two n k xs ys => decide (lstAt st n = some xs) && decide (lstAt st k = some ys)
def JOk (K : PySem.W.Frag) (m0 : List Addr) (H0 : Hp) (q : Sq) (J : It) : Prop :=
  ∀ (m : List Addr) (H : Hp) (st : Store), Ext K m0 H0 m H → SS K m st H → q.chk st = true →
    (∀ (i : Nat) (d : D), q.items[i]? = some d → J.go i H ∧ ∀ x H', J.yld i H x H' → Ext K m H m H' ∧ SS K m st H' ∧ RD K m H' d x) ∧ J.stop q.items.length H
def wI (X : Cx) (tg iter : Expr) : TI := fun σ H R => ∀ (pins : List (Addr × Obj)) (s : Shared), Inv X pins σ H s → wpAny (model X.prog X.w) X.A (eval iter X.env) (fun v s1 => wpAny (model X.prog X.w) X.A (pyIter v) (PIE X pins σ tg R) X.xe s1) X.xe s
theorem piW {X : Cx} {tg iter : Expr} : PI X tg iter (wI X tg iter) := ⟨fun pins s σ H R I h => h pins s I⟩
structure Ei (X : Cx) (W : WX) (tg iter : Expr) (f : EM Sq) : Prop where
  run : ∀ (m : List Addr) (τ : Sl) (st : Store) (σ : L2.St) (H : Hp) (R : It → Hp → Prop), SL X.K m H τ σ → SS X.K m st H → Pe X.K (fun c d H' => W c d σ H') (JOk X.K) m H (f τ st) R → wI X tg iter σ H R
theorem j_list {K : PySem.W.Frag} {m0 : List Addr} {H0 : Hp} {a : Addr} {q : Sq} (h : ∀ (m : List Addr) (H : Hp) (st : Store), Ext K m0 H0 m H → SS K m st H → q.chk st = true → ∃ vs, SqL K H a vs ∧ RDs K m H q.items vs) : JOk K m0 H0 q (Itl K a) := fun m H st e s hc => by
  obtain ⟨vs, hq, rs⟩ := h m H st e s hc
  refine ⟨fun i d hd => ?_, ⟨vs, hq, by rw [rs.len]; exact Nat.le_refl _⟩⟩
  obtain ⟨v, hv, r⟩ := rs.get hd
  refine ⟨⟨vs, v, hq, hv⟩, fun x H' hy => ?_⟩
  obtain ⟨rfl, y⟩ := hy
  have z := y vs hq
  rw [hv] at z
  cases z
  exact ⟨.refl, s, r⟩
theorem j_tup {K : PySem.W.Frag} {m0 : List Addr} {H0 : Hp} {a : Addr} {vs : List V} {xs : List D} (hq : SqT K H0 a vs) (rs : RDs K m0 H0 xs vs) : JOk K m0 H0 (.fix xs) (Itt K a) := fun m H st e s _ => by
  have hq' := e.tup a vs hq
  have rs' := rs.mono e
  refine ⟨fun i d hd => ?_, ⟨vs, hq', by show vs.length ≤ xs.length; rw [← rs.len]; exact Nat.le_refl _⟩⟩
  obtain ⟨v, hv, r⟩ := rs'.get (show xs[i]? = some d from hd)
  refine ⟨⟨vs, v, hq', hv⟩, fun x H' hy => ?_⟩
  obtain ⟨rfl, y⟩ := hy
  have z := y vs hq'
  rw [hv] at z
  cases z
  exact ⟨.refl, s, r⟩
def dSq (st : Store) : D → Option Sq
  | .tup xs => some (.fix xs)
  | .rol xs => some (.fix xs)
  | .ref n => (lstAt st n).map (.cell n)
  | .str x => some (.fix (x.map fun c => .str [c]))
  | _ => none
def iEx (f : EM D) : EM Sq := fun τ st => (f τ st).bind fun d s1 => match dSq s1 d with
  | some q => .ok q s1
  | none => .bad
theorem j_str {K : PySem.W.Frag} {m0 : List Addr} {H0 : Hp} (x : List Nat) : JOk K m0 H0 (.fix (x.map fun c => .str [c])) (Its ⟨x.toArray⟩) := fun m H st e s _ => by
  refine ⟨fun i d hd => ?_, ?_⟩
  · have hd : (x.map fun c => D.str [c])[i]? = some d := hd
    rw [List.getElem?_map] at hd
    cases hx : x[i]? with
    | none =>
      rw [hx] at hd
      cases hd
    | some c =>
      rw [hx] at hd
      cases hd
      refine ⟨(List.getElem?_eq_some_iff.mp hx).1, fun y H' hy => ?_⟩
      obtain ⟨e, c', h1, h2⟩ := hy
      subst e
      have h3 : x[i]? = some c' := by simpa using h1
      rw [hx] at h3
      cases h3
      subst h2
      exact ⟨.refl, s, .str [c]⟩
  · show (⟨x.toArray⟩ : PySem.Str).cps.size ≤ (x.map fun c => D.str [c]).length
    simp
theorem ei_ex {tg : Expr} (h : Ex X W e f) : Ei X W tg e (iEx f) := by
  refine ⟨fun m τ st σ H R hL hS hP pins s I => ?_⟩
  unfold iEx at hP
  have hrun := h.run m τ st σ H
  cases hq : f τ st with
  | bad =>
    rw [hq] at hP
    exact hP.elim
  | exc x s1 =>
    rw [hq] at hP
    refine (pi_list (tg := tg) peW).run pins s σ H R I (hrun _ hL hS ?_)
    rw [hq]
    exact hP
  | ok d s1 =>
    rw [hq] at hP
    have hP : Pe X.K (fun c d H' => W c d σ H') (JOk X.K) m H (match dSq s1 d with
      | some q => .ok q s1
      | none => .bad) R := hP
    cases hd : dSq s1 d with
    | none =>
      rw [hd] at hP
      exact hP.elim
    | some q =>
      rw [hd] at hP
      cases d with
      | tup xs =>
        cases hd
        refine (pi_tup (tg := tg) peW).run pins s σ H R I (hrun _ hL hS ?_)
        rw [hq]
        intro m1 H1 v e1 hS1 r1
        cases r1 with
        | tup sq rs => exact ⟨_, rfl, ⟨_, sq⟩, hP m1 H1 _ e1 hS1 (j_tup sq rs)⟩
      | rol xs =>
        cases hd
        refine (pi_list (tg := tg) peW).run pins s σ H R I (hrun _ hL hS ?_)
        rw [hq]
        intro m1 H1 v e1 hS1 r1
        cases r1 with
        | rol sq rs => exact ⟨_, rfl, ⟨_, sq.sq⟩, hP m1 H1 _ e1 hS1 (j_list fun m H st e s _ => ⟨_, (e.fzl _ _ sq).sq, rs.mono e⟩)⟩
      | ref n =>
        have hd : (lstAt s1 n).map (Sq.cell n) = some q := hd
        simp only [Option.map_eq_some_iff] at hd
        obtain ⟨xs, hx, rfl⟩ := hd
        refine (pi_list (tg := tg) peW).run pins s σ H R I (hrun _ hL hS ?_)
        rw [hq]
        intro m1 H1 v e1 hS1 r1
        cases r1 with
        | ref z =>
          obtain ⟨vs, h1, h2⟩ := hS1.list hx z
          refine ⟨_, rfl, ⟨vs, SqL.of h1⟩, hP m1 H1 _ e1 hS1 (j_list fun m H st e s hc => ?_)⟩
          obtain ⟨us, h3, h4⟩ := s.list (of_decide_eq_true hc) (e.pre _ _ z)
          exact ⟨us, SqL.of h3, h4⟩
      | str x =>
        cases hd
        refine (pi_str (tg := tg) peW).run pins s σ H R I (hrun _ hL hS ?_)
        rw [hq]
        intro m1 H1 v e1 hS1 r1
        cases r1
        exact ⟨_, rfl, hP m1 H1 _ e1 hS1 (j_str x)⟩
      | _ => cases hd
def iEl (f : EM (List D)) : EM Sq := fun τ st => (f τ st).bind fun xs s1 => .ok (.fix xs) s1
theorem ei_el {tg : Expr} {fl : EM (List D)} (h : El X W e fl) : Ei X W tg e (iEl fl) := by
  refine ⟨fun m τ st σ H R hL hS hP pins s I => (pi_list (tg := tg) peW).run pins s σ H R I (h.run m τ st σ H _ hL hS ?_)⟩
  unfold iEl at hP
  cases hq : fl τ st with
  | ok ds s1 =>
    rw [hq] at hP
    intro m1 H1 v e1 hS1 ⟨a, vs, e, ha, na, hn, rs⟩
    exact ⟨a, e, ⟨vs, SqL.of ha⟩, hP m1 H1 _ e1 hS1 (j_list fun m H st e s _ => ⟨vs, SqL.of (e.frm _ _ na ha), rs.mono e⟩)⟩
  | exc x st' =>
    rw [hq] at hP
    exact hP
  | bad =>
    rw [hq] at hP
    exact hP.elim
/-- lo, lo + 1, .. below hi -/
def rng (lo hi : Int) : List D := (List.range (hi - lo).toNat).map fun k => D.int (lo + (k : Nat))
theorem j_rng {K : PySem.W.Frag} {m0 : List Addr} {H0 : Hp} (lo hi : Int) : JOk K m0 H0 (.fix (rng lo hi)) (Itr lo (hi - lo).toNat) := fun m H st e s _ => by
  refine ⟨fun i d hd => ?_, ?_⟩
  · have hd : (rng lo hi)[i]? = some d := hd
    unfold rng at hd
    rw [List.getElem?_map] at hd
    cases hx : (List.range (hi - lo).toNat)[i]? with
    | none =>
      rw [hx] at hd
      cases hd
    | some k =>
      rw [hx] at hd
      cases hd
      obtain ⟨h1, h2⟩ := List.getElem?_eq_some_iff.mp hx
      rw [List.length_range] at h1
      rw [List.getElem_range] at h2
      subst h2
      refine ⟨h1, fun y H' hy => ?_⟩
      obtain ⟨rfl, rfl⟩ := hy
      exact ⟨.refl, s, .int _⟩
  · show (hi - lo).toNat ≤ (rng lo hi).length
    simp [rng]
def okRng (j : Int) : Bool := decide (j.natAbs < 4611686018427387904)
theorem okRng_ok {j : Int} (h : okRng j = true) : -(2 ^ 62) ≤ j ∧ j < 2 ^ 62 := by
  have q : j.natAbs < 4611686018427387904 := of_decide_eq_true h
  have q' : -4611686018427387904 ≤ j ∧ j < 4611686018427387904 := by omega
  exact q'
def iRg1 (f : EM D) : EM Sq := fun τ st => (f τ st).bind fun d s1 => match d with
  | .int j => if okRng j then .ok (.fix (rng 0 j)) s1 else .bad
  | _ => .bad
def iRg2 (fa fb : EM D) : EM Sq := fun τ st => (fa τ st).bind fun d s1 => (fb τ s1).bind fun e s2 => match d, e with
  | .int i, .int j => if okRng i && okRng j then .ok (.fix (rng i j)) s2 else .bad
  | _, _ => .bad
theorem ei_range1 {tg : Expr} (hg : Gl X "range") (hm : X.mg "range" = none) (ha : Ex X W a fa) (hs : starEach [a] X.env = [(false, eval a X.env)] := by rfl) : Ei X W tg (.Call (.Name "range" p) [a] [] pos) (iRg1 fa) := by
  refine ⟨fun m τ st σ H R hL hS hP pins s I => (pi_range1 (tg := tg) hg hm (pa_cons peW pa_nil (by rw [hs]; rfl)) hs).run pins s σ H R I (ha.run m τ st σ H _ hL hS (hP.bind fun d s1 m1 H1 v e1 hS1 r1 hP1 => ?_))⟩
  split at hP1
  · split at hP1
    · rename_i j hj
      cases r1
      obtain ⟨q1, q2⟩ := okRng_ok hj
      refine ⟨j, rfl, q1, q2, hP1.now hS1 ?_⟩
      have z := j_rng (K := X.K) (m0 := m1) (H0 := H1) 0 j
      rw [Int.sub_zero] at z
      exact z
    · exact hP1.elim
  · exact hP1.elim
theorem ei_range2 {tg : Expr} (hg : Gl X "range") (hm : X.mg "range" = none) (ha : Ex X W a fa) (hb : Ex X W b fb) (hs : starEach [a, b] X.env = [(false, eval a X.env), (false, eval b X.env)] := by rfl) (hs2 : starEach [b] X.env = [(false, eval b X.env)] := by rfl) :
    Ei X W tg (.Call (.Name "range" p) [a, b] [] pos) (iRg2 fa fb) := by
  refine ⟨fun m τ st σ H R hL hS hP pins s I => (pi_range2 (tg := tg) hg hm (pa_cons peW (pa_cons peW pa_nil (by rw [hs2]; rfl)) (by rw [hs, hs2])) hs hs2).run pins s σ H R I ?_⟩
  refine two ha hb hL hS hP fun m2 st2 H2 dx dy x y e2 hS2 r1 r2 hP2 => ?_
  split at hP2
  · split at hP2
    · rename_i i j hij
      cases r1
      cases r2
      rw [Bool.and_eq_true] at hij
      obtain ⟨q1, q2⟩ := okRng_ok hij.1
      obtain ⟨q3, q4⟩ := okRng_ok hij.2
      exact ⟨i, j, rfl, ⟨q1, q2, q3, q4⟩, hP2.now hS2 (j_rng i j)⟩
    · exact hP2.elim
  · exact hP2.elim

/-! ### comprehensions -/
def wipeD (τ : Sl) : List Nat → Sl
  | [] => τ
  | v :: vs => (wipeD τ vs).set v none
theorem wipeD_some {τ : Sl} {i : Nat} {d : D} : ∀ {vs : List Nat}, (wipeD τ vs)[i]? = some (some d) → τ[i]? = some (some d) ∧ i ∉ vs
  | [], h => ⟨h, by simp⟩
  | v :: vs, h => by
    unfold wipeD at h
    by_cases hi : v = i
    · subst hi
      by_cases hv : v < (wipeD τ vs).length
      · rw [List.getElem?_set_self hv] at h
        cases h
      · rw [List.getElem?_eq_none (by simpa using hv)] at h
        cases h
    · rw [List.getElem?_set_ne hi] at h
      obtain ⟨h1, h2⟩ := wipeD_some h
      exact ⟨h1, by simp only [List.mem_cons, not_or]; exact ⟨fun e => hi e.symm, h2⟩⟩
theorem wipeD_len (τ : Sl) : ∀ vs : List Nat, (wipeD τ vs).length = τ.length
  | [] => rfl
  | v :: vs => by unfold wipeD; rw [List.length_set, wipeD_len τ vs]
theorem SL.wipe {K : PySem.W.Frag} {m : List Addr} {H : Hp} {τ : Sl} {σ : L2.St} (s : SL K m H τ σ) (vs : List Nat) : SL K m H (wipeD τ vs) (L2.wipe σ vs) :=
  ⟨by rw [wipeD_len, wipe_length, s.len], fun i d h => by
    obtain ⟨h1, h2⟩ := wipeD_some h
    obtain ⟨v, h3, h4⟩ := s.get i d h1
    exact ⟨v, by rw [wipe_out h2]; exact h3, h4⟩⟩
theorem wipe_same {σ σ' : L2.St} {vs : List Nat} (hl : σ'.length = σ.length) (h : ∀ j, j ∉ vs → σ'[j]? = σ[j]?) : L2.wipe σ' vs = L2.wipe σ vs := by
  apply List.ext_getElem?
  intro i
  by_cases hi : i ∈ vs
  · have z : ∀ (τ : L2.St) (us : List Nat), i ∈ us → (L2.wipe τ us)[i]? = if i < τ.length then some none else none := by
      intro τ us
      induction us with
      | nil => intro q; cases q
      | cons u us ih =>
        intro q
        unfold L2.wipe
        by_cases hu : u = i
        · subst hu
          split
          · rename_i hlt
            rw [List.getElem?_set_self (by rw [wipe_length]; exact hlt)]
          · rename_i hlt
            exact List.getElem?_eq_none (by rw [List.length_set, wipe_length]; omega)
        · rw [List.getElem?_set_ne hu]
          exact ih ((List.mem_cons.mp q).resolve_left fun e => hu e.symm)
    rw [z σ' vs hi, z σ vs hi, hl]
  · rw [wipe_out hi, wipe_out hi, h i hi]
/-- no exception leaves here -/
def _root_.HM.ER.bindN {α β : Type} (r : ER α) (k : α → Store → ER β) : ER β := match r with
  | .ok a st => k a st
  | _ => .bad
@[simp] theorem _root_.HM.ER.bindN_ok {α β : Type} (a : α) (st : Store) (k : α → Store → ER β) : (ER.ok a st).bindN k = k a st := rfl
theorem Pe.bindN {α β γ δ : Type} {K : PySem.W.Frag} {E E' : XK} {R : List Addr → Hp → α → β → Prop} {S : List Addr → Hp → γ → δ → Prop} {m : List Addr} {H : Hp} {r : ER α} {Q : β → Hp → Prop} {k : α → Store → ER γ} {Q' : δ → Hp → Prop} (h : Pe K E S m H (r.bindN k) Q')
    (hk : ∀ a st m' H' b, Ext K m H m' H' → SS K m' st H' → R m' H' a b → Pe K E S m' H' (k a st) Q' → Q b H') : Pe K E' R m H r Q := by
  cases r with
  | ok a st => exact fun m' H' b e s q => hk a st m' H' b e s q (Pe.up h e)
  | exc x st => exact h.elim
  | bad => exact h
/-- .. read from an earlier heap -/
theorem Pe.from {α β γ δ : Type} {K : PySem.W.Frag} {E E' : XK} {R : List Addr → Hp → α → β → Prop} {S : List Addr → Hp → γ → δ → Prop} {m m1 : List Addr} {H H1 : Hp} {r : ER α} {Q : β → Hp → Prop} {k : α → Store → ER γ} {Q' : δ → Hp → Prop} (h : Pe K E S m1 H1 (r.bindN k) Q')
    (hk : ∀ a st m' H' b, Ext K m H m' H' → SS K m' st H' → R m' H' a b → Pe K E S m1 H1 (k a st) Q' → Q b H') : Pe K E' R m H r Q := by
  cases r with
  | ok a st => exact fun m' H' b e s q => hk a st m' H' b e s q h
  | exc x st => exact h.elim
  | bad => exact h
/-- the turns of a comprehension -/
def compL (q : Sq) (set : D → Sl → Option Sl) (ft : EM Bool) (fe : EM D) (τ : Sl) : List D → List D → Store → ER (List D)
  | [], acc => fun st => if q.chk st then .ok acc st else .bad
  | d :: ds, acc => fun st => if q.chk st then match set d τ with
    | some τ1 => (ft τ1 st).bindN fun b s1 => if b then (fe τ1 s1).bindN fun x s2 => compL q set ft fe τ ds (acc ++ [x]) s2 else compL q set ft fe τ ds acc s1
    | none => .bad
  else .bad
def lComp (own : List Nat) (fi : EM Sq) (set : D → Sl → Option Sl) (ft : EM Bool) (fe : EM D) : EM (List D) := fun τ st => (fi τ st).bind fun q s1 =>
  if q.items.length ≤ 16777216 then compL q set ft fe (wipeD τ own) q.items [] s1 else .bad
/-- tests of a comprehension -/
def wTs (X : Cx) (ifs : List Expr) : TT := fun σ H Q => ∀ (pins : List (Addr × Obj)) (s : Shared), Inv X pins σ H s → wpAny (model X.prog X.w) X.A (forIn ifs true fun c r => if r = true then do let ok ← isTrue c X.env (eval c X.env); pure (ForInStep.yield ok) else pure (ForInStep.yield r)) (TP X pins σ Q) X.xe s
theorem ptsW {X : Cx} {ifs : List Expr} : PTs X ifs (wTs X ifs) := ⟨fun pins s σ H Q I h => h pins s I⟩
structure Ets (X : Cx) (W : WX) (ifs : List Expr) (f : EM Bool) : Prop where
  run : ∀ (m : List Addr) (τ : Sl) (st : Store) (σ : L2.St) (H : Hp) (Q : Bool → Hp → Prop), SL X.K m H τ σ → SS X.K m st H → Pe X.K (fun c d H' => W c d σ H') RB m H (f τ st) Q → wTs X ifs σ H Q
def tYes : EM Bool := fun _ st => .ok true st
theorem ets_nil : Ets X W [] tYes := ⟨fun m τ st σ H Q hL hS hP pins s I => pts_nil.run pins s σ H Q I (hP.now hS rfl)⟩
theorem ets_one (h : Et X W e g) : Ets X W [e] g := ⟨fun m τ st σ H Q hL hS hP pins s I => (pts_one ptW).run pins s σ H Q I (h.run m τ st σ H Q hL hS hP)⟩
abbrev W0 : WX := fun _ _ _ _ => False
/-- the context of a block, whatever it starts at -/
abbrev Blk (X : Cx) (scope : Scope) (P : Cx → Prop) : Prop := ∀ (s : Shared) (H : Hp) (C : Addr) (cl : List (Str × Addr)) (fp : List Addr), P (X.blk s H scope (compEnvC scope cl C X.env) fp)
abbrev BEx (X : Cx) (scope : Scope) (elt : Expr) (fe : EM D) : Prop := ∀ (s : Shared) (H : Hp) (C : Addr) (cl : List (Str × Addr)) (fp : List Addr), Ex (X.blk s H scope (compEnvC scope cl C X.env) fp) W0 elt fe
abbrev BEt (X : Cx) (scope : Scope) (ifs : List Expr) (ft : EM Bool) : Prop := ∀ (s : Shared) (H : Hp) (C : Addr) (cl : List (Str × Addr)) (fp : List Addr), Ets (X.blk s H scope (compEnvC scope cl C X.env) fp) W0 ifs ft
abbrev BEg (X : Cx) (scope : Scope) (tg : Expr) (ix : List Nat) (set : D → Sl → Option Sl) : Prop := ∀ (s : Shared) (H : Hp) (C : Addr) (cl : List (Str × Addr)) (fp : List Addr), Eg (X.blk s H scope (compEnvC scope cl C X.env) fp) tg ix set
def gAll (X : Cx) (scope : Scope) (tg : Expr) : TG := fun v σ H Q => Blk X scope fun Y => wG Y tg v σ H Q
def tAll (X : Cx) (scope : Scope) (ifs : List Expr) : TT := fun σ H Q => Blk X scope fun Y => wTs Y ifs σ H Q
def eAll (X : Cx) (scope : Scope) (e : Expr) : TE := fun σ H Q => Blk X scope fun Y => wE Y e σ H Q
/-- one turn after another -/
theorem comp_read {tg elt : Expr} {ifs : List Expr} {scope : Scope} {ix own : List Nat} {set : D → Sl → Option Sl} {ft : EM Bool} {fe : EM D} (hown : ∀ i ∈ ix, i ∈ own) (hg : BEg X scope tg ix set) (ht : BEt X scope ifs ft) (he : BEx X scope elt fe)
    {m0 : List Addr} {τ : Sl} {σ : L2.St} {H0 H1 : Hp} {st0 : Store} {m1 : List Addr} {q : Sq} {J : It} {Q : VK} {E : XK} (e1 : Ext X.K m0 H0 m1 H1) (hL : SL X.K m1 H1 τ σ) (hS : SS X.K m1 st0 H1) (hJ : JOk X.K m1 H1 q J) (hz : q.items.length ≤ 16777216)
    (hP : Pe X.K E (fun m' H' ds v => ∃ a vs, v = .ref a ∧ H' a = some (.lst vs) ∧ a ∉ m' ∧ H0 a = none ∧ RDs X.K m' H' ds vs) m1 H1 (compL q set ft fe (wipeD τ own) q.items [] st0) Q) (D' : Addr) (hD : H1 D' = none) :
    ∃ W : Nat → Nat → Hp → Prop, (∃ m, W 0 m (upd H1 D' (.lst []))) ∧ ∀ i m H, W i m H →
      (J.stop i H ∧ Q (.ref D') H) ∨ (J.go i H ∧ ∃ Nx : Hp → Prop, (∀ H', Nx H' → ∃ m', m' < m ∧ W (i + 1) m' H') ∧ ∀ x H', J.yld i H x H' → gAll X scope tg x (L2.wipe σ own) H' fun σ2 H2 => L2.wipe σ2 own = L2.wipe σ own ∧ tAll X scope ifs σ2 H2 fun b H3 =>
        if b = true then eAll X scope elt σ2 H3 fun y H4 => ∃ acc, H4 D' = some (.lst acc) ∧ acc.length < sizeLine ∧ Nx (upd H4 D' (.lst (acc ++ [y]))) else Nx H3) := by
  have hD0 : H0 D' = none := e1.back hS hD
  have hn : D' ∉ m1 := hS.notin hD
  obtain ⟨Z, hZ⟩ : ∃ Z : Nat → Hp → Prop, Z = fun i H => i ≤ q.items.length ∧ ∃ (m : List Addr) (st : Store) (acc : List D) (vs : List V), Ext X.K m1 H1 m H ∧ D' ∉ m ∧ SS X.K m st H ∧ H D' = some (.lst vs) ∧ RDs X.K m H acc vs ∧ acc.length ≤ i ∧
    Pe X.K E (fun m' H' ds v => ∃ a vs, v = .ref a ∧ H' a = some (.lst vs) ∧ a ∉ m' ∧ H0 a = none ∧ RDs X.K m' H' ds vs) m1 H1 (compL q set ft fe (wipeD τ own) (q.items.drop i) acc st) Q := ⟨_, rfl⟩
  refine ⟨fun i k H => k = q.items.length - i ∧ Z i H, ⟨_, rfl, ?_⟩, ?_⟩
  · rw [hZ]
    refine ⟨Nat.zero_le _, m1, st0, [], [], Ext.fresh hD, hn, hS.fresh hD, upd_same, .nil, Nat.le_refl _, ?_⟩
    rw [List.drop_zero]
    exact hP
  · rintro i k H ⟨rfl, hZi⟩
    rw [hZ] at hZi
    obtain ⟨hi, m, st, acc, vs, e, hm, s, hd, rs, hacc, hP⟩ := hZi
    by_cases hlt : i < q.items.length
    · rw [List.drop_eq_getElem_cons hlt] at hP
      unfold compL at hP
      split at hP
      · rename_i hc
        obtain ⟨hgo, _⟩ := hJ m H st e s hc
        obtain ⟨go, yl⟩ := hgo i q.items[i] (by simp [hlt])
        split at hP
        · rename_i τ1 hset
          refine .inr ⟨go, Z (i + 1), fun H' h => ⟨q.items.length - (i + 1), by omega, rfl, h⟩, fun x H' hy s0 H0' C cl fp => ?_⟩
          obtain ⟨e2, s2, r2⟩ := yl x H' hy
          refine (hg s0 H0' C cl fp).run m _ τ1 st _ H' _ x _ ((hL.mono (e.trans e2)).wipe own) s2 r2 hset fun σ2 l1 l2 hL2 => ?_
          have l3 : σ2.length = σ.length := by rw [l1, wipe_length]
          have l4 : ∀ j, j ∉ own → σ2[j]? = σ[j]? := fun j hj => by rw [l2 j fun z => hj (hown j z), wipe_out hj]
          refine ⟨wipe_same l3 l4, fun s0 H0' C cl fp => ?_⟩
          have keep : ∀ {m' : List Addr} {H' : Hp}, Ext X.K m H m' H' → H' D' = some (.lst vs) ∧ D' ∉ m' := fun {m' H'} e => by
            refine ⟨e.frm D' _ hm hd, fun z => ?_⟩
            have q := e.new D' z hm
            rw [hd] at q
            cases q
          refine (ht s0 H0' C cl fp).run m τ1 st σ2 H' _ hL2 s2 (Pe.from (m := m) (H := H') hP fun b s3 m3 H3 b' e3 hS3 r3 hP3 => ?_)
          subst r3
          cases b with
          | false =>
            refine iteF ?_
            rw [hZ]
            obtain ⟨k1, k2⟩ := keep (e2.trans e3)
            exact ⟨by omega, m3, s3, acc, vs, e.trans (e2.trans e3), k2, hS3, k1, rs.mono (e2.trans e3), by omega, hP3⟩
          | true =>
            refine iteT fun s0 H0' C cl fp => (he s0 H0' C cl fp).run m3 τ1 s3 σ2 H3 _ (hL2.mono e3) hS3 (Pe.from (m := m3) (H := H3) (k := fun x s2 => compL q set ft fe (wipeD τ own) (List.drop (i + 1) q.items) (acc ++ [x]) s2) hP3 fun y s4 m4 H4 y' e4 hS4 r4 hP4 => ?_)
            obtain ⟨k1, k2⟩ := keep ((e2.trans e3).trans e4)
            have rs4 := rs.mono ((e2.trans e3).trans e4)
            have hz' : vs.length < sizeLine := by
              rw [← rs.len, PySem.sizeLine_eq]
              omega
            have e5 : Ext X.K m1 H1 m4 H4 := e.trans ((e2.trans e3).trans e4)
            have e6 : Ext X.K m1 H1 m4 (upd H4 D' (.lst (vs ++ [y']))) := {
              pre := e5.pre
              tup := fun a us h => (Kp.write (K := X.K) (m := m4) k1).tup a us (e5.tup a us h)
              fzl := fun a us h => (Kp.write (K := X.K) (m := m4) k1).fzl a us (e5.fzl a us h)
              frm := fun a o q h => by
                rw [upd_ne (ne_of_none h hD)]
                exact e5.frm a o q h
              new := e5.new }
            refine ⟨vs, k1, hz', ?_⟩
            rw [hZ]
            refine ⟨by omega, m4, s4, acc ++ [y], vs ++ [y'], e6, k2, hS4.other k1 k2, upd_same, (rs4.append (.cons r4 .nil)).kp (Kp.write k1), by rw [List.length_append, List.length_singleton]; omega, ?_⟩
            exact hP4
        · exact hP.elim
      · exact hP.elim
    · have e0 : i = q.items.length := by omega
      subst e0
      rw [List.drop_length] at hP
      unfold compL at hP
      split at hP
      · rename_i hc
        obtain ⟨_, stop⟩ := hJ m H st e s hc
        exact .inl ⟨stop, hP m H (.ref D') e s ⟨D', vs, rfl, hd, hm, hD0, rs⟩⟩
      · exact hP.elim
end
end HM

/-! HM, part 6: list comprehensions, statements. -/
namespace HM
open PySem PySem.Spec PyProof.Rows L2
section
variable {X : Cx} {W : WX} {e a b c : Expr} {es rest : List Expr} {pos p : Pos} {f fa fb fc : EM D} {fs : EM (List D)} {g ga gb : EM Bool}
theorem comp_post {tg elt iter : Expr} {ifs : List Expr} {scope : Scope} {own : List (Str × Nat)} {ix : List Nat} {set : D → Sl → Option Sl} {ft : EM Bool} {fe : EM D} {fi : EM Sq} (hi : Ei X W tg iter fi) (hown : ∀ i ∈ ix, i ∈ own.map (·.2))
    (hg : BEg X scope tg ix set) (ht : BEt X scope ifs ft) (he : BEx X scope elt fe) {m : List Addr} {τ : Sl} {st : Store} {σ : L2.St} {H : Hp} {Q : VK} (hL : SL X.K m H τ σ) (hS : SS X.K m st H)
    (hP : Pe X.K (fun c d H' => W c d σ H') (fun m' H' ds v => ∃ a vs, v = .ref a ∧ H' a = some (.lst vs) ∧ a ∉ m' ∧ H a = none ∧ RDs X.K m' H' ds vs) m H (lComp (own.map (·.2)) fi set ft fe τ st) Q) :
    tLc (wI X tg iter) (gAll X scope tg) (tAll X scope ifs) (eAll X scope elt) (own.map (·.2)) σ H Q := by
  unfold lComp at hP
  refine hi.run m τ st σ H _ hL hS ?_
  cases hq : fi τ st with
  | bad =>
    rw [hq] at hP
    exact hP.elim
  | exc x s1 =>
    rw [hq] at hP
    exact hP
  | ok q s1 =>
    rw [hq] at hP
    intro m1 H1 J e1 hS1 hJ D' hD
    have hP : Pe X.K (fun c d H' => W c d σ H') (fun m' H' ds v => ∃ a vs, v = .ref a ∧ H' a = some (.lst vs) ∧ a ∉ m' ∧ H a = none ∧ RDs X.K m' H' ds vs) m H (if q.items.length ≤ 16777216 then compL q set ft fe (wipeD τ (own.map (·.2))) q.items [] s1 else .bad) Q := hP
    split at hP
    · rename_i hz
      exact comp_read (E := fun c d H' => W c d σ H') hown hg ht he e1 (hL.mono e1) hS1 hJ hz (hP.up e1) D' hD
    · exact hP.elim
theorem el_comp {tg elt iter : Expr} {ifs : List Expr} {scope : Scope} {own : List (Str × Nat)} {ix : List Nat} {set : D → Sl → Option Sl} {ft : EM Bool} {fe : EM D} {fi : EM Sq} (hc : X.calm = true) (hN : X.N.Nodup) (hi : Ei X W tg iter fi) (ok : BlkOk X.N X.env.scope scope own)
    (hg : BEg X scope tg ix set) (ht : BEt X scope ifs ft) (he : BEx X scope elt fe) (hown : ∀ i ∈ ix, i ∈ own.map (·.2) := by decide) (hs : ∀ x, foldedSetIterable iter X.env x = pure x := by intro _; rfl) :
    El X W (.ListComp elt [⟨tg, iter, ifs, 0⟩] scope pos) (lComp (own.map (·.2)) fi set ft fe) := by
  refine ⟨fun m τ st σ H Q hL hS hP pins s I => ?_⟩
  refine (pe_lc (g := gAll X scope tg) (tt := tAll X scope ifs) (te := eAll X scope elt) hc hN piW ok ?_ ?_ ?_ hs).run pins s σ H Q I (comp_post hi hown hg ht he hL hS hP)
  · exact fun s H C cl fp => ⟨fun pins s' σ H' v u Q I r h => h s H C cl fp pins s' u I r⟩
  · exact fun s H C cl fp => ⟨fun pins s' σ H' Q I h => h s H C cl fp pins s' I⟩
  · exact fun s H C cl fp => ⟨fun pins s' σ H' Q I h => h s H C cl fp pins s' I⟩
end

/-! ### statements -/
/-- behind a statement -/
def Ps (K : PySem.W.Frag) (W : WX) (m : List Addr) (H : Hp) (r : SR) (D : Ends) : Prop := match r with
  | .nx τ st => ∀ m' H' σ, Ext K m H m' H' → SS K m' st H' → SL K m' H' τ σ → D.nx σ H'
  | .bk τ st => ∀ m' H' σ, Ext K m H m' H' → SS K m' st H' → SL K m' H' τ σ → D.bk σ H'
  | .ct τ st => ∀ m' H' σ, Ext K m H m' H' → SS K m' st H' → SL K m' H' τ σ → D.ct σ H'
  | .rt d st => ∀ m' H' v, Ext K m H m' H' → SS K m' st H' → RD K m' H' d v → D.rt v H'
  | .exc x τ st => ∀ m' H' σ c d, Ext K m H m' H' → SS K m' st H' → SL K m' H' τ σ → XR K m' H' x c d → W c d σ H'
  | .bad => False
theorem Ps.up {K : PySem.W.Frag} {W : WX} {m m1 : List Addr} {H H1 : Hp} {r : SR} {D : Ends} (h : Ps K W m H r D) (e : Ext K m H m1 H1) : Ps K W m1 H1 r D := by
  cases r with
  | nx τ st => exact fun m' H' σ e' => h m' H' σ (e.trans e')
  | bk τ st => exact fun m' H' σ e' => h m' H' σ (e.trans e')
  | ct τ st => exact fun m' H' σ e' => h m' H' σ (e.trans e')
  | rt d st => exact fun m' H' σ e' => h m' H' σ (e.trans e')
  | exc x τ st => exact fun m' H' σ c d e' => h m' H' σ c d (e.trans e')
  | bad => exact h
def wS (X : Cx) (st : Stmt) : TS := fun D σ H => ∀ (pins : List (Addr × Obj)) (s : Shared), Inv X pins σ H s → wpAny (model X.prog X.w) X.A (exec st X.env) (SP X pins D) X.xe s
def wSs (X : Cx) (st : List Stmt) : TS := fun D σ H => ∀ (pins : List (Addr × Obj)) (s : Shared), Inv X pins σ H s → wpAny (model X.prog X.w) X.A (execs st X.env) (SP X pins D) X.xe s
theorem psW {X : Cx} {st : Stmt} : PS X st (wS X st) := ⟨fun pins s σ H D I h => h pins s I⟩
theorem pssW {X : Cx} {st : List Stmt} : PSs X st (wSs X st) := ⟨fun pins s σ H D I h => h pins s I⟩
structure Sx (X : Cx) (W : WX) (st : Stmt) (f : SM) : Prop where
  run : ∀ (m : List Addr) (τ : Sl) (s : Store) (σ : L2.St) (H : Hp) (D : Ends), SL X.K m H τ σ → SS X.K m s H → Ps X.K W m H (f τ s) D → wS X st D σ H
structure Sxs (X : Cx) (W : WX) (st : List Stmt) (f : SM) : Prop where
  run : ∀ (m : List Addr) (τ : Sl) (s : Store) (σ : L2.St) (H : Hp) (D : Ends), SL X.K m H τ σ → SS X.K m s H → Ps X.K W m H (f τ s) D → wSs X st D σ H
/-- an expression, then the rest of a statement -/
def bindE {α : Type} (r : ER α) (τ : Sl) (k : α → Store → SR) : SR := match r with
  | .ok a st => k a st
  | .exc x st => .exc x τ st
  | .bad => .bad
@[simp] theorem bindE_ok {α : Type} (a : α) (st : Store) (τ : Sl) (k : α → Store → SR) : bindE (.ok a st) τ k = k a st := rfl
@[simp] theorem bindE_exc {α : Type} (x : Xc) (st : Store) (τ : Sl) (k : α → Store → SR) : bindE (.exc x st : ER α) τ k = .exc x τ st := rfl
@[simp] theorem bindE_bad {α : Type} (τ : Sl) (k : α → Store → SR) : bindE (.bad : ER α) τ k = .bad := rfl
theorem Ps.bind {α β : Type} {K : PySem.W.Frag} {W : WX} {R : List Addr → Hp → α → β → Prop} {m : List Addr} {H : Hp} {r : ER α} {τ : Sl} {σ : L2.St} {k : α → Store → SR} {D : Ends} {Q : β → Hp → Prop} (hL : SL K m H τ σ) (h : Ps K W m H (bindE r τ k) D)
    (hk : ∀ a st m' H' b, Ext K m H m' H' → SS K m' st H' → R m' H' a b → Ps K W m' H' (k a st) D → Q b H') : Pe K (fun c d H' => W c d σ H') R m H r Q := by
  cases r with
  | ok a st => exact fun m' H' b e s q => hk a st m' H' b e s q (Ps.up h e)
  | exc x st => exact fun m' H' c d e s q => h m' H' σ c d e s (hL.mono e) q
  | bad => exact h
def sSeq (f g : SM) : SM := fun τ st => match f τ st with
  | .nx τ1 s1 => g τ1 s1
  | r => r
def sNil : SM := fun τ st => .nx τ st
section
variable {X : Cx} {W : WX} {e a b c : Expr} {es rest : List Expr} {pos p : Pos} {fa fb fc fe : EM D} {fs : EM (List D)} {g ga gb : EM Bool} {s1 : Stmt} {ss body : List Stmt} {f h k : SM}
theorem sx_nil : Sxs X W [] sNil := ⟨fun m τ s σ H D hL hS hP pins sh I => pss_nil.run pins sh σ H D I (hP m H σ .refl hS hL)⟩
theorem sx_cons (h1 : Sx X W s1 f) (h2 : Sxs X W ss h) : Sxs X W (s1 :: ss) (sSeq f h) := by
  refine ⟨fun m τ s σ H D hL hS hP pins sh I => (pss_cons psW pssW).run pins sh σ H D I (h1.run m τ s σ H _ hL hS ?_)⟩
  unfold sSeq at hP
  cases hq : f τ s with
  | nx τ1 s1 =>
    rw [hq] at hP
    exact fun m1 H1 σ1 e1 hS1 hL1 => h2.run m1 τ1 s1 σ1 H1 D hL1 hS1 (hP.up e1)
  | bk τ1 s1 =>
    rw [hq] at hP
    exact hP
  | ct τ1 s1 =>
    rw [hq] at hP
    exact hP
  | rt d s1 =>
    rw [hq] at hP
    exact hP
  | exc x τ1 s1 =>
    rw [hq] at hP
    exact hP
  | bad =>
    rw [hq] at hP
    exact hP
theorem sx_one (h1 : Sx X W s1 f) : Sxs X W [s1] f := by
  refine ⟨fun m τ s σ H D hL hS hP pins sh I => (pss_one psW).run pins sh σ H D I (h1.run m τ s σ H _ hL hS hP)⟩
theorem sx_pass : Sx X W (.Pass pos) sNil := ⟨fun m τ s σ H D hL hS hP pins sh I => ps_pass.run pins sh σ H D I (hP m H σ .refl hS hL)⟩
def sBrk : SM := fun τ st => .bk τ st
def sCnt : SM := fun τ st => .ct τ st
theorem sx_break : Sx X W (.Break pos) sBrk := ⟨fun m τ s σ H D hL hS hP pins sh I => ps_break.run pins sh σ H D I (hP m H σ .refl hS hL)⟩
theorem sx_continue : Sx X W (.Continue pos) sCnt := ⟨fun m τ s σ H D hL hS hP pins sh I => ps_continue.run pins sh σ H D I (hP m H σ .refl hS hL)⟩
def sRet (fe : EM D) : SM := fun τ st => bindE (fe τ st) τ fun d s1 => .rt d s1
theorem sx_ret (he : Ex X W e fe) : Sx X W (.Return (some e) pos) (sRet fe) := by
  refine ⟨fun m τ s σ H D hL hS hP pins sh I => (ps_ret peW).run pins sh σ H D I ?_⟩
  exact he.run m τ s σ H _ hL hS (hP.bind hL fun d s1 m1 H1 v e1 hS1 r1 hP1 => hP1 m1 H1 v .refl hS1 r1)
def sRetN : SM := fun _ st => .rt .non st
theorem sx_retN : Sx X W (.Return none pos) sRetN := ⟨fun m τ s σ H D hL hS hP pins sh I => ps_retN.run pins sh σ H D I (hP m H .non .refl hS .non)⟩
def sExpr (fe : EM D) : SM := fun τ st => bindE (fe τ st) τ fun _ s1 => .nx τ s1
theorem sx_expr (he : Ex X W e fe) (hs : swapsWith e none pos.line X.env = pure false := by rfl) : Sx X W (.Expr e pos) (sExpr fe) := by
  refine ⟨fun m τ s σ H D hL hS hP pins sh I => (ps_expr peW hs).run pins sh σ H D I ?_⟩
  exact he.run m τ s σ H _ hL hS (hP.bind hL fun d s1 m1 H1 v e1 hS1 r1 hP1 => hP1 m1 H1 σ .refl hS1 (hL.mono e1))
def sIf (g : EM Bool) (f h : SM) : SM := fun τ st => bindE (g τ st) τ fun b s1 => if b then f τ s1 else h τ s1
theorem sx_if {sa sb : List Stmt} (hc : Et X W c g) (ha : Sxs X W sa f) (hb : Sxs X W sb h) : Sx X W (.If c sa sb pos) (sIf g f h) := by
  refine ⟨fun m τ s σ H D hL hS hP pins sh I => (ps_if ptW pssW pssW).run pins sh σ H D I ?_⟩
  refine hc.run m τ s σ H _ hL hS (hP.bind hL fun d s1 m1 H1 v e1 hS1 r1 hP1 => ?_)
  subst r1
  cases d with
  | true => exact iteT (ha.run m1 τ s1 σ H1 D (hL.mono e1) hS1 hP1)
  | false => exact iteF (hb.run m1 τ s1 σ H1 D (hL.mono e1) hS1 hP1)
/-- name = e -/
def sSet (i : Nat) (fe : EM D) : SM := fun τ st => bindE (fe τ st) τ fun d s1 => .nx (τ.set i (some d)) s1
theorem sx_set {i : Nat} {x : Str} {pos' : Pos} (hN : X.N.Nodup) (he : Ex X W e fe) (hi : X.N[i]? = some x := by rfl) (hx : Loc X.env.scope x := by first | exact Or.inl rfl | exact Or.inr rfl) (hs : swapsWith e (some (.Name x pos')) pos.line X.env = pure false := by rfl)
    (hf : X.fn x = true ∨ X.env.scope.names.lookup x = some .local := by first | exact .inl rfl | exact .inr rfl) : Sx X W (.Assign [.Name x pos'] e pos) (sSet i fe) := by
  refine ⟨fun m τ s σ H D hL hS hP pins sh I => (ps_set hN hi hx peW hs hf).run pins sh σ H D I ?_⟩
  exact he.run m τ s σ H _ hL hS (hP.bind hL fun d s1 m1 H1 v e1 hS1 r1 hP1 => hP1 m1 H1 _ .refl hS1 ((hL.mono e1).set i r1))
/-- target = e -/
def sAsg (set : D → Sl → Option Sl) (fe : EM D) : SM := fun τ st => bindE (fe τ st) τ fun d s1 => match set d τ with
  | some τ1 => .nx τ1 s1
  | none => .bad
theorem sx_asg {tg : Expr} {ix : List Nat} {set : D → Sl → Option Sl} (he : Ex X W e fe) (hg : Eg X tg ix set) (hs : swapsWithSole [tg] e pos.line X.env = pure false := by rfl) (hw : swappedStores [tg] e X.env = pure none := by rfl) (h1 : (assignEach [tg] X.env).map (·.2) = [assign tg X.env] := by rfl) : Sx X W (.Assign [tg] e pos) (sAsg set fe) := by
  refine ⟨fun m τ s σ H D hL hS hP pins sh I => (ps_asg peW pgW hs hw h1).run pins sh σ H D I ?_⟩
  refine he.run m τ s σ H _ hL hS (hP.bind hL fun d s1 m1 H1 v e1 hS1 r1 hP1 => ?_)
  split at hP1
  · rename_i τ1 hset
    exact hg.run m1 τ τ1 s1 σ H1 d v _ (hL.mono e1) hS1 r1 hset fun σ2 _ _ hL2 => hP1 m1 H1 σ2 .refl hS1 hL2
  · exact hP1.elim
/-- name op= e -/
def sAug (i : Nat) (o : O2) (fe : EM D) : SM := fun τ st => match τ[i]? with
  | some (some x) => bindE (fe τ st) τ fun y s1 => bindE (o x y s1) τ fun z s2 => .nx (τ.set i (some z)) s2
  | _ => .bad
theorem sx_aug {i : Nat} {x : Str} {pos' : Pos} {op : Operator} {o : O2} (hN : X.N.Nodup) (he : Ex X W e fe) (ho : OpM X W (inplaceOp op) o) (hi : X.N[i]? = some x := by rfl) (hx : Loc X.env.scope x := by first | exact Or.inl rfl | exact Or.inr rfl)
    (hf : X.fn x = true ∨ X.env.scope.names.lookup x = some .local := by first | exact .inl rfl | exact .inr rfl) : Sx X W (.AugAssign (.Name x pos') op e pos) (sAug i o fe) := by
  refine ⟨fun m τ s σ H D hL hS hP pins sh I => ?_⟩
  unfold sAug at hP
  split at hP
  · rename_i d0 hd0
    obtain ⟨v0, h1, h2⟩ := hL.get i d0 hd0
    obtain ⟨mm, hn, hl⟩ := I.loc
    have vis : Vis X.env.scope x := by
      rcases hx with k | k
      · exact .inl k
      · exact .inr (.inl k)
    obtain ⟨u0, r0, l⟩ := hl i x v0 hi h1 vis
    refine wpAny_AugAssign_Name ?_
    have go : wpAny (model X.prog X.w) X.A (eval e X.env) (fun w s₂ => wpAny (model X.prog X.w) X.A (inplaceOp op u0 w) (fun r s₃ => wpAny (model X.prog X.w) X.A (storeName X.env x r) (fun _ => SP X pins D .next) X.xe s₃) X.xe s₂) X.xe sh := by
      refine thn (he.run m τ s σ H (fun y H1 => wR2 X (inplaceOp op) σ v0 y H1 fun z H2 => D.nx (σ.set i (some z)) H2) hL hS (hP.bind hL fun dy s1 m1 H1 y e1 hS1 r1 hP1 pins s v u I rx ry => ?_) pins sh I) fun w s1 ⟨y, H1, I1, r1, q1⟩ => ?_
      · exact ho m1 s1 σ H1 d0 dy v0 y _ hS1 (h2.mono e1) r1 (hP1.bind (hL.mono e1) fun dz s2 m2 H2 z e2 hS2 r2 hP2 => hP2 m2 H2 _ .refl hS2 (((hL.mono e1).mono e2).set i r2)) pins s v u I rx ry
      · refine thn (q1 pins s1 u0 w I1 r0 r1) fun z s2 ⟨zv, H2, I2, r2, q2⟩ => ?_
        exact store_ok I2 hN hi hx r2 (fun s3 I3 => ⟨_, H2, I3, q2⟩) hf
    rcases l with ⟨hk, hm⟩ | ⟨hk, c, hc, hcell⟩
    · exact wpAny_loadName_local I.ok.kind hk hn hm go
    · rcases hk with hk | hk
      · exact wpAny_loadName_cell I.ok.kind hk hc hcell go
      · rcases hx with k | k
        · have : X.env.scope.names.lookup x = some .free := hk
          rw [k] at this
          cases this
        · have : X.env.scope.names.lookup x = some .free := hk
          rw [k] at this
          cases this
  · exact hP.elim
/-- o[i] = e (a list) -/
def oSet : D → D → D → Store → Option Store := fun o i v st => match o, i with
  | .ref n, .int k => match lstAt st n with
    | some xs => match ixN xs.length k with
      | some j => some (st.set n (.lst (xs.set j v)))
      | none => none
    | none => none
  | _, _ => none
/-- the order: the value, then the object, then the index -/
def sSub (fo fi fe : EM D) : SM := fun τ st => bindE (fe τ st) τ fun v s1 => bindE (fo τ s1) τ fun o s2 => bindE (fi τ s2) τ fun i s3 => match oSet o i v s3 with
  | some s4 => .nx τ s4
  | none => .bad
theorem set_read {K : PySem.W.Frag} {m : List Addr} {st st' : Store} {H : Hp} {o i v : D} {vo vi vv : V} (hS : SS K m st H) (ro : RD K m H o vo) (ri : RD K m H i vi) (rv : RD K m H v vv) (h : oSet o i v st = some st') :
    ∃ p xs k j, vo = .ref p ∧ vi = .int k ∧ H p = some (.lst xs) ∧ ixN xs.length k = some j ∧ Ext K m H m (upd H p (.lst (xs.set j vv))) ∧ SS K m st' (upd H p (.lst (xs.set j vv))) := by
  unfold oSet at h
  split at h
  · split at h
    · rename_i xs hx
      split at h
      · rename_i j hj
        cases h
        cases ro with
        | ref q =>
          cases ri
          obtain ⟨vs, h1, h2⟩ := hS.list hx q
          exact ⟨_, vs, _, j, rfl, rfl, h1, by rw [← h2.len]; exact hj, Ext.write h1 q, hS.write h1 q (h2.set rv j)⟩
      · cases h
    · cases h
  · cases h
theorem sx_sub {o i : Expr} {p' : Pos} {fo fi : EM D} (he : Ex X W e fe) (ho : Ex X W o fo) (hi : Ex X W i fi)
    (ha : ∀ v, assign (.Subscript o i p') X.env v = (do
      let ov ← holding [v] (eval o X.env)
      let iv ← holding [v, ov] (eval i X.env)
      standAt p'
      holding [v, ov, iv] (setItem ov iv v)
      release [v, ov, iv] []) := by intro _; rfl)
    (hs : swapsWithSole [.Subscript o i p'] e pos.line X.env = pure false := by rfl) (hw : swappedStores [.Subscript o i p'] e X.env = pure none := by rfl) (h1 : (assignEach [.Subscript o i p'] X.env).map (·.2) = [assign (.Subscript o i p') X.env] := by rfl) : Sx X W (.Assign [.Subscript o i p'] e pos) (sSub fo fi fe) := by
  refine ⟨fun m τ s σ H D hL hS hP pins sh I => (ps_asg peW (pg_sub peW peW set_list ha) hs hw h1).run pins sh σ H D I ?_⟩
  refine he.run m τ s σ H _ hL hS (hP.bind hL fun v s1 m1 H1 vv e1 hS1 r1 hP1 => ?_)
  refine ho.run m1 τ s1 σ H1 _ (hL.mono e1) hS1 (hP1.bind (hL.mono e1) fun o s2 m2 H2 vo e2 hS2 r2 hP2 => ?_)
  refine hi.run m2 τ s2 σ H2 _ ((hL.mono e1).mono e2) hS2 (hP2.bind ((hL.mono e1).mono e2) fun i s3 m3 H3 vi e3 hS3 r3 hP3 => ?_)
  split at hP3
  · rename_i s4 h4
    obtain ⟨p, xs, k, j, q1, q2, q3, q4, q5, q6⟩ := set_read hS3 (r2.mono e3) r3 ((r1.mono e2).mono e3) h4
    exact ⟨p, xs, k, j, q1, q2, q3, q4, hP3 m3 _ σ q5 q6 ((((hL.mono e1).mono e2).mono e3).mono q5)⟩
  · exact hP3.elim
/-- o[i] op= e -/
def oGetL : O2 := fun x i st => match x, i with
  | .ref n, .int k => match lstAt st n with
    | some xs => match atI xs k with
      | some d => .ok d st
      | none => .bad
    | none => .bad
  | _, _ => .bad
def sAugS (o : O2) (fo fi fe : EM D) : SM := fun τ st => bindE (fo τ st) τ fun x s1 => bindE (fi τ s1) τ fun i s2 => bindE (oGetL x i s2) τ fun y s3 => bindE (fe τ s3) τ fun z s4 => bindE (o y z s4) τ fun v s5 => match oSet x i v s5 with
  | some s6 => .nx τ s6
  | none => .bad
theorem get_list : PGet X (rIxL X.K) := by
  intro pins s σ H x y v u Q I rx ry h
  obtain ⟨p, xs, i, z, rfl, rfl, hq, he, q⟩ := h
  cases rx
  obtain ⟨t, rfl⟩ := ry
  obtain ⟨its, r, pl, hz⟩ := I.list hq
  obtain ⟨j, h1, h2, h3, h4, h5⟩ := atI_get he
  obtain ⟨w, ew, rw'⟩ := r.get h2
  have hl := r.length
  have hn := line63
  have fin : EP X pins σ Q w s := ⟨z, H, I, rw', q⟩
  by_cases h0 : 0 ≤ i
  · have hj : i.toNat = j := by
      rw [seqIndex_of h0 h5] at h1
      exact Option.some.inj h1
    exact wpAny_getItem_list pl.isList h0 (by omega) (by rw [hj]; simpa using ew) fin
  · have hj : (i + (its.toArray.size : Int)).toNat = j := by
      rw [seqIndex_neg (by omega) h4] at h1
      rw [List.size_toArray, ← hl]
      exact Option.some.inj h1
    exact wpAny_getItem_list_neg pl.isList (by omega) (by rw [List.size_toArray] <;> omega) (by omega) (by rw [hj]; simpa using ew) fin
theorem getL_read {K : PySem.W.Frag} {E : XK} {m : List Addr} {st : Store} {H : Hp} {x i : D} {vx vi : V} {Q : VK} (hS : SS K m st H) (rx : RD K m H x vx) (ri : RD K m H i vi) (h : Pe K E (RD K) m H (oGetL x i st) Q) : rIxL K vx vi H Q := by
  unfold oGetL at h
  split at h
  · split at h
    · split at h
      · rename_i xs hx _ d hd
        cases rx with
        | ref q =>
          cases ri
          obtain ⟨vs, h1, h2⟩ := hS.list hx q
          obtain ⟨v, h3, h4⟩ := atI_rds h2 hd
          exact ⟨_, vs, _, v, rfl, rfl, SqL.of h1, h3, h.now hS h4⟩
      · exact h.elim
    · exact h.elim
  · exact h.elim
theorem sx_augS {o i : Expr} {p' : Pos} {fo fi : EM D} {op : Operator} {op2 : O2} (ho : Ex X W o fo) (hi : Ex X W i fi) (he : Ex X W e fe) (hop : OpM X W (inplaceOp op) op2)
    (ha : ∀ ov iv new, augStore i ov iv new = (do holding [new, ov, iv] (setItem ov iv new); release [new, ov, iv] []; pure .next) := by intros; rfl) : Sx X W (.AugAssign (.Subscript o i p') op e pos) (sAugS op2 fo fi fe) := by
  refine ⟨fun m τ s σ H D hL hS hP pins sh I => ?_⟩
  have read : wE X o σ H fun vo H1 => wE X i σ H1 fun vi H2 => rIxL X.K vo vi H2 fun vy H3 => wE X e σ H3 fun vz H4 => wR2 X (inplaceOp op) σ vy vz H4 fun vv H5 => rSetL vo vi vv H5 fun H6 => D.nx σ H6 := by
    refine ho.run m τ s σ H _ hL hS (hP.bind hL fun dx s1 m1 H1 vx e1 hS1 r1 hP1 => ?_)
    have hL1 := hL.mono e1
    refine hi.run m1 τ s1 σ H1 _ hL1 hS1 (hP1.bind hL1 fun di s2 m2 H2 vi e2 hS2 r2 hP2 => ?_)
    have hL2 := hL1.mono e2
    refine getL_read hS2 (r1.mono e2) r2 (hP2.bind hL2 fun dy s3 m3 H3 vy e3 hS3 r3 hP3 => ?_)
    have hL3 := hL2.mono e3
    refine he.run m3 τ s3 σ H3 _ hL3 hS3 (hP3.bind hL3 fun dz s4 m4 H4 vz e4 hS4 r4 hP4 => ?_)
    have hL4 := hL3.mono e4
    intro pins s v u I rv ru
    refine hop m4 s4 σ H4 dy dz vy vz _ hS4 (r3.mono e4) r4 (hP4.bind hL4 fun dv s5 m5 H5 vv e5 hS5 r5 hP5 => ?_) pins s v u I rv ru
    have hL5 := hL4.mono e5
    split at hP5
    · rename_i s6 h6
      have e25 := ((e3.trans e4).trans e5)
      obtain ⟨p, xs, k, j, q1, q2, q3, q4, q5, q6⟩ := set_read hS5 ((r1.mono e2).mono e25) (r2.mono e25) r5 h6
      exact ⟨p, xs, k, j, q1, q2, q3, q4, hP5 m5 _ σ q5 q6 (hL5.mono q5)⟩
    · exact hP5.elim
  refine wpAny_AugAssign_SubscriptAny (thn (read pins sh I) fun ov s1 ⟨x1, H1, I1, r1, q1⟩ => ?_) ha
  refine thn (q1 pins s1 I1) fun iv s2 ⟨x2, H2, I2, r2, q2⟩ => ?_
  refine thn (get_list pins s2 σ H2 x1 x2 ov iv _ I2 r1 r2 q2) fun old s3 ⟨x3, H3, I3, r3, q3⟩ => ?_
  refine thn (q3 pins s3 I3) fun v s4 ⟨x4, H4, I4, r4, q4⟩ => ?_
  refine thn (q4 pins s4 old v I4 r3 r4) fun new s5 ⟨x5, H5, I5, r5, q5⟩ => ?_
  exact thn (set_list pins s5 σ H5 x1 x2 x5 ov iv new _ I5 r1 r2 r5 q5) fun _ s6 ⟨H6, I6, q6⟩ => ⟨σ, H6, I6, q6⟩
/-! ### loops -/
def forL (q : Sq) (set : D → Sl → Option Sl) (body : SM) : List D → SM
  | [], τ, st => if q.chk st then .nx τ st else .bad
  | d :: ds, τ, st => if q.chk st then match set d τ with
    | some τ1 => match body τ1 st with
      | .nx τ2 s2 => forL q set body ds τ2 s2
      | .ct τ2 s2 => forL q set body ds τ2 s2
      | .bk τ2 s2 => .nx τ2 s2
      | r => r
    | none => .bad
  else .bad
def sFor (fi : EM Sq) (set : D → Sl → Option Sl) (body : SM) : SM := fun τ st => bindE (fi τ st) τ fun q s1 => forL q set body q.items τ s1
theorem sx_for {tg iter : Expr} {ix : List Nat} {set : D → Sl → Option Sl} {fi : EM Sq} (hp : PassesOwn (model X.prog X.w) X.A X.env X.xe) (hc : X.calm = true) (hi : Ei X W tg iter fi) (hg : Eg X tg ix set) (hb : Sxs X W body f) (hs : ∀ x, foldedSetIterable iter X.env x = pure x := by intro _; rfl) : Sx X W (.For tg iter body [] pos) (sFor fi set f) := by
  refine ⟨fun m τ s σ H D hL hS hP pins sh I => (ps_for hp hc piW pgW pssW hs).run pins sh σ H D I ?_⟩
  refine hi.run m τ s σ H _ hL hS (hP.bind hL fun q s1 m1 H1 J e1 hS1 hJ hP1 => ?_)
  refine ⟨fun i k σ H => k = q.items.length - i ∧ i ≤ q.items.length ∧ ∃ (m : List Addr) (τ : Sl) (st : Store), Ext X.K m1 H1 m H ∧ SS X.K m st H ∧ SL X.K m H τ σ ∧ Ps X.K W m H (forL q set f (q.items.drop i) τ st) D, ⟨_, rfl, Nat.zero_le _, m1, τ, s1, .refl, hS1, hL.mono e1, by rw [List.drop_zero]; exact hP1⟩, ?_⟩
  rintro i k σ H ⟨rfl, hi, m, τ, st, e, hS, hL, hP⟩
  by_cases hlt : i < q.items.length
  · rw [List.drop_eq_getElem_cons hlt] at hP
    unfold forL at hP
    split at hP
    · rename_i hc
      obtain ⟨hgo, _⟩ := hJ m H st e hS hc
      obtain ⟨go, yl⟩ := hgo i q.items[i] (by simp [hlt])
      split at hP
      · rename_i τ1 hset
        refine .inr ⟨go, fun σ' H' => i + 1 ≤ q.items.length ∧ ∃ (m : List Addr) (τ : Sl) (st : Store), Ext X.K m1 H1 m H' ∧ SS X.K m st H' ∧ SL X.K m H' τ σ' ∧ Ps X.K W m H' (forL q set f (q.items.drop (i + 1)) τ st) D, fun σ' H' h => ⟨q.items.length - (i + 1), by omega, rfl, h⟩, fun x H' hy => ?_⟩
        obtain ⟨e2, s2, r2⟩ := yl x H' hy
        refine hg.run m τ τ1 st σ H' _ x _ (hL.mono e2) s2 r2 hset fun σ2 _ _ hL2 => ?_
        refine hb.run m τ1 st σ2 H' _ hL2 s2 ?_
        have hP := hP.up e2
        cases hq : f τ1 st with
        | nx τ2 s3 =>
          rw [hq] at hP
          exact fun m3 H3 σ3 e3 hS3 hL3 => ⟨by omega, m3, τ2, s3, e.trans (e2.trans e3), hS3, hL3, hP.up e3⟩
        | ct τ2 s3 =>
          rw [hq] at hP
          exact fun m3 H3 σ3 e3 hS3 hL3 => ⟨by omega, m3, τ2, s3, e.trans (e2.trans e3), hS3, hL3, hP.up e3⟩
        | bk τ2 s3 =>
          rw [hq] at hP
          exact hP
        | rt d s3 =>
          rw [hq] at hP
          exact hP
        | exc x τ2 s3 =>
          rw [hq] at hP
          exact hP
        | bad =>
          rw [hq] at hP
          exact hP
      · exact hP.elim
    · exact hP.elim
  · have e0 : i = q.items.length := by omega
    subst e0
    rw [List.drop_length] at hP
    unfold forL at hP
    split at hP
    · rename_i hc
      obtain ⟨_, stop⟩ := hJ m H st e hS hc
      exact .inl ⟨stop, hP m H σ .refl hS hL⟩
    · exact hP.elim
/-- more turns than any loop here takes -/
@[irreducible] def big : Nat := 2 ^ 20000
theorem le_big {k n : Nat} (hk : k ≤ 20000) (h : n ≤ 2 ^ k) : n ≤ big := by
  unfold big
  exact Nat.le_trans h (Nat.pow_le_pow_right (by decide) hk)
/-- while, at most n turns -/
def whileN (g : EM Bool) (body : SM) : Nat → SM
  | 0, _, _ => .bad
  | n + 1, τ, st => bindE (g τ st) τ fun b s1 => if b then match body τ s1 with
      | .nx τ2 s2 => whileN g body n τ2 s2
      | .ct τ2 s2 => whileN g body n τ2 s2
      | .bk τ2 s2 => .nx τ2 s2
      | r => r
    else .nx τ s1
theorem sx_while {c : Expr} (n : Nat) (hp : PassesOwn (model X.prog X.w) X.A X.env X.xe) (hc : Et X W c g) (hb : Sxs X W body f) : Sx X W (.While c body [] pos) (whileN g f n) := by
  refine ⟨fun m τ s σ H D hL hS hP pins sh I => (ps_while hp ptW pssW).run pins sh σ H D I ?_⟩
  refine ⟨fun k σ H => ∃ (m : List Addr) (τ : Sl) (st : Store), SS X.K m st H ∧ SL X.K m H τ σ ∧ Ps X.K W m H (whileN g f k τ st) D, ⟨n, m, τ, s, hS, hL, hP⟩, ?_⟩
  rintro k σ H ⟨m, τ, st, hS, hL, hP⟩
  cases k with
  | zero => exact hP.elim
  | succ k =>
    refine hc.run m τ st σ H _ hL hS (hP.bind hL fun b s1 m1 H1 b' e1 hS1 r1 hP1 => ?_)
    subst r1
    cases b with
    | false => exact iteF (hP1 m1 H1 σ .refl hS1 (hL.mono e1))
    | true =>
      refine iteT ⟨fun σ' H' => ∃ (m : List Addr) (τ : Sl) (st : Store), SS X.K m st H' ∧ SL X.K m H' τ σ' ∧ Ps X.K W m H' (whileN g f k τ st) D, fun σ' H' h => ⟨k, Nat.lt_succ_self k, h⟩, ?_⟩
      refine hb.run m1 τ s1 σ H1 _ (hL.mono e1) hS1 ?_
      have hP1 : Ps X.K W m1 H1 (match f τ s1 with
        | .nx τ2 s2 => whileN g f k τ2 s2
        | .ct τ2 s2 => whileN g f k τ2 s2
        | .bk τ2 s2 => .nx τ2 s2
        | r => r) D := hP1
      cases hq : f τ s1 with
      | nx τ2 s3 =>
        rw [hq] at hP1
        exact fun m3 H3 σ3 e3 hS3 hL3 => ⟨m3, τ2, s3, hS3, hL3, hP1.up e3⟩
      | ct τ2 s3 =>
        rw [hq] at hP1
        exact fun m3 H3 σ3 e3 hS3 hL3 => ⟨m3, τ2, s3, hS3, hL3, hP1.up e3⟩
      | bk τ2 s3 =>
        rw [hq] at hP1
        exact hP1
      | rt d s3 =>
        rw [hq] at hP1
        exact hP1
      | exc x τ2 s3 =>
        rw [hq] at hP1
        exact hP1
      | bad =>
        rw [hq] at hP1
        exact hP1
end
end HM

/-! HM, part 7: raise, try; defs; the law's end. -/
namespace HM
open PySem PySem.Spec PyProof.Rows L2
section
variable {X : Cx} {W : WX} {e a b c : Expr} {es rest : List Expr} {pos p : Pos} {fa fb fc fe : EM D} {fs : EM (List D)} {g ga gb : EM Bool} {s1 : Stmt} {ss body suite : List Stmt} {f h k : SM}
def sRaise (x : Xc) : SM := fun τ st => .exc x τ st
theorem sx_raiseB {T N I : String} {x : Str} {m : Str} {j : Nat} {p2 pos' : Pos} (hc : X.calm = true) (tk : Takes X W) (F : ExcB T N I) (hg : Gl X x) (hm : X.mg x = none) (hv : bootBuiltins x = some (.type T)) (hn : x ≠ "__name__" := by decide) (hdb : (x == ("__debug__" : Str)) = false := by decide) :
    Sx X W (.Raise (some (.Call (.Name x p) [.Constant (.str m) j p2] [] pos)) none pos') (sRaise ⟨.ty T, []⟩) :=
  ⟨fun m τ s σ H D hL hS hP pins sh I => (ps_raiseB hc tk F hg hm hv hn hdb).run pins sh σ H D I (hP m H σ _ _ .refl hS hL ⟨rfl, rfl⟩)⟩
def sTry (f : SM) (mt : D → Option Bool) (h : SM) : SM := fun τ st => match f τ st with
  | .exc x τ1 s1 => match mt x.cls with
    | some true => h τ1 s1
    | some false => .exc x τ1 s1
    | none => .bad
  | r => r
theorem sx_try {x : Str} {c : Value} {b₀ : Stmt} {np pos' : Pos} {mt : D → Option Bool} (hs : X.stack = X.env :: X.outer) (hf : X.env.frame = some X.env.locals) (hc : Names X x c) (tk : Takes X W) (hmt : ∀ (m : List Addr) (H : Hp) (y : Xc) (cls : Value) (d : Option Addr) (b : Bool), XR X.K m H y cls d → mt y.cls = some b → PySem.W.exmOne X.K cls c = some b)
    (hb : ∀ (W : WX) (pn : List (Addr × Obj)) (xe : Value → Shared → Prop), Takes (X.tr pn xe) W → PassesOwn (model X.prog X.w) X.A X.env xe → Sxs (X.tr pn xe) W body f)
    (hsu : ∀ (a : Addr) (oe : Obj) (pn : List (Addr × Obj)), Sxs (X.suite a ((a, oe) :: pn)) (fun _ _ _ _ => False) (b₀ :: suite) h)
    (hno : ∀ τ st x τ1 s1, h τ st ≠ .exc x τ1 s1) : Sx X W (.Try body [.ExceptHandler (some (.Name x np)) none (b₀ :: suite) pos'] [] [] pos) (sTry f mt h) := by
  refine ⟨fun m τ s σ H D hL hS hP pins sh I => ?_⟩
  refine (ps_try_only (tb := fun W => fun D σ H => ∀ (pn : List (Addr × Obj)) (xe : Value → Shared → Prop), Takes (X.tr pn xe) W → PassesOwn (model X.prog X.w) X.A X.env xe → wSs (X.tr pn xe) body D σ H)
    (ts := fun a cls d => fun D σ H => ∀ (oe : Obj) (pn : List (Addr × Obj)), wSs (X.suite a ((a, oe) :: pn)) (b₀ :: suite) D σ H) hs hf hc tk (fun W pn xe t1 t2 => ⟨fun pins s σ H D I h => h pn xe t1 t2 pins s I⟩) (fun a oe cls d pn _ _ => ⟨fun pins s σ H D I h => h oe pn pins s I⟩)).run pins sh σ H D I ?_
  intro pn xe t1 t2
  refine (hb _ pn xe t1 t2).run m τ s σ H D hL hS ?_
  unfold sTry at hP
  cases hq : f τ s with
  | exc y τ1 s1 =>
    rw [hq] at hP
    intro m1 H1 σ1 cls d e1 hS1 hL1 hX
    have hP : Ps X.K W m H (match mt y.cls with
      | some true => h τ1 s1
      | some false => .exc y τ1 s1
      | none => .bad) D := hP
    cases hm : mt y.cls with
    | none =>
      rw [hm] at hP
      exact hP.elim
    | some b =>
      rw [hm] at hP
      refine ⟨b, hmt m1 H1 y cls d b hX hm, fun hb' a na oe pn => ?_, fun hb' => ?_⟩
      · subst hb'
        refine (hsu a oe pn).run m1 τ1 s1 σ1 H1 D hL1 hS1 ?_
        have hP := hP.up e1
        cases hh : h τ1 s1 with
        | exc x τ2 s2 => exact absurd hh (hno _ _ _ _ _)
        | nx _ _ =>
          have hP : Ps X.K W m1 H1 (h τ1 s1) D := hP
          rw [hh] at hP
          exact hP
        | bk _ _ =>
          have hP : Ps X.K W m1 H1 (h τ1 s1) D := hP
          rw [hh] at hP
          exact hP
        | ct _ _ =>
          have hP : Ps X.K W m1 H1 (h τ1 s1) D := hP
          rw [hh] at hP
          exact hP
        | rt _ _ =>
          have hP : Ps X.K W m1 H1 (h τ1 s1) D := hP
          rw [hh] at hP
          exact hP
        | bad =>
          have hP : Ps X.K W m1 H1 (h τ1 s1) D := hP
          rw [hh] at hP
          exact hP
      · subst hb'
        exact hP m1 H1 σ1 cls d e1 hS1 hL1 hX
  | nx _ _ =>
    rw [hq] at hP
    exact hP
  | bk _ _ =>
    rw [hq] at hP
    exact hP
  | ct _ _ =>
    rw [hq] at hP
    exact hP
  | rt _ _ =>
    rw [hq] at hP
    exact hP
  | bad =>
    rw [hq] at hP
    exact hP
end

/-- does a built-in class catch -/
def mtB (T : String) : D → Option Bool
  | .ty n => if n = T then some true else none
  | _ => none
theorem mtB_of {K : PySem.W.Frag} {T : String} (h : PySem.W.exmOne K (.type T) (.type T) = some true) (m : List Addr) (H : Hp) (y : Xc) (cls : Value) (d : Option Addr) (b : Bool) (hx : XR K m H y cls d) (hm : mtB T y.cls = some b) : PySem.W.exmOne K cls (.type T) = some b := by
  unfold mtB at hm
  split at hm
  · rename_i n e
    split at hm
    · rename_i hn
      subst hn
      cases hm
      unfold XR at hx
      rw [e] at hx
      obtain ⟨rfl, _⟩ := hx
      exact h
    · cases hm
  · cases hm
theorem mtB_ZeroDivisionError {K : PySem.W.Frag} : ∀ (m : List Addr) (H : Hp) (y : Xc) (cls : Value) (d : Option Addr) (b : Bool), XR K m H y cls d → mtB "ZeroDivisionError" y.cls = some b → PySem.W.exmOne K cls (.type "ZeroDivisionError") = some b := mtB_of (by kernel_rfl)
/-! ### defs -/
/-- the slots at a def's entry -/
def ent (n : Nat) (ds : List D) : Sl := ds.map some ++ List.replicate (n - ds.length) none
def runB (n : Nat) (fb : SM) : FM := fun ds st => match fb (ent n ds) st with
  | .nx _ s => .ok .non s
  | .rt d s => .ok d s
  | .exc x _ s => .exc x s
  | _ => .bad
theorem SL.start {K : PySem.W.Frag} {m : List Addr} {H : Hp} {N : List Str} {ds : List D} {vs : List V} (r : RDs K m H ds vs) : SL K m H (ent N.length ds) (L2.start N vs) where
  len := by simp [ent, L2.start, r.len]
  get := fun i d h => by
    unfold ent at h
    by_cases hi : i < ds.length
    · rw [List.getElem?_append_left (by simpa using hi), List.getElem?_map] at h
      cases hd : ds[i]? with
      | none =>
        rw [hd] at h
        cases h
      | some d' =>
        rw [hd] at h
        simp only [Option.map_some, Option.some.injEq] at h
        subst h
        obtain ⟨v, h1, h2⟩ := r.get hd
        refine ⟨v, ?_, h2⟩
        unfold L2.start
        rw [List.getElem?_append_left (by simpa [← r.len] using hi), List.getElem?_map, h1]
        rfl
    · rw [List.getElem?_append_right (by simpa using hi)] at h
      have z := List.mem_of_getElem? h
      have z2 := List.eq_of_mem_replicate z
      cases z2
section
variable {P : Program} {w : World} {K : PySem.W.Frag} {mg : Str → Option Value} {base : Heap} {x qual : Str} {params : Arguments} {body : List Stmt} {scope : Scope} {dvs : List V} {kws : List (Str × V)} {f : Addr} {fd : FuncData} {N ps : List Str} {k : Nat} {fb : SM}
/-- the context of a def's body -/
abbrev Cd (P : Program) (w : World) (K : PySem.W.Frag) (mg : Str → Option Value) (base : Heap) (N : List Str) (qual : Str) (scope : Scope) (f : Addr) (k : Nat) (B : Cx → WX → Prop) : Prop :=
  ∀ (cdv : Value) (A : Around) (outer : List Env) (s : Shared) (H : Hp) (E : XK), Room k (A.deeper (envOfC qual scope s.heap.objs.size f cdv)) → B (cxOf (L2.CX P w) P w K mg base N qual scope f cdv A outer s H E) (fun c d _ H => E c d H)
theorem fn_def (F : FunD K x qual params body scope dvs kws f fd) (S : FnScope N ps scope)
    (hb : ∀ (cdv : Value) (A : Around) (outer : List Env) (s : Shared) (H : Hp) (E : XK), Room k (A.deeper (envOfC qual scope s.heap.objs.size f cdv)) → Takes (cxOf (L2.CX P w) P w K mg base N qual scope f cdv A outer s H E) (fun c d _ H => E c d H) →
      PassesOwn (model P w) (A.deeper (envOfC qual scope s.heap.objs.size f cdv)) (envOfC qual scope s.heap.objs.size f cdv) (cxOf (L2.CX P w) P w K mg base N qual scope f cdv A outer s H E).xe →
      Sxs (cxOf (L2.CX P w) P w K mg base N qual scope f cdv A outer s H E) (fun c d _ H => E c d H) body fb) : FnM P w K mg base (k + 1) f fd ps (runB N.length fb) := by
  refine F.ok S (fun vs H Q E ⟨m, st, ds, hl, hS, r, _⟩ => by rw [← r.len, hl]) (fun cdv A outer s H vs Q E hr ⟨m, st, ds, hl, hS, r, hP⟩ => ?_)
  refine ⟨_, pssW, (hb cdv A outer s H E hr (takes_of rfl rfl rfl rfl) (passes_of rfl)).run m (ent N.length ds) st (L2.start N vs) H _ (SL.start r) hS ?_⟩
  unfold runB at hP
  cases hq : fb (ent N.length ds) st with
  | nx τ s1 =>
    rw [hq] at hP
    exact fun m1 H1 σ e1 hS1 hL1 => hP m1 H1 .non e1 hS1 .non
  | rt d s1 =>
    rw [hq] at hP
    exact hP
  | exc x τ s1 =>
    rw [hq] at hP
    exact fun m1 H1 σ c d e1 hS1 hL1 hX => hP m1 H1 c d e1 hS1 hX
  | bk τ s1 =>
    rw [hq] at hP
    exact hP.elim
  | ct τ s1 =>
    rw [hq] at hP
    exact hP.elim
  | bad =>
    rw [hq] at hP
    exact hP.elim
end

/-! ### what a def leaves behind may be forgotten -/
mutual
def D.lo (k : Nat) : D → Bool
  | .ref n => decide (n < k)
  | .tup xs => D.loAll k xs
  | .rol xs => D.loAll k xs
  | _ => true
def D.loAll (k : Nat) : List D → Bool
  | [] => true
  | d :: ds => D.lo k d && D.loAll k ds
end
def Cell.lo (k : Nat) : Cell → Bool
  | .lst xs => D.loAll k xs
section
variable {K : PySem.W.Frag} {m : List Addr} {H : Hp}
mutual
theorem RD.take {k : Nat} : ∀ {d : D} {v : V}, RD K m H d v → d.lo k = true → RD K (m.take k) H d v
  | _, _, .non, _ => .non
  | _, _, .bl b, _ => .bl b
  | _, _, .int i, _ => .int i
  | _, _, .str x, _ => .str x
  | _, _, .ty n, _ => .ty n
  | _, _, .adr a, _ => .adr a
  | _, _, .tup h r, q => .tup h (RDs.takeA r (by simpa only [D.lo] using q))
  | _, _, .rol h r, q => .rol h (RDs.takeA r (by simpa only [D.lo] using q))
  | _, _, .ref (n := n) h, q => .ref (by
    have z : n < k := of_decide_eq_true (by simpa only [D.lo] using q)
    rw [List.getElem?_take_of_lt z]
    exact h)
theorem RDs.takeA {k : Nat} : ∀ {ds : List D} {vs : List V}, RDs K m H ds vs → D.loAll k ds = true → RDs K (m.take k) H ds vs
  | _, _, .nil, _ => .nil
  | _, _, .cons h r, q => by
    simp only [D.loAll, Bool.and_eq_true] at q
    exact .cons (RD.take h q.1) (RDs.takeA r q.2)
end
mutual
theorem RD.is_lo {k : Nat} (hk : m.length ≤ k) : ∀ {d : D} {v : V}, RD K m H d v → d.lo k = true
  | _, _, .non => rfl
  | _, _, .bl b => rfl
  | _, _, .int i => rfl
  | _, _, .str x => rfl
  | _, _, .ty n => rfl
  | _, _, .adr a => rfl
  | _, _, .tup h r => by simpa only [D.lo] using RDs.is_lo hk r
  | _, _, .rol h r => by simpa only [D.lo] using RDs.is_lo hk r
  | _, _, .ref h => by
    simp only [D.lo, decide_eq_true_eq]
    exact Nat.lt_of_lt_of_le (List.getElem?_eq_some_iff.mp h).1 hk
theorem RDs.is_lo {k : Nat} (hk : m.length ≤ k) : ∀ {ds : List D} {vs : List V}, RDs K m H ds vs → D.loAll k ds = true
  | _, _, .nil => rfl
  | _, _, .cons h r => by simp only [D.loAll, RD.is_lo hk h, RDs.is_lo hk r, Bool.and_self]
end
theorem RC.is_lo {k : Nat} {a : Addr} {c : Cell} (hk : m.length ≤ k) (r : RC K m H a c) : c.lo k = true := by
  cases c with
  | lst ds =>
    obtain ⟨vs, _, r⟩ := r
    exact r.is_lo hk
theorem RC.take {k : Nat} {a : Addr} {c : Cell} (r : RC K m H a c) (h : c.lo k = true) : RC K (m.take k) H a c := by
  cases c with
  | lst ds =>
    obtain ⟨vs, q, r⟩ := r
    exact ⟨vs, q, r.takeA h⟩
/-- r' says no more than r, or the same with a shorter store -/
inductive Le (st : Store) : ER D → ER D → Prop
  | bad (r : ER D) : Le st r .bad
  | refl (r : ER D) : Le st r r
  | gc {v : D} {s1 : Store} (k : Nat) (hk : st.length ≤ k) (hv : v.lo k = true) (hc : ∀ (i : Nat) (c : Cell), i < k → s1[i]? = some c → st[i]? = some c ∨ c.lo k = true) : Le st (.ok v s1) (.ok v (s1.take k))
theorem Le.pe {E : XK} {st : Store} {r r' : ER D} {Q : VK} (l : Le st r r') (s : SS K m st H) (h : Pe K E (RD K) m H r' Q) : Pe K E (RD K) m H r Q := by
  cases l with
  | bad r => exact h.elim
  | refl r => exact h
  | @gc v s1 k hk hv hc =>
    intro m1 H1 b e1 hS1 r1
    refine h (m1.take k) H1 b ⟨⟨fun n a q => ?_, e1.tup, e1.fzl⟩, e1.frm, fun a q n => e1.new a (List.mem_of_mem_take q) n⟩ ⟨?_, ?_, fun n c a q1 q2 => ?_⟩ (r1.take hv)
    · have hl : n < m.length := (List.getElem?_eq_some_iff.mp q).1
      rw [s.len] at hl
      rw [List.getElem?_take_of_lt (Nat.lt_of_lt_of_le hl hk)]
      exact e1.pre n a q
    · rw [List.length_take, List.length_take, hS1.len]
    · exact hS1.nd.sublist (List.take_sublist _ _)
    · have hn : n < k := by
        have z := (List.getElem?_eq_some_iff.mp q1).1
        rw [List.length_take] at z
        omega
      rw [List.getElem?_take_of_lt hn] at q1 q2
      refine (hS1.cel n c a q1 q2).take ?_
      rcases hc n c hn q1 with z | z
      · obtain ⟨a0, _, r0⟩ := s.at z
        exact r0.is_lo (by rw [s.len]; exact hk)
      · exact z
theorem FnM.le {P : Program} {w : World} {mg : Str → Option Value} {base : Heap} {k : Nat} {f : Addr} {fd : FuncData} {ps : List Str} {mf sf : FM} (F : FnM P w K mg base k f fd ps mf) (h : ∀ ds st, Le st (mf ds st) (sf ds st)) : FnM P w K mg base k f fd ps sf :=
  FnOk.imp F fun vs H Q E ⟨m, st, ds, hl, hS, r, hP⟩ => ⟨m, st, ds, hl, hS, r, (h ds st).pe hS hP⟩
/-- a value without the store, the store but for what was laid on it -/
theorem Le.app {st more : Store} {v : D} (hv : v.lo st.length = true) : Le st (.ok v (st ++ more)) (.ok v st) := by
  have z := Le.gc (st := st) (v := v) (s1 := st ++ more) st.length (Nat.le_refl _) hv fun i c hi h => by
    rw [List.getElem?_append_left hi] at h
    exact .inl h
  rw [List.take_left] at z
  exact z
end

/-! ### the law -/
theorem law_sp {K : PySem.W.Frag} {mf : FM} {n : Nat} (h : ∀ ns : List Int, ns.length ≤ n → ∃ st, mf [.rol (ns.map D.int)] [] = .ok (.bl true) st) (H : Hp) (a : Addr) (ns : List Int) (hl : ns.length ≤ n) (ho : Only H) (hS : SqL K H a (ns.map V.int)) :
    spM K 1 mf [V.ref a] H (fun v _ => v = .bl true) (fun _ _ _ => False) := by
  obtain ⟨st, e⟩ := h ns hl
  refine ⟨[], [], [.rol (ns.map D.int)], rfl, ⟨rfl, .nil, fun n c a q => by simp at q⟩, .cons (.rol (FzL.of hS fun ys z => ?_) (RDs.ints ns)) .nil, ?_⟩
  · rcases ho a with q | ⟨o, xs, q⟩
    · rw [q] at z
      cases z
    · rw [q] at z
      cases z
  · rw [e]
    intro m' H' b _ _ r
    cases r
    rfl
end HM

/-! HM, part 8: defs as they are called; what a text is put together of. -/
namespace HM
open PySem PySem.Spec PyProof.Rows L2
section
variable {X : Cx} {W : WX} {e a b c : Expr} {es rest : List Expr} {pos p : Pos} {fa fb fc fe : EM D} {fs : EM (List D)} {g ga gb : EM Bool} {s1 : Stmt} {ss body suite : List Stmt} {f h k : SM}
/-- a name = [..] on one line -/
theorem sx_setLc {i : Nat} {y : Str} {py spos : Pos} {tg elt iter : Expr} {ifs : List Expr} {scope : Scope} {own : List (Str × Nat)} {ix : List Nat} {set : D → Sl → Option Sl} {ft : EM Bool} {fe : EM D} {fi : EM Sq} (hc : X.calm = true) (hN : X.N.Nodup) (hi : Ei X W tg iter fi) (ok : BlkOk X.N X.env.scope scope own)
    (hg : BEg X scope tg ix set) (ht : BEt X scope ifs ft) (he : BEx X scope elt fe) (hy : X.N[i]? = some y := by rfl) (hyl : X.env.scope.names.lookup y = some .local := by rfl)
    (hsw : swapsWith (.ListComp elt [⟨tg, iter, ifs, 0⟩] scope pos) (some (.Name y py)) spos.line X.env = pure true := by exact sw_true rfl rfl rfl (by decide +kernel)) (hown : ∀ i ∈ ix, i ∈ own.map (·.2) := by decide) (hs : ∀ x, foldedSetIterable iter X.env x = pure x := by intro _; rfl) :
    Sx X W (.Assign [.Name y py] (.ListComp elt [⟨tg, iter, ifs, 0⟩] scope pos) spos) (sSet i (eEl (lComp (own.map (·.2)) fi set ft fe))) := by
  refine ⟨fun m τ st σ H D hL hS hP pins s I => ?_⟩
  refine (ps_setLc (g := gAll X scope tg) (tt := tAll X scope ifs) (te := eAll X scope elt) hc hN hy hyl hsw piW ok ?_ ?_ ?_ hs).run pins s σ H D I (comp_post hi hown hg ht he hL hS ?_)
  · exact fun s H C cl fp => ⟨fun pins s' σ H' v u Q I r h => h s H C cl fp pins s' u I r⟩
  · exact fun s H C cl fp => ⟨fun pins s' σ H' Q I h => h s H C cl fp pins s' I⟩
  · exact fun s H C cl fp => ⟨fun pins s' σ H' Q I h => h s H C cl fp pins s' I⟩
  · unfold sSet eEl at hP
    cases hq : lComp (own.map (·.2)) fi set ft fe τ st with
    | ok ds s1 =>
      rw [hq] at hP
      intro m1 H1 v e1 hS1 ⟨a, vs, e, ha, na, hn, rs⟩
      subst e
      have e2 := e1.own hn
      have r2 : RD X.K (m1 ++ [a]) H1 (.ref s1.length) (.ref a) := .ref (by
        rw [← hS1.len]
        simp)
      exact hP (m1 ++ [a]) H1 _ e2 (hS1.grow na ⟨vs, ha, rs.kp Kp.grow⟩) ((hL.mono e2).set i r2)
    | exc x st' =>
      rw [hq] at hP
      exact fun m' H' c d e s q => hP m' H' σ c d e s (hL.mono e) q
    | bad =>
      rw [hq] at hP
      exact hP.elim

/-! ### defs by name -/
structure Cal (P : Program) (w : World) (K : PySem.W.Frag) (mg : Str → Option Value) (base : Heap) (x : Str) (k : Nat) (ps : List Str) (mf : FM) : Prop where
  ex : ∃ (f : Addr) (fd : FuncData), FnM P w K mg base k f fd ps mf ∧ mg x = some (.ref f) ∧ PySem.W.keepIn K (.ref f) = true ∧ Binds K fd ps [] ∧ ∃ oc od osl, K.lookup f = some ⟨oc, od, .func fd, osl⟩
theorem Cal.le {P : Program} {w : World} {K : PySem.W.Frag} {mg : Str → Option Value} {base : Heap} {x : Str} {k : Nat} {ps : List Str} {mf sf : FM} (c : Cal P w K mg base x k ps mf) (h : ∀ ds st, Le st (mf ds st) (sf ds st)) : Cal P w K mg base x k ps sf := by
  obtain ⟨f, fd, F, r⟩ := c.ex
  exact ⟨f, fd, F.le h, r⟩
theorem Cal.mono {P : Program} {w : World} {K : PySem.W.Frag} {mg : Str → Option Value} {base : Heap} {x : Str} {j k : Nat} {ps : List Str} {mf : FM} (c : Cal P w K mg base x j ps mf) (h : j ≤ k) : Cal P w K mg base x k ps mf := by
  obtain ⟨f, fd, F, r⟩ := c.ex
  exact ⟨f, fd, FnOk.mono F h, r⟩
theorem ex_c1 {P : Program} {w : World} {K : PySem.W.Frag} {mg : Str → Option Value} {base : Heap} {A : Around} {j k : Nat} {ps : List Str} {mf : FM} {x : Str} (c : Cal P w K mg base x j ps mf) (tk : Takes X W) (hr : Room k A) (hj : j ≤ k) (ha : Ea X W (e :: es) fs)
    (h1 : X.prog = P := by rfl) (h2 : X.w = w := by rfl) (h3 : X.K = K := by rfl) (h4 : X.mg = mg := by rfl) (h5 : X.base = base := by rfl) (h6 : X.A = A := by rfl) (hg : Gl X x := by rfl) (hdb : (x == ("__debug__" : Str)) = false := by decide) (he : starEach (e :: es) X.env = (false, eval e X.env) :: starEach es X.env := by rfl)
    (hpl : (backTo pos (starEach es X.env)).any (·.1) = false := by rfl) : Ex X W (.Call (.Name x p) (e :: es) [] pos) (eCall ps.length mf fs) := by
  subst h1 h2 h3 h4 h5 h6
  obtain ⟨f, fd, F, hm, hk, hb, _⟩ := c.ex
  exact ex_call tk F (hr.mono hj) hg hm hk hb ha hdb he hpl
theorem ex_c0 {P : Program} {w : World} {K : PySem.W.Frag} {mg : Str → Option Value} {base : Heap} {A : Around} {j k : Nat} {ps : List Str} {mf : FM} {x : Str} (c : Cal P w K mg base x j ps mf) (tk : Takes X W) (hr : Room k A) (hj : j ≤ k)
    (h1 : X.prog = P := by rfl) (h2 : X.w = w := by rfl) (h3 : X.K = K := by rfl) (h4 : X.mg = mg := by rfl) (h5 : X.base = base := by rfl) (h6 : X.A = A := by rfl) (hg : Gl X x := by rfl) (hdb : (x == ("__debug__" : Str)) = false := by decide) : Ex X W (.Call (.Name x p) [] [] pos) (eCall ps.length mf aNil) := by
  subst h1 h2 h3 h4 h5 h6
  obtain ⟨f, fd, F, hm, hk, hb, _⟩ := c.ex
  exact ex_call0 tk F (hr.mono hj) hg hm hk hb hdb
/-- in a comprehension nothing is let out -/
theorem tk0 : Takes X (fun _ _ _ _ => False) := takes0
end
/-- a def of the text -/
abbrev FnP (K : PySem.W.Frag) (x : Str) (st : Stmt) (f : Addr) (fd : FuncData) : Prop := FunD K x x (defArgs st) (defBody st) (defScope st) [] [] f fd
section
variable {P : Program} {w : World} {K : PySem.W.Frag} {mg : Str → Option Value} {base : Heap}
theorem cal_mk {x : Str} {st : Stmt} {f : Addr} {fd : FuncData} {N ps : List Str} {k : Nat} {fb : SM} (F : FnP K x st f fd) (S : FnScope N ps (defScope st)) (gx : mg x = some (.ref f))
    (bn : ∀ (kV doc pm : Value) (an : Option Addr) (cdv ct : Value) (us : List Value), us.length = ps.length → bindArgs (PySem.W.fnOf x x (defArgs st) (defBody st) (defScope st) .none kV doc pm an cdv ct) ⟨us, []⟩ = pure (ps.zip us))
    (hb : ∀ (cdv : Value) (A : Around) (outer : List Env) (s : Shared) (H : Hp) (E : XK), Room k (A.deeper (envOfC x (defScope st) s.heap.objs.size f cdv)) → Takes (cxOf (L2.CX P w) P w K mg base N x (defScope st) f cdv A outer s H E) (fun c d _ H => E c d H) →
      PassesOwn (model P w) (A.deeper (envOfC x (defScope st) s.heap.objs.size f cdv)) (envOfC x (defScope st) s.heap.objs.size f cdv) (cxOf (L2.CX P w) P w K mg base N x (defScope st) f cdv A outer s H E).xe →
      Sxs (cxOf (L2.CX P w) P w K mg base N x (defScope st) f cdv A outer s H E) (fun c d _ H => E c d H) (defBody st) fb) : Cal P w K mg base x (k + 1) ps (runB N.length fb) :=
  ⟨f, fd, fn_def F S hb, gx, F.kp, F.bindsN bn, let ⟨oc, od, _, _, _, _, _, _, _, osl, e, lk, _⟩ := F.ex; ⟨oc, od, osl, e ▸ lk⟩⟩
end
/-! ### what the built-in names hold -/
theorem bt_len : bootBuiltins "len" = some (.builtin "len") := by decide +kernel
theorem bt_abs : bootBuiltins "abs" = some (.builtin "abs") := by decide +kernel
theorem bt_isinstance : bootBuiltins "isinstance" = some (.builtin "isinstance") := by decide +kernel
theorem bt_min : bootBuiltins "min" = some (.builtin "min") := by decide +kernel
theorem bt_max : bootBuiltins "max" = some (.builtin "max") := by decide +kernel
theorem bt_sum : bootBuiltins "sum" = some (.builtin "sum") := by decide +kernel
theorem bt_all : bootBuiltins "all" = some (.builtin "all") := by decide +kernel
theorem bt_any : bootBuiltins "any" = some (.builtin "any") := by decide +kernel
theorem bt_sorted : bootBuiltins "sorted" = some (.builtin "sorted") := by decide +kernel
theorem bt_int : bootBuiltins "int" = some (.type "int") := by decide +kernel
theorem bt_bool : bootBuiltins "bool" = some (.type "bool") := by decide +kernel
theorem bt_str : bootBuiltins "str" = some (.type "str") := by decide +kernel
theorem bt_tuple : bootBuiltins "tuple" = some (.type "tuple") := by decide +kernel
theorem bt_list : bootBuiltins "list" = some (.type "list") := by decide +kernel
end HM

/-! HM, part 9: what the top leaves. -/
namespace HM
open PySem PySem.Spec PyProof.Rows L2
mutual
def conB (K : PySem.W.Frag) : D → Value → Bool
  | .non, .none => true
  | .bl a, .bool b => a == b
  | .int i, .int j _ => decide (i = j)
  | .str x, .str y _ => decide (y.cps.toList = x)
  | .tup ds, .ref a => match K.lookup a with
    | some ⟨.type c, _, .seq its _, _⟩ => decide (c = "tuple") && (decide (its.size ≤ sizeLine) && conAll K ds its.toList)
    | _ => false
  | _, _ => false
def conAll (K : PySem.W.Frag) : List D → List Value → Bool
  | [], [] => true
  | d :: ds, u :: us => conB K d u && conAll K ds us
  | _, _ => false
end
mutual
theorem conB_ok {K : PySem.W.Frag} : ∀ (d : D) (u : Value), conB K d u = true → ∃ v, RelV v u ∧ ∀ m H, RD K m H d v
  | .non, u, h => by
    cases u <;> simp [conB] at h
    exact ⟨.non, rfl, fun _ _ => .non⟩
  | .bl a, u, h => by
    cases u <;> simp [conB] at h
    subst h
    exact ⟨.bl _, rfl, fun _ _ => .bl _⟩
  | .int i, u, h => by
    cases u <;> simp [conB] at h
    subst h
    exact ⟨.int _, ⟨_, rfl⟩, fun _ _ => .int _⟩
  | .str x, u, h => by
    cases u <;> simp [conB] at h
    rename_i y t
    subst h
    refine ⟨.str y, ⟨_, rfl⟩, fun _ _ => ?_⟩
    have e : (⟨y.cps.toList.toArray⟩ : PySem.Str) = y := by simp
    have z := RD.str (K := K) (m := ‹_›) (H := ‹_›) y.cps.toList
    rw [e] at z
    exact z
  | .tup ds, u, h => by
    cases u with
    | ref a =>
      have h1 : (match K.lookup a with
        | some ⟨.type c, _, .seq its _, _⟩ => decide (c = "tuple") && (decide (its.size ≤ sizeLine) && conAll K ds its.toList)
        | _ => false) = true := by
        simpa only [conB] using h
      split at h1
      · rename_i c od its n osl e
        simp only [Bool.and_eq_true, decide_eq_true_eq] at h1
        obtain ⟨h2, h3, h4⟩ := h1
        subst h2
        obtain ⟨vs, r, q⟩ := conAll_ok ds its.toList h4
        exact ⟨.ref a, rfl, fun m H => .tup (.inr ⟨_, its, n, e, rfl, rfl, h3, r⟩) (q m H)⟩
      · cases h1
    | _ => simp [conB] at h
  | .ref _, u, h => by simp [conB] at h
  | .ty _, u, h => by simp [conB] at h
  | .adr _, u, h => by simp [conB] at h
  | .rol _, u, h => by simp [conB] at h
theorem conAll_ok {K : PySem.W.Frag} : ∀ (ds : List D) (us : List Value), conAll K ds us = true → ∃ vs, Vals vs us ∧ ∀ m H, RDs K m H ds vs
  | [], [], _ => ⟨[], .nil, fun _ _ => .nil⟩
  | [], _ :: _, h => by simp [conAll] at h
  | _ :: _, [], h => by simp [conAll] at h
  | d :: ds, u :: us, h => by
    simp only [conAll, Bool.and_eq_true] at h
    obtain ⟨v, r1, q1⟩ := conB_ok d u h.1
    obtain ⟨vs, r2, q2⟩ := conAll_ok ds us h.2
    exact ⟨v :: vs, .cons r1 r2, fun m H => .cons (q1 m H) (q2 m H)⟩
end
/-- a module's name holds a constant -/
structure Con (K : PySem.W.Frag) (mg : Str → Option Value) (x : Str) (d : D) : Prop where
  ex : ∃ u v, mg x = some u ∧ RelV v u ∧ ∀ m H, RD K m H d v
theorem ex_con {X : Cx} {W : WX} {x : Str} {d : D} {pos : Pos} (c : Con X.K X.mg x d) (hg : Gl X x := by rfl) (hd : (x == ("__debug__" : Str)) = false := by decide) : Ex X W (.Name x pos) (eC d) := by
  obtain ⟨u, v, hm, r, rd⟩ := c.ex
  exact ex_glob hg hm r rd hd
/-- further facts of the top -/
inductive Fx where
  /-- a built-in function by a name of the module's -/
  | blt (x : Str) (id : String)
  /-- a constant -/
  | con (x : Str) (d : D)
def Fx.ok (K : PySem.W.Frag) : Fx → Bool
  | .blt x id => (match PySem.W.nsIn K mainGlobals x with
    | some (some (.builtin j)) => decide (j = id)
    | _ => false)
  | .con x d => (match PySem.W.nsIn K mainGlobals x with
    | some (some u) => conB K d u
    | _ => false)
section
variable {K : PySem.W.Frag} {h : Heap} {mg : Str → Option Value}
theorem blt_ok (X : K.In h) (G : h.Ns mainGlobals mg) {x : Str} {id : String} (c : (Fx.blt x id).ok K = true) : mg x = some (.builtin id) := by
  have c : (match PySem.W.nsIn K mainGlobals x with
    | some (some (.builtin j)) => decide (j = id)
    | _ => false) = true := c
  split at c
  · rename_i j e
    rw [PySem.W.mg_of X G e, of_decide_eq_true c]
  · cases c
theorem con_ok (X : K.In h) (G : h.Ns mainGlobals mg) {x : Str} {d : D} (c : (Fx.con x d).ok K = true) : Con K mg x d := by
  have c : (match PySem.W.nsIn K mainGlobals x with
    | some (some u) => conB K d u
    | _ => false) = true := c
  split at c
  · rename_i u e
    obtain ⟨v, r, q⟩ := conB_ok d u c
    exact ⟨u, v, PySem.W.mg_of X G e, r, q⟩
  · cases c
end
/-! ### the Hook -/
def obsM (fa : List He.Fa) (fx : List Fx) (fn : List He.DefD) (K : PySem.W.Frag) : He.AlD := (((fa.all fun f => f.ok K) && fx.all fun f => f.ok K) && fn.all fun d => d.ok K, fn.map fun d => He.fnW K d.at_)
def SaysM (fa : List He.Fa) (fx : List Fx) (fn : List He.DefD) (K : PySem.W.Frag) : Prop := obsM fa fx fn K = He.valD fn
def obsMG (n : Nat) (fa : List He.Fa) (fx : List Fx) (fn : List He.DefD) (g : Addr → Option Obj) : He.AlD := obsM fa fx fn (He.frG g (He.asD g n))
def hookM (n : Nat) (fa : List He.Fa) (fx : List Fx) (fn : List He.DefD) : PySem.W.Hook where
  α := He.AlD
  obs := fun s => obsMG n fa fx fn s.heap.get?
  val := fun _ => He.valD fn
  says := fun _ h => ∃ K : PySem.W.Frag, K.In h ∧ SaysM fa fx fn K
  of := fun _ _ e => ⟨_, He.frG_in, e⟩
  keeps := fun _ _ _ ⟨K, hK, c⟩ k => ⟨K, PySem.W.Frag.In.keeps hK k, c⟩
theorem obsMG_eq {n : Nat} {fa : List He.Fa} {fx : List Fx} {fn : List He.DefD} {g : Addr → Option Obj} {s : Shared} (h : ∀ a, g a = s.heap.get? a) : obsMG n fa fx fn g = (hookM n fa fx fn).obs s := by
  have e : g = s.heap.get? := funext h
  rw [e] <;> rfl
section
variable {fa : List He.Fa} {fx : List Fx} {fn : List He.DefD} {K : PySem.W.Frag}
theorem SaysM.fact (c : SaysM fa fx fn K) (i : Nat) {f : He.Fa} (h : fa[i]? = some f := by rfl) : f.ok K = true := by
  have c1 := (He.ba (He.ba (show (((fa.all fun f => f.ok K) && fx.all fun f => f.ok K) && fn.all fun d => d.ok K) = true from congrArg (fun z : He.AlD => z.1) c)).1).1
  exact List.all_eq_true.mp c1 f (List.mem_of_getElem? h)
theorem SaysM.more (c : SaysM fa fx fn K) (i : Nat) {f : Fx} (h : fx[i]? = some f := by rfl) : f.ok K = true := by
  have c1 := (He.ba (He.ba (show (((fa.all fun f => f.ok K) && fx.all fun f => f.ok K) && fn.all fun d => d.ok K) = true from congrArg (fun z : He.AlD => z.1) c)).1).2
  exact List.all_eq_true.mp c1 f (List.mem_of_getElem? h)
theorem SaysM.def_ (c : SaysM fa fx fn K) (i : Nat) {d : He.DefD} (h : fn[i]? = some d := by rfl) : ∃ fd, FunD K d.name d.qual d.params d.body d.scope (d.dvs K) (d.kws K) (He.fAd K d.at_) fd := by
  have c2 := (He.ba (show (((fa.all fun f => f.ok K) && fx.all fun f => f.ok K) && fn.all fun d => d.ok K) = true from congrArg (fun z : He.AlD => z.1) c)).2
  have e : fn.map (fun d => He.fnW K d.at_) = fn.map He.DefD.val := congrArg (fun z : He.AlD => z.2) c
  have e2 : (fn.map fun d => He.fnW K d.at_)[i]? = (fn.map He.DefD.val)[i]? := by rw [e]
  rw [List.getElem?_map, List.getElem?_map, h] at e2
  exact He.DefD.funD (Option.some.inj e2) (List.all_eq_true.mp c2 d (List.mem_of_getElem? h))
end
/-! ### the law's end -/
/-- where nothing may be let out -/
theorem FnM.shut {P : Program} {w : World} {K : PySem.W.Frag} {mg : Str → Option Value} {base : Heap} {k : Nat} {f : Addr} {fd : FuncData} {ps : List Str} {mf : FM} (F : FnM P w K mg base k f fd ps mf) :
    FnOk P w K mg base CX0 k f fd ps (fun vs H Q _ => spM K ps.length mf vs H Q fun _ _ _ => False) where
  len := fun vs H Q E h => F.len vs H Q _ h
  run := fun A outer s H args us vs Q E hr e0 hb hv h => by
    refine codeAny_mono (F.run A outer s H args us vs Q _ hr e0 hb hv h) fun r s' hq => ?_
    cases r with
    | error e =>
      obtain ⟨_, _, _, _, _, _, _, _, _, _, _, _, z⟩ := (hq : L2.CX P w outer H s (fun _ _ _ => False) e s')
      exact z.elim
    | ok fl => cases fl <;> exact hq
end HM

/-! HM, part 10: methods of lists and texts, in, slices, sums. -/
namespace HM
open PySem PySem.Spec PyProof.Rows L2
section
variable {X : Cx} {W : WX} {e o a b c : Expr} {es : List Expr} {pos p : Pos} {f fo fa fb : EM D} {fs : EM (List D)}
theorem _root_.L2.Room.units65 {k : Nat} {A : Around} (r : Room k A) : A.units + 65 < cLine := by have := r.un; omega
theorem below_line {n : Nat} (h : n < 16777216) : n < sizeLine := by
  rw [PySem.sizeLine_eq]
  exact h
/-! ### methods -/
abbrev MM := D → FM
def MethM (X : Cx) (id : String) (g : MM) : Prop :=
  ∃ r, MtR X id r ∧ ∀ (m : List Addr) (st : Store) (H : Hp) (d : D) (v : V) (ds : List D) (vs : List V) (E : XK) (Q : VK), SS X.K m st H → RD X.K m H d v → RDs X.K m H ds vs → Pe X.K E (RD X.K) m H (g d ds st) Q → r v vs H Q
def okT (T : String) (st : Store) (d : D) : Bool := match d with
  | .str _ => decide (T = "str")
  | .rol _ => decide (T = "list")
  | .ref n => decide (T = "list") && (lstAt st n).isSome
  | _ => false
theorem okT_ty {K : PySem.W.Frag} {m : List Addr} {st : Store} {H : Hp} {d : D} {v : V} {T : String} (s : SS K m st H) (h : okT T st d = true) (r : RD K m H d v) : tyV K T v H := by
  cases r with
  | str x =>
    have q : T = "str" := of_decide_eq_true h
    exact q
  | rol q rs => exact .inl ⟨of_decide_eq_true h, _, q.sq⟩
  | ref q =>
    have h : (decide (T = "list") && (lstAt st _).isSome) = true := h
    rw [Bool.and_eq_true] at h
    obtain ⟨xs, e⟩ := Option.isSome_iff_exists.mp h.2
    obtain ⟨vs, h1, h2⟩ := s.list e q
    exact .inl ⟨of_decide_eq_true h.1, _, SqL.of h1⟩
  | _ => cases h
def eM (T : String) (g : MM) (fo : EM D) (fs : EM (List D)) : EM D := fun τ st => (fo τ st).bind fun d s1 => if okT T s1 d then (fs τ s1).bind fun ds s2 => g d ds s2 else .bad
theorem ex_m {name : Str} {apos cpos : Pos} {T id : String} {g : MM} (pa : PlainAttrs T) (slot : Slot T name id) (hty : typeOf (.builtin id) = pure (.type "method_descriptor")) (hm : MethM X id g) (ho : Ex X W o fo) (ha : Ea X W (e :: es) fs)
    (hbase : attributeBase o name X.env (eval o X.env) = eval o X.env := by rfl)
    (hfew : ((backTo cpos (starEach (e :: es) X.env)).all (fun x => !x.1) && (backToKw cpos (keywordEach [] X.env)).all (fun x => x.1.isSome)
      && decide ((e :: es).length + ([] : List Keyword).length + (if ([] : List Keyword).isEmpty then 0 else 1) < 30)) = true := by rfl)
    (hline : (apos.endLine == cpos.line) = true := by rfl) (hs : starEach (e :: es) X.env = (false, eval e X.env) :: starEach es X.env := by rfl) (hplain : (backTo cpos (starEach es X.env)).any (·.1) = false := by rfl) :
    Ex X W (.Call (.Attribute o name apos) (e :: es) [] cpos) (eM T g fo fs) := by
  obtain ⟨r, hr, h⟩ := hm
  refine ⟨fun m τ st σ H Q hL hS hP pins s I => (pe_bm pa slot hty hr peW paW hbase hfew hline hs hplain).run pins s σ H Q I ?_⟩
  refine ho.run m τ st σ H _ hL hS (hP.bind fun d s1 m1 H1 v e1 hS1 r1 hP1 => ?_)
  split at hP1
  · rename_i hk
    exact ⟨okT_ty hS1 hk r1, ha.run m1 τ s1 σ H1 _ (hL.mono e1) hS1 (hP1.bind fun ds s2 m2 H2 vs e2 hS2 r2 hP2 => h m2 s2 H2 d v ds vs _ Q hS2 (r1.mono e2) r2 hP2)⟩
  · exact hP1.elim
theorem ex_m0 {name : Str} {apos cpos : Pos} {T id : String} {g : MM} (pa : PlainAttrs T) (slot : Slot T name id) (hty : typeOf (.builtin id) = pure (.type "method_descriptor")) (hm : MethM X id g) (ho : Ex X W o fo)
    (hbase : attributeBase o name X.env (eval o X.env) = eval o X.env := by rfl) (hline : (apos.endLine == cpos.line) = true := by rfl) :
    Ex X W (.Call (.Attribute o name apos) [] [] cpos) (eM T g fo aNil) := by
  obtain ⟨r, hr, h⟩ := hm
  refine ⟨fun m τ st σ H Q hL hS hP pins s I => (pe_bm0 pa slot hty hr peW hbase hline).run pins s σ H Q I ?_⟩
  refine ho.run m τ st σ H _ hL hS (hP.bind fun d s1 m1 H1 v e1 hS1 r1 hP1 => ?_)
  split at hP1
  · rename_i hk
    exact ⟨okT_ty hS1 hk r1, h m1 s1 H1 d v [] [] _ Q hS1 r1 .nil hP1⟩
  · exact hP1.elim
def mAppend : MM := fun d ds st => match d, ds with
  | .ref n, [x] => match lstAt st n with
    | some xs => if xs.length < 16777216 then .ok .non (st.set n (.lst (xs ++ [x]))) else .bad
    | none => .bad
  | _, _ => .bad
theorem me_append : MethM X "list.append" mAppend := ⟨_, mt_append, fun m st H d v ds vs E Q hS r rs hP => by
  unfold mAppend at hP
  split at hP
  · split at hP
    · rename_i xs hx
      split at hP
      · rename_i hl
        cases r with
        | ref q =>
          obtain ⟨us, h1, h2⟩ := hS.list hx q
          obtain ⟨u, rfl, ru⟩ := rs.one
          exact ⟨_, us, u, rfl, rfl, h1, below_line (by rw [← h2.len]; exact hl), hP m _ _ (Ext.write h1 q) (hS.write h1 q (h2.append (.cons ru .nil))) .non⟩
      · exact hP.elim
    · exact hP.elim
  · exact hP.elim⟩
def mExtend : MM := fun d ds st => match d, ds with
  | .ref n, [.ref k] => match lstAt st n, lstAt st k with
    | some xs, some ys => if xs.length + ys.length ≤ 16777216 then .ok .non (st.set n (.lst (xs ++ ys))) else .bad
    | _, _ => .bad
  | _, _ => .bad
theorem me_extend : MethM X "list.extend" mExtend := ⟨_, mt_extend, fun m st H d v ds vs E Q hS r rs hP => by
  unfold mExtend at hP
  split at hP
  · split at hP
    · rename_i xs ys hx hy
      split at hP
      · rename_i hl
        obtain ⟨u, rfl, ru⟩ := rs.one
        cases r with
        | ref q =>
          cases ru with
          | ref q' =>
            obtain ⟨us, h1, h2⟩ := hS.list hx q
            obtain ⟨ws, h3, h4⟩ := hS.list hy q'
            exact ⟨_, _, us, ws, rfl, rfl, h1, h3, line_of (by rw [← h2.len, ← h4.len]; exact hl), hP m _ _ (Ext.write h1 q) (hS.write h1 q (h2.append h4)) .non⟩
      · exact hP.elim
    · exact hP.elim
  · exact hP.elim⟩
def mPop : MM := fun d ds st => match d, ds with
  | .ref n, [] => match lstAt st n with
    | some xs => match xs[xs.length - 1]? with
      | some y => .ok y (st.set n (.lst xs.dropLast))
      | none => .bad
    | none => .bad
  | _, _ => .bad
theorem me_pop : MethM X "list.pop" mPop := ⟨_, mt_pop, fun m st H d v ds vs E Q hS r rs hP => by
  unfold mPop at hP
  split at hP
  · split at hP
    · rename_i xs hx
      split at hP
      · rename_i y hy
        cases r with
        | ref q =>
          obtain ⟨us, h1, h2⟩ := hS.list hx q
          cases rs
          rw [h2.len] at hy
          obtain ⟨u, hu, ru⟩ := h2.get hy
          have e := Ext.write (K := X.K) (o := .lst us.dropLast) h1 q
          exact ⟨_, us, u, rfl, rfl, h1, hu, hP m _ _ e (hS.write h1 q h2.dropLast) (ru.mono e)⟩
      · exact hP.elim
    · exact hP.elim
  · exact hP.elim⟩
def okIx (i : Int) : Bool := decide (i.natAbs < 9223372036854775808)
theorem okIx_ok {i : Int} (h : okIx i = true) : -(2 ^ 63) ≤ i ∧ i < 2 ^ 63 := by
  have q : i.natAbs < 9223372036854775808 := of_decide_eq_true h
  have q' : -9223372036854775808 ≤ i ∧ i < 9223372036854775808 := by omega
  exact q'
def mPopAt : MM := fun d ds st => match d, ds with
  | .ref n, [.int i] => match lstAt st n with
    | some xs => match seqIndex? i xs.length with
      | some k => match xs[k]? with
        | some y => if okIx i then .ok y (st.set n (.lst (xs.eraseIdx k))) else .bad
        | none => .bad
      | none => .bad
    | none => .bad
  | _, _ => .bad
theorem me_popAt : MethM X "list.pop" mPopAt := ⟨_, mt_popAt, fun m st H d v ds vs E Q hS r rs hP => by
  unfold mPopAt at hP
  split at hP
  · split at hP
    · rename_i xs hx
      split at hP
      · rename_i k hk
        split at hP
        · rename_i y hy
          split at hP
          · rename_i hi
            obtain ⟨w, rfl, rw'⟩ := rs.one
            cases rw'
            cases r with
            | ref q =>
              obtain ⟨us, h1, h2⟩ := hS.list hx q
              obtain ⟨u, hu, ru⟩ := h2.get hy
              have e := Ext.write (K := X.K) (o := .lst (us.eraseIdx k)) h1 q
              exact ⟨_, us, _, k, u, rfl, rfl, h1, (okIx_ok hi).1, (okIx_ok hi).2, by rw [← h2.len]; exact hk, hu, hP m _ _ e (hS.write h1 q (h2.erase k)) (ru.mono e)⟩
          · exact hP.elim
        · exact hP.elim
      · exact hP.elim
    · exact hP.elim
  · exact hP.elim⟩
def mInsert : MM := fun d ds st => match d, ds with
  | .ref n, [.int i, y] => match lstAt st n with
    | some xs => if decide (0 ≤ i) && okIx i && decide (xs.length < 16777216) then .ok .non (st.set n (.lst (xs.take i.toNat ++ [y] ++ xs.drop i.toNat))) else .bad
    | none => .bad
  | _, _ => .bad
theorem me_insert : MethM X "list.insert" mInsert := ⟨_, mt_insert, fun m st H d v ds vs E Q hS r rs hP => by
  unfold mInsert at hP
  split at hP
  · split at hP
    · rename_i xs hx
      split at hP
      · rename_i hc
        simp only [Bool.and_eq_true, decide_eq_true_eq] at hc
        obtain ⟨w, u, rfl, rw', ru⟩ := rs.two
        cases rw'
        cases r with
        | ref q =>
          obtain ⟨us, h1, h2⟩ := hS.list hx q
          exact ⟨_, us, _, u, rfl, rfl, h1, below_line (by rw [← h2.len]; exact hc.2), hc.1.1, (okIx_ok hc.1.2).2, hP m _ _ (Ext.write h1 q) (hS.write h1 q (((h2.take _).append (.cons ru .nil)).append (h2.drop _))) .non⟩
      · exact hP.elim
    · exact hP.elim
  · exact hP.elim⟩
/-! ### in -/
def D.flat : D → Bool
  | .non => true
  | .bl _ => true
  | .int _ => true
  | .str _ => true
  | _ => false
def eqF : D → D → Bool
  | .non, .non => true
  | .bl a, .bl b => a == b
  | .bl a, .int b => (if a then 1 else 0) == b
  | .int a, .bl b => a == (if b then 1 else 0)
  | .int a, .int b => decide (a = b)
  | .str a, .str b => decide (a = b)
  | _, _ => false
theorem flat_V {K : PySem.W.Frag} {m : List Addr} {H : Hp} {d : D} {v : V} (r : RD K m H d v) (h : d.flat = true) : flatV v = true := by
  cases r <;> first | rfl | cases h
theorem flats_V {K : PySem.W.Frag} {m : List Addr} {H : Hp} : ∀ {ds : List D} {vs : List V}, RDs K m H ds vs → ds.all D.flat = true → vs.all flatV = true
  | [], _, .nil, _ => rfl
  | d :: ds, _, .cons r rs, h => by
    rw [List.all_cons, Bool.and_eq_true] at h ⊢
    exact ⟨flat_V r h.1, flats_V rs h.2⟩
theorem eqF_V {K : PySem.W.Frag} {m : List Addr} {H : Hp} {d e : D} {v u : V} (r : RD K m H d v) (r' : RD K m H e u) (h : d.flat = true) (h' : e.flat = true) : eqV v u = eqF d e := by
  cases r with
  | non => cases r' <;> first | rfl | cases h'
  | bl b => cases r' <;> first | rfl | cases h'
  | int i =>
    cases r' with
    | int j =>
      show (i == j) = decide (i = j)
      rw [Bool.eq_iff_iff]
      simp
    | _ => first | rfl | cases h'
  | str x =>
    cases r' with
    | str y =>
      show ((⟨x.toArray⟩ : Str) == (⟨y.toArray⟩ : Str)) = decide (x = y)
      rw [Bool.eq_iff_iff]
      simp
    | _ => first | rfl | cases h'
  | _ => cases h
theorem inV_D {K : PySem.W.Frag} {m : List Addr} {H : Hp} {d : D} {v : V} (r : RD K m H d v) (h : d.flat = true) : ∀ {ds : List D} {vs : List V}, RDs K m H ds vs → ds.all D.flat = true → inV v vs = ds.any fun y => eqF y d
  | [], _, .nil, _ => rfl
  | e :: ds, _, .cons r' rs, h' => by
    rw [List.all_cons, Bool.and_eq_true] at h'
    have := inV_D r h rs h'.2
    unfold inV at this ⊢
    rw [List.any_cons, List.any_cons, this, eqF_V r' r h'.1 h]
def rInT (K : PySem.W.Frag) (neg : Bool) : R2 := fun x y H Q => ∃ d ds, Dp K H x d ∧ Dp K H y (.tuple ds) ∧ SeqAt.shaped d = true ∧ SeqAt.shaped (.tuple ds) = true ∧ Q (.bl (if neg then !(ds.any fun z => PyData.eqv z d) else ds.any fun z => PyData.eqv z d)) H
theorem op_inT (hu : X.A.units + 65 < cLine) : OpR X (compareOp .In) (rInT X.K false) := by
  intro pins s σ H x y v u Q I rx ry h
  obtain ⟨d, ds, hd, he, sd, se, q⟩ := h
  obtain ⟨as, r1⟩ := Dp.reads I d x v hd rx
  obtain ⟨bs, r2⟩ := Dp.reads I (.tuple ds) y u he ry
  exact SeqAt.in_tuple_reads r2 r1 (SeqAt.canLay_of_shaped se) (SeqAt.canLay_of_shaped sd) (room_in_shaped sd hu) ⟨.bl _, H, I, rfl, q⟩
theorem op_notInT (hu : X.A.units + 65 < cLine) : OpR X (compareOp .NotIn) (rInT X.K true) := by
  intro pins s σ H x y v u Q I rx ry h
  obtain ⟨d, ds, hd, he, sd, se, q⟩ := h
  obtain ⟨as, r1⟩ := Dp.reads I d x v hd rx
  obtain ⟨bs, r2⟩ := Dp.reads I (.tuple ds) y u he ry
  exact SeqAt.notIn_tuple_reads r2 r1 (SeqAt.canLay_of_shaped se) (SeqAt.canLay_of_shaped sd) (room_in_shaped sd hu) ⟨.bl _, H, I, rfl, q⟩
/-- is it among flat ones, one sign in a text, among data of any depth -/
def dIn (x y : D) (st : Store) : Option Bool := match x, y with
  | .str [c], .str z => some (decide (c ∈ z))
  | x, y => match dSeq st y with
    | some ys => if x.flat && ys.all D.flat then some (ys.any fun y => eqF y x) else if x.plain 59 && ys.all (D.plain 59) then some (decide (x ∈ ys)) else none
    | none => none
def oIn : O2 := fun x y st => match dIn x y st with
  | some b => .ok (.bl b) st
  | none => .bad
def oNotIn : O2 := fun x y st => match dIn x y st with
  | some b => .ok (.bl !b) st
  | none => .bad
theorem any_plain {n : Nat} {x : D} (hx : x.plain n = true) : ∀ {ys : List D}, ys.all (D.plain n) = true → ((ys.map (D.toP n)).any fun z => PyData.eqv z (x.toP n)) = decide (x ∈ ys)
  | [], _ => by simp
  | y :: ys, h => by
    rw [List.all_cons, Bool.and_eq_true] at h
    rw [List.map_cons, List.any_cons, any_plain hx h.2, eqv_plain n y x h.1 hx]
    simp [List.mem_cons, eq_comm]
theorem m_inB {op : CmpOp} {neg : Bool} {r1 r2 r3 r4 : R2} (h1 : OpR X (compareOp op) r1) (h2 : OpR X (compareOp op) r2) (h3 : OpR X (compareOp op) r3) (h4 : OpR X (compareOp op) r4)
    (s1 : ∀ (c : Nat) (z : Str) H Q, Q (.bl (if neg then !decide (c ∈ z.cps.toList) else decide (c ∈ z.cps.toList))) H → r1 (.str ⟨#[c]⟩) (.str z) H Q)
    (s2 : ∀ x y H Q, rIn X.K neg x y H Q → r2 x y H Q)
    (s3 : ∀ x y H Q d ds, Dp X.K H x d → Dp X.K H y (.list ds) → SeqAt.shaped d = true → SeqAt.shaped (.list ds) = true → Q (.bl (if neg then !(ds.any fun z => PyData.eqv z d) else ds.any fun z => PyData.eqv z d)) H → r3 x y H Q)
    (s4 : ∀ x y H Q d ds, Dp X.K H x d → Dp X.K H y (.tuple ds) → SeqAt.shaped d = true → SeqAt.shaped (.tuple ds) = true → Q (.bl (if neg then !(ds.any fun z => PyData.eqv z d) else ds.any fun z => PyData.eqv z d)) H → r4 x y H Q) :
    OpM X W (compareOp op) (fun x y st => match dIn x y st with
    | some b => .ok (.bl (if neg then !b else b)) st
    | none => .bad) := opm_of ((h1.or h2).or (h3.or h4)) fun m st H dx dy x y E Q hS ra rb hP => by
  have fin : ∀ {q : PyData}, q.canLay0 = true → q.depth ≤ 60 → SeqAt.shaped q = true := fun {q} h1 h2 => by
    unfold SeqAt.shaped
    rw [h1, Bool.true_and, decide_eq_true_eq]
    omega
  split at hP
  · rename_i b hb
    unfold dIn at hb
    split at hb
    · cases hb
      cases ra
      cases rb
      exact .inl (.inl (s1 _ _ _ _ (hP.now hS (.bl _))))
    · split at hb
      · rename_i ys hy
        split at hb
        · rename_i hf
          cases hb
          rw [Bool.and_eq_true] at hf
          obtain ⟨p, vs, rfl, q, rs⟩ := dSeq_read hS hy rb
          refine .inl (.inr (s2 _ _ _ _ ⟨p, vs, rfl, q, flat_V ra hf.1, flats_V rs hf.2, ?_⟩))
          rw [inV_D ra hf.1 rs hf.2]
          exact hP.now hS (.bl _)
        · split at hb
          · rename_i hf
            cases hb
            rw [Bool.and_eq_true] at hf
            obtain ⟨p, vs, rfl, q, rs⟩ := dSeq_read hS hy rb
            obtain ⟨a1, a2, a3⟩ := plain_dp 59 dx x hf.1 ra
            obtain ⟨b1, b2, b3⟩ := plain_all (plain_dp 59) ys vs hf.2 rs
            have e := any_plain hf.1 hf.2
            rcases q with q | q
            · refine .inr (.inl (s3 _ _ _ _ _ _ a1 (.lst q b1) (fin a2 (by omega)) (fin (by simpa only [PyData.canLay0] using b2) (by simp only [PyData.depth]; omega)) ?_))
              rw [e]
              exact hP.now hS (.bl _)
            · refine .inr (.inr (s4 _ _ _ _ _ _ a1 (.tup q b1) (fin a2 (by omega)) (fin (by simpa only [PyData.canLay0] using b2) (by simp only [PyData.depth]; omega)) ?_))
              rw [e]
              exact hP.now hS (.bl _)
          · cases hb
      · cases hb
  · exact hP.elim
theorem m_in (hu : X.A.units + 65 < cLine) : OpM X W (compareOp .In) oIn := m_inB (neg := false) op_in_sign op_in_seq (op_inD hu) (op_inT hu)
  (fun c z H Q h => ⟨c, z, rfl, rfl, h⟩) (fun x y H Q h => h) (fun x y H Q d ds h1 h2 h3 h4 q => ⟨d, ds, h1, h2, h3, h4, q⟩) (fun x y H Q d ds h1 h2 h3 h4 q => ⟨d, ds, h1, h2, h3, h4, q⟩)
theorem m_notin (hu : X.A.units + 65 < cLine) : OpM X W (compareOp .NotIn) oNotIn := m_inB (neg := true) op_notIn_sign op_notIn_seq (op_notInD hu) (op_notInT hu)
  (fun c z H Q h => ⟨c, z, rfl, rfl, h⟩) (fun x y H Q h => h) (fun x y H Q d ds h1 h2 h3 h4 q => ⟨d, ds, h1, h2, h3, h4, q⟩) (fun x y H Q d ds h1 h2 h3 h4 q => ⟨d, ds, h1, h2, h3, h4, q⟩)
end
end HM

/-! HM, part 11: slices, sums, all and any, join, texts repeated, lcm. -/
namespace HM
open PySem PySem.Spec PyProof.Rows L2
section
variable {prog : Program} {w : World} {A : Around} {E : Value → Shared → Prop} {s : Shared}
theorem get_whole {t sl : Addr} {items : Array Value} {vl vu : Value} {lo hi : Option Int} {Q : Value → Shared → Prop} (ht : IsTup s.heap t items) (hs : s.heap.IsSliceOf sl vl vu .none) (pl : IsPart vl lo) (pu : IsPart vu hi)
    (h1 : HT.sIx items.size 0 lo = 0) (h2 : HT.sIx items.size items.size hi = items.size) (q : Q (.ref t) s) : wpAny (model prog w) A (getItem (.ref t) (.ref sl)) Q E s := by
  obtain ⟨ob, o1, o2, o3⟩ := id hs
  unfold getItem
  try with_reducible refine wpAny_holding ?_
  try refine wpAny_bind (wpAny_pure ?_)
  refine wpAny_bind (wpAny_sequenceKey ht.typeIs (by decide) ?_)
  refine wpAny_bind (wpAny_callSpecial?_slot (name := Str.ofString "__getitem__") ht.typeIs PyProof.Rows.slot_tuple_getitem (wpAny_call_entry PyProof.Rows.slot_tuple_getitem ht.typeIs entry_tuple_getitem ?_ (args_tuple_getitem _ _)))
  show wpAny _ _ (Builtin.Tuple.tupleItemsOf (.ref t) >>= _) _ _ s
  refine wpAny_bind (tupleItemsOf_ ht (wpAny_bind (wpAny_typeOf (T := "slice") ⟨ob, o1, o2⟩ ?_)))
  rw [if_pos (by decide)]
  refine wpAny_bind (HT.sliceApplied_gen hs pl pu ?_)
  have yes : (((HT.sIx items.size 0 lo : Nat) : Int) == 0 && (1 : Int) == 1 && (HT.sIx items.size items.size hi - HT.sIx items.size 0 lo) == items.size) = true := by
    rw [h1, h2]
    simp
  show wpAny _ _ (if (((HT.sIx items.size 0 lo : Nat) : Int) == 0 && (1 : Int) == 1 && (HT.sIx items.size items.size hi - HT.sIx items.size 0 lo) == items.size) = true then _ else _) _ _ s
  rw [if_pos yes]
  unfold Builtin.Tuple.tupleIsExact
  refine wpAny_bind (wpAny_bind (wpAny_typeOf ht.typeIs ?_))
  refine wpAny_pure ?_
  rw [if_pos (by decide)]
  first
    | exact wpAny_pure ⟨_, rfl, wpAny_pure q⟩
    | exact wpAny_bind (wpAny_rule (wpAny_pure ⟨_, rfl, wpAny_pure q⟩))
end
section
variable {X : Cx}
/-- the whole of a tuple is the tuple -/
def rSlW (K : PySem.W.Frag) : V → Option Int → Option Int → Hp → VK → Prop := fun x lo hi H Q => ∃ a xs, x = .ref a ∧ SqT K H a xs ∧ HT.sIx xs.length 0 lo = 0 ∧ HT.sIx xs.length xs.length hi = xs.length ∧ Q (.ref a) H
theorem sl_whole : SlR X (rSlW X.K) := by
  intro pins s σ H x v vl vu lo hi sl Q I rx hs pl pu h
  obtain ⟨a, xs, rfl, hx, h1, h2, q⟩ := h
  cases rx
  obtain ⟨its, r, ht, hz⟩ := I.tuple hx
  have e : its.toArray.size = xs.length := by rw [List.size_toArray, ← r.length]
  exact ⟨"tuple", _, PyProof.Rows.slot_tuple_getitem.lookup, ht.typeIs, get_whole ht hs pl pu (by rw [e]; exact h1) (by rw [e]; exact h2) ⟨.ref a, H, I, rfl, q⟩⟩
end
section
variable {X : Cx} {W : WX} {e o a b c : Expr} {es : List Expr} {pos p p2 : Pos} {f fo fa fb : EM D} {fs : EM (List D)}
/-! ### slices -/
def cutD {α : Type} (xs : List α) (lo hi : Option Int) : List α := (xs.drop (HT.sIx xs.length 0 lo)).take (HT.sIx xs.length xs.length hi - HT.sIx xs.length 0 lo)
theorem RDs.cut {K : PySem.W.Frag} {m : List Addr} {H : Hp} {ds : List D} {vs : List V} (r : RDs K m H ds vs) (lo hi : Option Int) : RDs K m H (cutD ds lo hi) (cutV vs lo hi) := by
  unfold cutD cutV
  rw [r.len]
  exact (r.drop _).take _
/-- a part of a slice -/
structure Eo (X : Cx) (W : WX) (e : Option Expr) (f : EM (Option Int)) : Prop where
  run : ∃ t : TO, PO X e t ∧ ∀ (m : List Addr) (τ : Sl) (st : Store) (σ : L2.St) (H : Hp) (Q : Option Int → Hp → Prop), SL X.K m H τ σ → SS X.K m st H → Pe X.K (fun c d H' => W c d σ H') (fun _ _ a b => a = b) m H (f τ st) Q → t σ H Q
def oNone : EM (Option Int) := fun _ st => .ok none st
def oSome (f : EM D) : EM (Option Int) := fun τ st => (f τ st).bind fun d s1 => match d with
  | .int i => .ok (some i) s1
  | _ => .bad
theorem eo_none : Eo X W none oNone := ⟨_, po_none, fun m τ st σ H Q hL hS hP => hP.now hS rfl⟩
theorem eo_some (h : Ex X W e f) : Eo X W (some e) (oSome f) := ⟨_, po_some peW, fun m τ st σ H Q hL hS hP => h.run m τ st σ H _ hL hS (hP.bind fun d s1 m1 H1 v e1 hS1 r1 hP1 => by
  split at hP1
  · cases r1
    exact ⟨_, rfl, hP1.now hS1 rfl⟩
  · exact hP1.elim)⟩
def dCut (d : D) (lo hi : Option Int) (st : Store) : ER D := match d with
  | .str z => if z.length ≤ 16777216 then .ok (.str (cutD z lo hi)) st else .bad
  | .tup xs => .ok (.tup (cutD xs lo hi)) st
  | .rol xs => .ok (.ref st.length) (st ++ [.lst (cutD xs lo hi)])
  | .ref n => match lstAt st n with
    | some xs => .ok (.ref st.length) (st ++ [.lst (cutD xs lo hi)])
    | none => .bad
  | _ => .bad
def eSl (f : EM D) (fl fh : EM (Option Int)) : EM D := fun τ st => (f τ st).bind fun d s1 => (fl τ s1).bind fun l s2 => (fh τ s2).bind fun h s3 => dCut d l h s3
theorem sl_all : SlR X (fun x lo hi H Q => rSlL X.K x lo hi H Q ∨ (rSlT X.K x lo hi H Q ∨ rSlW X.K x lo hi H Q) ∨ rSlS x lo hi H Q) := sl_list.or ((sl_tup.or sl_whole).or sl_str)
theorem cutS_D (z : List Nat) (lo hi : Option Int) : cutS ⟨z.toArray⟩ lo hi = ⟨(cutD z lo hi).toArray⟩ := by
  unfold cutS cutD
  simp [PySem.Str.length]
theorem ex_sl {lo hi : Option Expr} {fl fh : EM (Option Int)} (he : Ex X W e f) (hl : Eo X W lo fl) (hh : Eo X W hi fh) : Ex X W (.Subscript e (.Slice lo hi none p2) pos) (eSl f fl fh) := by
  obtain ⟨tl, pl, hl⟩ := hl
  obtain ⟨th, ph, hh⟩ := hh
  refine ⟨fun m τ st σ H Q hL hS hP pins s I => (pe_slice sl_all peW pl ph).run pins s σ H Q I ?_⟩
  refine he.run m τ st σ H _ hL hS (hP.bind fun d s1 m1 H1 v e1 hS1 r1 hP1 => ?_)
  refine hl m1 τ s1 σ H1 _ (hL.mono e1) hS1 (hP1.bind fun l s2 m2 H2 l' e2 hS2 r2 hP2 => ?_)
  subst r2
  refine hh m2 τ s2 σ H2 _ ((hL.mono e1).mono e2) hS2 (hP2.bind fun h s3 m3 H3 h' e3 hS3 r3 hP3 => ?_)
  subst r3
  have r1 := (r1.mono e2).mono e3
  unfold dCut at hP3
  split at hP3
  · split at hP3
    · rename_i hz
      cases r1
      refine .inr (.inr ⟨_, rfl, line_of (by simpa [PySem.Str.length] using hz), ?_⟩)
      rw [cutS_D]
      exact hP3.now hS3 (.str _)
    · exact hP3.elim
  · rename_i ds _
    cases r1 with
    | @tup a vs _ q rs =>
      by_cases hw : HT.sIx vs.length 0 l = 0 ∧ HT.sIx vs.length vs.length h = vs.length
      · refine .inr (.inl (.inr ⟨_, _, rfl, q, hw.1, hw.2, hP3.now hS3 ?_⟩))
        have e : cutD ds l h = ds := by
          unfold cutD
          rw [rs.len, hw.1, hw.2, List.drop_zero, Nat.sub_zero, ← rs.len]
          exact List.take_length
        rw [e]
        exact .tup q rs
      · exact .inr (.inl (.inl ⟨_, _, rfl, q, hw, hP3.tup hS3 (rs.cut _ _)⟩))
  · cases r1 with
    | rol q rs => exact .inl ⟨_, _, rfl, q.sq, hP3.lst hS3 (rs.cut _ _)⟩
  · split at hP3
    · rename_i xs hx
      cases r1 with
      | ref q =>
        obtain ⟨vs, h1, h2⟩ := hS3.list hx q
        exact .inl ⟨_, vs, rfl, SqL.of h1, hP3.lst hS3 (h2.cut _ _)⟩
    · exact hP3.elim
  · exact hP3.elim
/-! ### sums -/
def intsD : List D → Option (List Int)
  | [] => some []
  | .int i :: ds => (intsD ds).map (i :: ·)
  | _ => none
theorem intsD_V {K : PySem.W.Frag} {m : List Addr} {H : Hp} : ∀ {ds : List D} {vs : List V} {ns : List Int}, RDs K m H ds vs → intsD ds = some ns → vs = ns.map V.int
  | [], _, _, .nil, h => by
    cases h
    rfl
  | d :: ds, _, ns, .cons r rs, h => by
    unfold intsD at h
    split at h
    · rename_i e
      cases e
    · rename_i i ds' e
      cases e
      cases r
      cases hz : intsD ds with
      | none =>
        rw [hz] at h
        cases h
      | some ks =>
        rw [hz] at h
        cases h
        rw [intsD_V rs hz]
        rfl
    · cases h
theorem intsD_map : ∀ ns : List Int, intsD (ns.map D.int) = some ns
  | [] => rfl
  | n :: ns => by
    rw [List.map_cons, intsD, intsD_map ns]
    rfl
def rSumT (K : PySem.W.Frag) : List V → Hp → VK → Prop := fun vs H Q => ∃ (a : Addr) (ns : List Int), vs = [V.ref a] ∧ SqT K H a (ns.map V.int) ∧ Q (.int ns.sum) H
theorem cr_sumT (hc : X.calm = true) : CallR X (.builtin "sum") (rSumT X.K) := by
  intro pins s σ H vs us Q I r h
  obtain ⟨a, ns, rfl, hs, q⟩ := h
  obtain ⟨its, rv, hl, _⟩ := I.tuple hs
  rw [Vals.ref1 r]
  have hi := rv.ints
  obtain ⟨xs, e⟩ := hi.allInts.items
  have hn : numsOf (intItems xs).toList = ns := by rw [← e]; exact hi.numsOf
  rw [nums_intItems] at hn
  obtain ⟨ob, ho, hcl, n, hd⟩ := hl
  have ht : s.heap.IsTuple a (intItems xs) := by
    rw [← e]
    exact ⟨ob, ho, hcl, n, hd⟩
  refine PySem.W.ktm_sumG (I.ok.hd hc) ht fun h' tk t' hk => ⟨.int _, H, I.kept hk, ⟨_, rfl⟩, ?_⟩
  rw [preSum_eq, List.take_of_length_le (by simp), hn]
  exact q
def gSum : SM1 := fun xs st => match intsD xs with
  | some ns => .ok (.int ns.sum) st
  | none => .bad
theorem s_sum (hc : X.calm = true) : CallS X (.builtin "sum") gSum := ⟨_, (cr_sum hc).or (cr_sumT hc), fun m st H ds v E Q hS r hP => by
  obtain ⟨a, vs, rfl, q, rs⟩ := r
  unfold gSum at hP
  split at hP
  · rename_i ns hn
    have e := intsD_V rs hn
    subst e
    rcases q with q | q
    · exact .inl ⟨a, ns, rfl, q, hP.now hS (.int _)⟩
    · exact .inr ⟨a, ns, rfl, q, hP.now hS (.int _)⟩
  · exact hP.elim⟩
/-! ### of lists alone -/
def SqVL (K : PySem.W.Frag) (m : List Addr) (H : Hp) (ds : List D) (v : V) : Prop := ∃ a vs, v = .ref a ∧ SqL K H a vs ∧ RDs K m H ds vs
structure Esl (X : Cx) (W : WX) (e : Expr) (f : EM (List D)) : Prop where
  run : ∀ (m : List Addr) (τ : Sl) (st : Store) (σ : L2.St) (H : Hp) (Q : VK), SL X.K m H τ σ → SS X.K m st H → Pe X.K (fun c d H' => W c d σ H') (SqVL X.K) m H (f τ st) Q → wE X e σ H Q
theorem esl_el {fl : EM (List D)} (h : El X W e fl) : Esl X W e fl := by
  refine ⟨fun m τ st σ H Q hL hS hP => h.run m τ st σ H Q hL hS ?_⟩
  cases hq : fl τ st with
  | ok ds s1 =>
    rw [hq] at hP
    intro m1 H1 v e1 hS1 ⟨a, vs, e, ha, na, hn, rs⟩
    exact hP m1 H1 v e1 hS1 ⟨a, vs, e, SqL.of ha, rs⟩
  | exc x st' =>
    rw [hq] at hP
    exact hP
  | bad =>
    rw [hq] at hP
    exact hP.elim
def dSeqL (st : Store) : D → Option (List D)
  | .rol xs => some xs
  | .ref n => lstAt st n
  | _ => none
def sExL (f : EM D) : EM (List D) := fun τ st => (f τ st).bind fun d s1 => match dSeqL s1 d with
  | some xs => .ok xs s1
  | none => .bad
theorem esl_ex (h : Ex X W e f) : Esl X W e (sExL f) := by
  refine ⟨fun m τ st σ H Q hL hS hP => h.run m τ st σ H Q hL hS (hP.bind fun d s1 m1 H1 v e1 hS1 r1 hP1 => ?_)⟩
  split at hP1
  · rename_i xs hx
    cases r1 with
    | rol q rs =>
      cases hx
      exact hP1.now hS1 ⟨_, _, rfl, q.sq, rs⟩
    | ref q =>
      obtain ⟨vs, h1, h2⟩ := hS1.list hx q
      exact hP1.now hS1 ⟨_, vs, rfl, SqL.of h1, h2⟩
    | _ => cases hx
  · exact hP1.elim
def CallL (X : Cx) (fv : Value) (g : SM1) : Prop :=
  ∃ r, CallR X fv r ∧ ∀ (m : List Addr) (st : Store) (H : Hp) (ds : List D) (v : V) (E : XK) (Q : VK), SS X.K m st H → SqVL X.K m H ds v → Pe X.K E (RD X.K) m H (g ds st) Q → r [v] H Q
theorem ex_callBl {x : Str} {id : String} {g : SM1} {fl : EM (List D)} (hc : CallL X (.builtin id) g) (hg : Gl X x) (hm : X.mg x = none) (hv : bootBuiltins x = some (.builtin id)) (ha : Esl X W e fl) (hn : x ≠ "__name__" := by decide) (hdb : (x == ("__debug__" : Str)) = false := by decide)
    (he : starEach [e] X.env = (false, eval e X.env) :: starEach [] X.env := by rfl) (hpl : (backTo pos (starEach [] X.env)).any (·.1) = false := by rfl) : Ex X W (.Call (.Name x p) [e] [] pos) (eCS g fl) := by
  obtain ⟨r, hr, h⟩ := hc
  refine ⟨fun m τ st σ H Q hL hS hP pins s I => (pe_callB hr hg hm hv (pa_cons peW pa_nil he) hn hdb he hpl).run pins s σ H Q I ?_⟩
  exact ha.run m τ st σ H _ hL hS (hP.bind fun ds s1 m1 H1 v e1 hS1 r1 hP1 => h m1 s1 H1 ds v _ Q hS1 r1 hP1)
def blsD : List D → Option (List Bool)
  | [] => some []
  | .bl i :: ds => (blsD ds).map (i :: ·)
  | _ => none
theorem blsD_V {K : PySem.W.Frag} {m : List Addr} {H : Hp} : ∀ {ds : List D} {vs : List V} {ns : List Bool}, RDs K m H ds vs → blsD ds = some ns → vs = ns.map V.bl
  | [], _, _, .nil, h => by
    cases h
    rfl
  | d :: ds, _, ns, .cons r rs, h => by
    unfold blsD at h
    split at h
    · rename_i e
      cases e
    · rename_i i ds' e
      cases e
      cases r
      cases hz : blsD ds with
      | none =>
        rw [hz] at h
        cases h
      | some ks =>
        rw [hz] at h
        cases h
        rw [blsD_V rs hz]
        rfl
    · cases h
theorem blsD_map : ∀ ns : List Bool, blsD (ns.map D.bl) = some ns
  | [] => rfl
  | n :: ns => by
    rw [List.map_cons, blsD, blsD_map ns]
    rfl
def gAllB : SM1 := fun xs st => match blsD xs with
  | some bs => .ok (.bl (bs.all id)) st
  | none => .bad
def gAnyB : SM1 := fun xs st => match blsD xs with
  | some bs => .ok (.bl (bs.any id)) st
  | none => .bad
theorem s_all (hc : X.calm = true) : CallL X (.builtin "all") gAllB := ⟨_, cr_all hc, fun m st H ds v E Q hS r hP => by
  obtain ⟨a, vs, rfl, q, rs⟩ := r
  unfold gAllB at hP
  split at hP
  · rename_i ns hn
    have e := blsD_V rs hn
    subst e
    exact ⟨a, ns, rfl, q, hP.now hS (.bl _)⟩
  · exact hP.elim⟩
theorem s_any (hc : X.calm = true) : CallL X (.builtin "any") gAnyB := ⟨_, cr_any hc, fun m st H ds v E Q hS r hP => by
  obtain ⟨a, vs, rfl, q, rs⟩ := r
  unfold gAnyB at hP
  split at hP
  · rename_i ns hn
    have e := blsD_V rs hn
    subst e
    exact ⟨a, ns, rfl, q, hP.now hS (.bl _)⟩
  · exact hP.elim⟩
def maxI : List Int → Option Int
  | [] => none
  | n :: ns => some (ns.foldl max n)
def minI : List Int → Option Int
  | [] => none
  | n :: ns => some (ns.foldl min n)
theorem foldl_max_ge : ∀ (ns : List Int) (n : Int), n ≤ ns.foldl max n ∧ (∀ y ∈ ns, y ≤ ns.foldl max n) ∧ (ns.foldl max n = n ∨ ns.foldl max n ∈ ns)
  | [], n => ⟨Int.le_refl _, by simp, .inl rfl⟩
  | k :: ns, n => by
    obtain ⟨h1, h2, h3⟩ := foldl_max_ge ns (max n k)
    rw [List.foldl_cons]
    refine ⟨Int.le_trans (Int.le_max_left n k) h1, fun y hy => ?_, ?_⟩
    · rcases List.mem_cons.mp hy with rfl | hy
      · exact Int.le_trans (Int.le_max_right n y) h1
      · exact h2 y hy
    · rcases h3 with h3 | h3
      · rw [h3]
        rcases Int.le_total n k with h | h
        · rw [Int.max_eq_right h]
          exact .inr (List.mem_cons_self ..)
        · rw [Int.max_eq_left h]
          exact .inl rfl
      · exact .inr (List.mem_cons_of_mem _ h3)
theorem foldl_min_le : ∀ (ns : List Int) (n : Int), ns.foldl min n ≤ n ∧ (∀ y ∈ ns, ns.foldl min n ≤ y) ∧ (ns.foldl min n = n ∨ ns.foldl min n ∈ ns)
  | [], n => ⟨Int.le_refl _, by simp, .inl rfl⟩
  | k :: ns, n => by
    obtain ⟨h1, h2, h3⟩ := foldl_min_le ns (min n k)
    rw [List.foldl_cons]
    refine ⟨Int.le_trans h1 (Int.min_le_left n k), fun y hy => ?_, ?_⟩
    · rcases List.mem_cons.mp hy with rfl | hy
      · exact Int.le_trans h1 (Int.min_le_right n y)
      · exact h2 y hy
    · rcases h3 with h3 | h3
      · rw [h3]
        rcases Int.le_total n k with h | h
        · rw [Int.min_eq_left h]
          exact .inl rfl
        · rw [Int.min_eq_right h]
          exact .inr (List.mem_cons_self ..)
      · exact .inr (List.mem_cons_of_mem _ h3)
def gMax : SM1 := fun xs st => match (intsD xs).bind maxI with
  | some n => .ok (.int n) st
  | none => .bad
def gMin : SM1 := fun xs st => match (intsD xs).bind minI with
  | some n => .ok (.int n) st
  | none => .bad
theorem s_max (hc : X.calm = true) : CallL X (.builtin "max") gMax := ⟨_, cr_max hc, fun m st H ds v E Q hS r hP => by
  obtain ⟨a, vs, rfl, q, rs⟩ := r
  unfold gMax at hP
  split at hP
  · rename_i k hk
    cases hn : intsD ds with
    | none =>
      rw [hn] at hk
      cases hk
    | some ns =>
      rw [hn] at hk
      have e := intsD_V rs hn
      subst e
      cases ns with
      | nil => cases hk
      | cons n ns =>
        have hk : some (ns.foldl max n) = some k := hk
        cases hk
        obtain ⟨h1, h2, h3⟩ := foldl_max_ge ns n
        refine ⟨a, n :: ns, rfl, q, by simp, fun mm hm hy => ?_⟩
        have e : mm = ns.foldl max n := by
          refine Int.le_antisymm ?_ ?_
          · rcases List.mem_cons.mp hm with rfl | hm
            · exact h1
            · exact h2 mm hm
          · rcases h3 with h3 | h3
            · rw [h3]
              exact hy n (List.mem_cons_self ..)
            · exact hy _ (List.mem_cons_of_mem _ h3)
        subst e
        exact hP.now hS (.int _)
  · exact hP.elim⟩
theorem s_min (hc : X.calm = true) : CallL X (.builtin "min") gMin := ⟨_, cr_min hc, fun m st H ds v E Q hS r hP => by
  obtain ⟨a, vs, rfl, q, rs⟩ := r
  unfold gMin at hP
  split at hP
  · rename_i k hk
    cases hn : intsD ds with
    | none =>
      rw [hn] at hk
      cases hk
    | some ns =>
      rw [hn] at hk
      have e := intsD_V rs hn
      subst e
      cases ns with
      | nil => cases hk
      | cons n ns =>
        have hk : some (ns.foldl min n) = some k := hk
        cases hk
        obtain ⟨h1, h2, h3⟩ := foldl_min_le ns n
        refine ⟨a, n :: ns, rfl, q, by simp, fun mm hm hy => ?_⟩
        have e : mm = ns.foldl min n := by
          refine Int.le_antisymm ?_ ?_
          · rcases h3 with h3 | h3
            · rw [h3]
              exact hy n (List.mem_cons_self ..)
            · exact hy _ (List.mem_cons_of_mem _ h3)
          · rcases List.mem_cons.mp hm with rfl | hm
            · exact h1
            · exact h2 mm hm
        subst e
        exact hP.now hS (.int _)
  · exact hP.elim⟩
/-! ### lcm -/
def rLcm : List V → Hp → VK → Prop := fun vs H Q => ∃ a b : Int, vs = [.int a, .int b] ∧ a.natAbs < 2 ^ 9000 ∧ b.natAbs < 2 ^ 9000 ∧ Q (.int ((Nat.lcm a.natAbs b.natAbs : Nat) : Int)) H
theorem log_of {n k : Nat} (h : n < 2 ^ k) (hk : 0 < k) : n.log2 < k := by
  by_cases z : n = 0
  · subst z
    rw [Nat.log2_zero]
    exact hk
  · exact (Nat.log2_lt z).mpr h
theorem cr_lcm : CallR X (.builtin "math.lcm") rLcm := by
  intro pins s σ H vs us Q I r h
  obtain ⟨a, b, rfl, h1, h2, q⟩ := h
  obtain ⟨t, u, rfl⟩ := Vals.int2 r
  have h0 : (1 : Nat) < 2 ^ 9000 := Nat.one_lt_two_pow (by decide)
  have l1 : (max 1 a.natAbs).log2 < 9000 := log_of (Nat.max_lt.mpr ⟨h0, h1⟩) (by decide)
  have l2 : (max a.natAbs b.natAbs).log2 < 9000 := log_of (Nat.max_lt.mpr ⟨h1, h2⟩) (by decide)
  have l3 : ((((Nat.lcm 1 a.natAbs).lcm b.natAbs : Nat) : Int)).natAbs.log2 < bitsLine := by
    rw [Int.natAbs_natCast, PySem.W.mc_lcm_one]
    have := PySem.W.mc_lcm_le a.natAbs b.natAbs
    have h3 : a.natAbs * b.natAbs < 2 ^ 18000 := by
      rw [show (18000 : Nat) = 9000 + 9000 from rfl, Nat.pow_add]
      exact Nat.mul_lt_mul'' h1 h2
    exact Nat.lt_trans (log_of (Nat.lt_of_le_of_lt this h3) (by decide)) (by decide)
  have g := (PySem.W.mg_run_lcm a t b u (by omega) (by omega) l3).meets
  refine PySem.call_function_meets PySem.W.MGF.kind_lcm PySem.W.MGF.plain_lcm PySem.W.MGF.entry_lcm (PySem.W.MGF.args_lcm _ _) g ?_
  rw [PySem.W.mc_lcm_one]
  exact ⟨.int _, H, I.tok _, ⟨_, rfl⟩, q⟩
def fLcm : FM := fun ds st => match ds with
  | [.int i, .int j] => if decide (i.natAbs < 2 ^ 9000) && decide (j.natAbs < 2 ^ 9000) then .ok (.int (Nat.lcm i.natAbs j.natAbs : Nat)) st else .bad
  | _ => .bad
theorem c_lcm : CallM X (.builtin "math.lcm") fLcm := ⟨_, cr_lcm, fun m st H ds vs E Q hS r hP => by
  unfold fLcm at hP
  split at hP
  · split at hP
    · rename_i hc
      rw [Bool.and_eq_true, decide_eq_true_eq, decide_eq_true_eq] at hc
      obtain ⟨v, u, rfl, r1, r2⟩ := r.two
      cases r1
      cases r2
      exact ⟨_, _, rfl, hc.1, hc.2, hP.now hS (.int _)⟩
    · exact hP.elim
  · exact hP.elim⟩
/-! ### texts: join, repeated -/
def strsD : List D → Option (List (List Nat))
  | [] => some []
  | .str x :: ds => (strsD ds).map (x :: ·)
  | _ => none
theorem strsD_V {K : PySem.W.Frag} {m : List Addr} {H : Hp} : ∀ {ds : List D} {vs : List V} {ns : List (List Nat)}, RDs K m H ds vs → strsD ds = some ns → vs = (ns.map fun x => (⟨x.toArray⟩ : Str)).map V.str
  | [], _, _, .nil, h => by
    cases h
    rfl
  | d :: ds, _, ns, .cons r rs, h => by
    unfold strsD at h
    split at h
    · rename_i e
      cases e
    · rename_i i ds' e
      cases e
      cases r
      cases hz : strsD ds with
      | none =>
        rw [hz] at h
        cases h
      | some ks =>
        rw [hz] at h
        cases h
        rw [strsD_V rs hz]
        rfl
    · cases h
theorem strsD_map : ∀ ns : List (List Nat), strsD (ns.map D.str) = some ns
  | [] => rfl
  | n :: ns => by
    rw [List.map_cons, strsD, strsD_map ns]
    rfl
end
end HM

/-! HM, part 12: texts joined, things repeated. -/
namespace HM
open PySem PySem.Spec PyProof.Rows L2 SX
section
variable {X : Cx} {W : WX} {e o a b c : Expr} {es : List Expr} {pos p p2 : Pos} {f fo fa fb : EM D} {fs : EM (List D)}
def joinD (a : List Nat) : List (List Nat) → List Nat
  | [] => []
  | [p] => p
  | p :: q :: r => p ++ (a ++ joinD a (q :: r))
theorem joinD_eq (a : List Nat) : ∀ ys : List (List Nat), TL.joinL a ys = joinD a ys
  | [] => rfl
  | [_] => rfl
  | p :: q :: r => by
    show p ++ (a ++ TL.joinL a (q :: r)) = p ++ (a ++ joinD a (q :: r))
    rw [joinD_eq a (q :: r)]
def mJoin : MM := fun d ds st => match d, ds with
  | .str a, [y] => match (dSeq st y).bind strsD with
    | some ys => if (ys.map List.length).sum + ys.length * a.length ≤ 16777216 then .ok (.str (joinD a ys)) st else .bad
    | none => .bad
  | _, _ => .bad
theorem me_join : MethM X "str.join" mJoin := ⟨_, mt_join, fun m st H d v ds vs E Q hS r rs hP => by
  unfold mJoin at hP
  split at hP
  · rename_i a y
    split at hP
    · rename_i ys hy
      split at hP
      · rename_i hl
        cases hq : dSeq st y with
        | none =>
          rw [hq] at hy
          cases hy
        | some zs =>
          rw [hq] at hy
          obtain ⟨u, rfl, ru⟩ := rs.one
          cases r
          obtain ⟨p, us, rfl, q, rs'⟩ := dSeq_read hS hq ru
          have e := strsD_V rs' hy
          subst e
          refine ⟨⟨a.toArray⟩, p, ys.map S, rfl, rfl, q, ?_, ?_⟩
          · rw [List.map_map, List.length_map]
            have e : (ys.map ((fun x : Str => x.length) ∘ S)) = ys.map List.length := List.map_congr_left fun x _ => S_len x
            rw [e]
            have e2 : (⟨a.toArray⟩ : Str).length = a.length := S_len a
            rw [e2]
            exact hl
          · have e := join_S a ys
            rw [joinD_eq] at e
            rw [e]
            exact hP.now hS (.str _)
      · exact hP.elim
    · exact hP.elim
  · exact hP.elim⟩
/-! ### * -/
def repD {α : Type} (k : Nat) (xs : List α) : List α := (List.replicate k xs).flatten
theorem foldl_app (x : Array Nat) : ∀ (k : Nat) (acc : Array Nat), (List.replicate k x).foldl (· ++ ·) acc = acc ++ ((List.replicate k x.toList).flatten).toArray
  | 0, acc => by simp
  | k + 1, acc => by
    rw [List.replicate_succ, List.foldl_cons, foldl_app x k, List.replicate_succ, List.flatten_cons]
    apply Array.ext'
    simp
theorem repD_len {α : Type} (k : Nat) (xs : List α) : (repD k xs).length = xs.length * k := by
  unfold repD
  induction k with
  | zero => simp
  | succ k ih =>
    rw [List.replicate_succ, List.flatten_cons, List.length_append, ih, Nat.mul_succ, Nat.add_comm]
theorem op_repS : OpR X (binaryOp .Mult) (fun x y H Q => ∃ (z : List Nat) (k : Int), x = .str (S z) ∧ y = .int k ∧ 2 ≤ k ∧ k ≤ 16777216 ∧ z.length * k.toNat ≤ 16777216 ∧ Q (.str (S (repD k.toNat z))) H) := by
  intro pins s σ H x y v u Q I rx ry h
  obtain ⟨z, k, rfl, rfl, h2, hz, hl, q⟩ := h
  obtain ⟨t, rfl⟩ := rx
  obtain ⟨t', rfl⟩ := ry
  have e1 : (S z).length = z.length := S_len z
  refine PySem.P.mul_str ?_ (fun _ h0 => ?_) (fun _ _ => ?_) ?_
  · have a1 : ¬ k < -(2 ^ 63 : Int) := by omega
    have a2 : ¬ k ≥ 2 ^ 63 := by
      have : (16777216 : Int) < 2 ^ 63 := by decide
      omega
    rw [decide_eq_false a1, decide_eq_false a2]
    rfl
  · rw [e1]
    have h3 : z.length ≤ 16777216 := by
      have : z.length * 1 ≤ z.length * k.toNat := Nat.mul_le_mul_left _ (by omega)
      omega
    have h4 : (16777216 : Int) ≤ (2 ^ 63 - 1) / k := by
      refine (Int.le_ediv_iff_mul_le (by omega)).mpr ?_
      have : (16777216 : Int) * k ≤ 16777216 * 16777216 := Int.mul_le_mul_of_nonneg_left (by omega) (by decide)
      have : (16777216 : Int) * 16777216 ≤ 2 ^ 63 - 1 := by decide
      omega
    omega
  · rw [e1]
    show decide (z.length * k.toNat > 2 ^ 24) = false
    exact decide_eq_false (by
      have : (2 : Nat) ^ 24 = 16777216 := rfl
      omega)
  · have n1 : ¬ k < 1 := by omega
    rw [if_neg n1]
    have a1 : (k == 1) = false := beq_false_of_ne (by omega)
    rw [a1, e1, Bool.false_or]
    by_cases h0 : z = []
    · subst h0
      have e : (S (repD k.toNat ([] : List Nat))) = S [] := by
        have := repD_len k.toNat ([] : List Nat)
        rw [List.length_nil, Nat.zero_mul] at this
        rw [List.length_eq_zero_iff.mp this]
      rw [e] at q
      rw [if_pos (show (([] : List Nat).length == 0) = true from rfl)]
      exact ⟨.str _, H, I, ⟨_, rfl⟩, q⟩
    · have zl : 0 < z.length := List.length_pos_iff.mpr h0
      have a2 : (z.length == 0) = false := beq_false_of_ne (by omega)
      rw [a2, if_neg Bool.false_ne_true]
      have e : (⟨(List.replicate k.toNat (S z).cps).foldl (· ++ ·) #[]⟩ : Str) = S (repD k.toNat z) := by
        rw [foldl_app]
        simp [repD]
      rw [e]
      refine ⟨?_, .str _, H, I.tok _, ⟨_, rfl⟩, q⟩
      rw [S_len, repD_len, PySem.sizeLine_eq]
      exact hl
def oMul : O2 := fun x y st => match x, y with
  | .int i, .int j => if okMul i j then .ok (.int (i * j)) st else .bad
  | .str z, .int k => if decide (2 ≤ k) && decide (k ≤ 16777216) && decide (z.length * k.toNat ≤ 16777216) then .ok (.str (repD k.toNat z)) st else .bad
  | .ref n, .int k => match lstAt st n with
    | some xs => if okIx k && decide (xs.length * k.toNat ≤ 16777216) then .ok (.ref st.length) (st ++ [.lst (repD k.toNat xs)]) else .bad
    | none => .bad
  | .tup xs, .int k => if decide (2 ≤ k) && decide (k ≤ 1000) && !xs.isEmpty && decide (xs.length ≤ 1000) then .ok (.tup (repD k.toNat xs)) st else .bad
  | _, _ => .bad
theorem RDs.rep {K : PySem.W.Frag} {m : List Addr} {H : Hp} {ds : List D} {vs : List V} (r : RDs K m H ds vs) : ∀ k : Nat, RDs K m H (repD k ds) (repD k vs)
  | 0 => .nil
  | k + 1 => by
    have := RDs.rep r k
    unfold repD at this ⊢
    rw [List.replicate_succ, List.replicate_succ, List.flatten_cons, List.flatten_cons]
    exact r.append this
theorem op_mulAll : OpR X (binaryOp .Mult) (fun x y H Q => ((rI IntMulOk fun i j => .int (i * j)) x y H Q ∨ (∃ (z : List Nat) (k : Int), x = .str (S z) ∧ y = .int k ∧ 2 ≤ k ∧ k ≤ 16777216 ∧ z.length * k.toNat ≤ 16777216 ∧ Q (.str (S (repD k.toNat z))) H)) ∨ (rRep x y H Q ∨ rRepT X.K x y H Q)) :=
  (op_mulAny.or op_repS).or (op_rep.or op_repT)
theorem m_mul : OpM X W (binaryOp .Mult) oMul := opm_of op_mulAll fun m st H dx dy x y E Q hS r1 r2 hP => by
  unfold oMul at hP
  split at hP
  · rename_i i j
    split at hP
    · rename_i hc
      cases r1
      cases r2
      have q : (i.natAbs < 18446744073709551616 ∨ j.natAbs < 18446744073709551616) ∨ i.natAbs.log2 + j.natAbs.log2 < 1000000 := of_decide_eq_true hc
      refine .inl (.inl ⟨_, _, rfl, rfl, ?_, hP.now hS (.int _)⟩)
      rcases q with (q | q) | q
      · exact CMul.ok (.inl (by omega))
      · exact CMul.ok (.inr (by omega))
      · exact CMulW.ok q
    · exact hP.elim
  · split at hP
    · rename_i hc
      simp only [Bool.and_eq_true, decide_eq_true_eq] at hc
      cases r1
      cases r2
      exact .inl (.inr ⟨_, _, rfl, rfl, hc.1.1, hc.1.2, hc.2, hP.now hS (.str _)⟩)
    · exact hP.elim
  · split at hP
    · rename_i xs hx
      split at hP
      · rename_i hc
        rw [Bool.and_eq_true, decide_eq_true_eq] at hc
        cases r1 with
        | ref q =>
          cases r2
          obtain ⟨vs, h1, h2⟩ := hS.list hx q
          exact .inr (.inl ⟨_, _, vs, rfl, rfl, h1, (okIx_ok hc.1).1, (okIx_ok hc.1).2, line_of (by rw [← h2.len]; exact hc.2), hP.lst hS (h2.rep _)⟩)
      · exact hP.elim
    · exact hP.elim
  · split at hP
    · rename_i hc
      simp only [Bool.and_eq_true, decide_eq_true_eq, Bool.not_eq_true', List.isEmpty_eq_false_iff] at hc
      cases r1 with
      | tup q rs =>
        cases r2
        refine .inr (.inr ⟨_, _, _, rfl, rfl, q, fun e => hc.1.2 ?_, hc.1.1.1, hc.1.1.2, by rw [← rs.len]; exact hc.2, hP.tup hS (rs.rep _)⟩)
        subst e
        cases rs
        rfl
    · exact hP.elim
  · exact hP.elim
end
end HM

/-! HM: calls of defs with keywords. -/
namespace HM
open PySem PySem.Spec PyProof.Rows L2
section
variable {X : Cx} {W : WX} {e a b c : Expr} {es rest : List Expr} {pos p : Pos} {f fa fb fc : EM D} {fs fk : EM (List D)} {kws : List Keyword}
def wK (X : Cx) (kws : List Keyword) : TA := fun σ H Q => ∀ (pos : Pos) (pins : List (Addr × Obj)) (s : Shared), Inv X pins σ H s → wpAny (model X.prog X.w) X.A (evalAll ((backToKw pos (keywordEach kws X.env)).map (·.2))) (AP X pins σ Q) X.xe s
theorem pkW {X : Cx} {kws : List Keyword} : PK X kws (wK X kws) := ⟨fun pos pins s σ H Q I h => h pos pins s I⟩
/-- the values of keywords -/
structure Ek (X : Cx) (W : WX) (kws : List Keyword) (f : EM (List D)) : Prop where
  run : ∀ (m : List Addr) (τ : Sl) (st : Store) (σ : L2.St) (H : Hp) (Q : List V → Hp → Prop), SL X.K m H τ σ → SS X.K m st H → Pe X.K (fun c d H' => W c d σ H') (RDs X.K) m H (f τ st) Q → wK X kws σ H Q
theorem ek_nil : Ek X W [] aNil := ⟨fun m τ st σ H Q hL hS hP pos pins s I => pk_nil.run pos pins s σ H Q I (hP.now hS .nil)⟩
theorem ek_cons {nm : Option Str} {kpos : Pos} (ha : Ex X W e f) (hr : Ek X W kws fs) : Ek X W (⟨nm, e, kpos⟩ :: kws) (aCons f fs) := by
  refine ⟨fun m τ st σ H Q hL hS hP pos pins s I => (pk_cons peW pkW).run pos pins s σ H Q I ?_⟩
  refine ha.run m τ st σ H _ hL hS (hP.bind fun dx s1 m1 H1 x e1 hS1 r1 hP1 => ?_)
  exact hr.run m1 τ s1 σ H1 _ (hL.mono e1) hS1 (hP1.bind fun ds s2 m2 H2 xs e2 hS2 r2 hP2 => hP2.now hS2 (.cons (r1.mono e2) r2))
/-- those at the places -/
def arr {α : Type} (is : List Nat) (l : List α) : List α := is.filterMap (fun i => l[i]?)
theorem Vals.arr {xs : List V} {us : List Value} (r : Vals xs us) : ∀ is : List Nat, Vals (arr is xs) (arr is us)
  | [] => .nil
  | i :: is => by
    have ih := Vals.arr r is
    unfold HM.arr at ih ⊢
    rw [List.filterMap_cons, List.filterMap_cons]
    cases h : xs[i]? with
    | none => rw [r.none_of h]; exact ih
    | some x =>
      obtain ⟨u, h1, h2⟩ := r.get h
      rw [h1]
      exact .cons h2 ih
theorem RDs.arr {K : PySem.W.Frag} {m : List Addr} {H : Hp} {ds : List D} {vs : List V} (r : RDs K m H ds vs) : ∀ is : List Nat, RDs K m H (arr is ds) (arr is vs)
  | [] => .nil
  | i :: is => by
    have ih := RDs.arr r is
    unfold HM.arr at ih ⊢
    rw [List.filterMap_cons, List.filterMap_cons]
    cases h : ds[i]? with
    | none =>
      have : vs[i]? = none := by
        rw [List.getElem?_eq_none_iff] at h ⊢
        rw [← r.len]; exact h
      rw [this]; exact ih
    | some x =>
      obtain ⟨u, h1, h2⟩ := r.get h
      rw [h1]
      exact .cons h2 ih
def eCallK (n k np : Nat) (is : List Nat) (mf : FM) (fs fk : EM (List D)) : EM D := fun τ st => (fs τ st).bind fun ds s1 => (fk τ s1).bind fun es s2 => if ds.length = n ∧ es.length = k ∧ (arr is (ds ++ es)).length = np then mf (arr is (ds ++ es)) s2 else .bad
theorem ex_ck {P : Program} {w : World} {K : PySem.W.Frag} {mg : Str → Option Value} {base : Heap} {A : Around} {j k n : Nat} {ps ks : List Str} {is : List Nat} {mf : FM} {x : Str} {st : Stmt} {fa : Addr} {fd : FuncData} (c : Cal P w K mg base x j ps mf) (F : FnP K x st fa fd) (gx : mg x = some (.ref fa))
    (bn : ∀ (kV doc pm : Value) (an : Option Addr) (cdv ct : Value) (us ws : List Value), us.length = n → ws.length = ks.length → bindArgs (PySem.W.fnOf x x (defArgs st) (defBody st) (defScope st) .none kV doc pm an cdv ct) ⟨us, ks.zip ws⟩ = pure (ps.zip (arr is (us ++ ws))))
    (tk : Takes X W) (hr : Room k A) (hj : j ≤ k) (ha : Ea X W (e :: es) fs) (hkw : Ek X W kws fk)
    (hall : (backToKw pos (keywordEach kws X.env)).all (·.1.isSome) = true := by rfl) (hks : (backToKw pos (keywordEach kws X.env)).filterMap (·.1) = ks := by rfl)
    (hpl : ((backTo pos (starEach (e :: es) X.env)).any (·.1) || (backToKw pos (keywordEach kws X.env)).any (·.1.isNone)) = false := by rfl)
    (h1 : X.prog = P := by rfl) (h2 : X.w = w := by rfl) (h3 : X.K = K := by rfl) (h4 : X.mg = mg := by rfl) (h5 : X.base = base := by rfl) (h6 : X.A = A := by rfl) (hg : Gl X x := by rfl) (hdb : (x == ("__debug__" : Str)) = false := by decide) (he : starEach (e :: es) X.env = (false, eval e X.env) :: starEach es X.env := by rfl) :
    Ex X W (.Call (.Name x p) (e :: es) kws pos) (eCallK n ks.length ps.length is mf fs fk) := by
  subst h1 h2 h3 h4 h5 h6
  obtain ⟨f, fd', G, hm, hk, hb, oc, od, osl, lk⟩ := c.ex
  have e1 : f = fa := by
    rw [hm] at gx
    exact Value.ref.inj (Option.some.inj gx)
  subst e1
  obtain ⟨oc2, od2, dV, kV, doc, pm, an, cdv, ct, osl2, e2, lk2, hcd, hD, hK⟩ := F.ex
  rw [lk] at lk2
  have e3 : fd' = fd := by
    have := Option.some.inj lk2
    injection this with _ _ q _
    injection q
  subst e3
  have hdV : dV = .none := by
    rcases hD with ⟨_, q⟩ | ⟨q, _⟩
    · exact q
    · exact absurd rfl q
  have kb : KBn X.K fd' ps n ks (fun us ws => HM.arr is (us ++ ws)) (fun vs zs => HM.arr is (vs ++ zs)) :=
    ⟨fun s us ws _ l1 l2 => .of_eq (by rw [e2, hdV]; exact bn kV doc pm an cdv ct us ws l1 l2), fun r1 r2 => HM.Vals.arr (r1.append r2) is⟩
  refine ⟨fun m τ st σ H Q hL hS hP pins s I => ?_⟩
  refine wpAny_Call_Name_kw (ld_glob I hg hm ?_ hdb)
  have q : wA X (e :: es) σ H fun vs H1 => wK X kws σ H1 fun zs H2 => vs.length = n ∧ zs.length = ks.length ∧ spM X.K ps.length mf (HM.arr is (vs ++ zs)) H2 Q (WE W σ) :=
    ha.run m τ st σ H _ hL hS (hP.bind fun ds s1 m1 H1 vs e1 hS1 r1 hP1 => hkw.run m1 τ s1 σ H1 _ (hL.mono e1) hS1 (hP1.bind fun es s2 m2 H2 xs e2 hS2 r2 hP2 => by
      split at hP2
      · rename_i hl
        exact ⟨by rw [← r1.len]; exact hl.1, by rw [← r2.len]; exact hl.2.1, m2, s2, _, hl.2.2, hS2, RDs.arr ((r1.mono e2).append r2) is, hP2⟩
      · exact hP2.elim))
  refine PySem.W.callWith_KW (h₀ := X.base) I.ok.mod.kin hk hall (thn (q pos pins s I) fun us s1 ⟨vs, H1, I1, r, q1⟩ => ?_) hpl he
  refine thn (q1 pos pins s1 I1) fun ws s2 ⟨zs, H2, I2, rz, l1, l2, q2⟩ => ⟨I2.kIn, ?_⟩
  rw [hks]
  have r2 := kb.rel r rz
  refine wpAny_call (codeAny_mono (G.run X.A X.stack s2 H2 ⟨us, ks.zip ws⟩ _ _ Q (WE W σ) (hr.mono hj) I2.env0 (kb.to s2 us ws I2.kIn (r.length.symm.trans l1) (rz.length.symm.trans l2)) r2 q2) fun r s' hq => ?_)
  cases r with
  | error e => exact passAt tk σ pins H2 s2 e s' I2 hq
  | ok fl =>
    cases fl with
    | ret u => exact I2.after hq
    | next => exact False.elim hq
    | brk => exact False.elim hq
    | cont => exact False.elim hq
theorem ex_ck0 {P : Program} {w : World} {K : PySem.W.Frag} {mg : Str → Option Value} {base : Heap} {A : Around} {j k : Nat} {ps ks : List Str} {is : List Nat} {mf : FM} {x : Str} {st : Stmt} {fa : Addr} {fd : FuncData} (c : Cal P w K mg base x j ps mf) (F : FnP K x st fa fd) (gx : mg x = some (.ref fa))
    (bn : ∀ (kV doc pm : Value) (an : Option Addr) (cdv ct : Value) (us ws : List Value), us.length = 0 → ws.length = ks.length → bindArgs (PySem.W.fnOf x x (defArgs st) (defBody st) (defScope st) .none kV doc pm an cdv ct) ⟨us, ks.zip ws⟩ = pure (ps.zip (arr is (us ++ ws))))
    (tk : Takes X W) (hr : Room k A) (hj : j ≤ k) (hkw : Ek X W kws fk)
    (hall : (backToKw pos (keywordEach kws X.env)).all (·.1.isSome) = true := by rfl) (hks : (backToKw pos (keywordEach kws X.env)).filterMap (·.1) = ks := by rfl)
    (hpl : ((backTo pos (starEach [] X.env)).any (·.1) || (backToKw pos (keywordEach kws X.env)).any (·.1.isNone)) = false := by rfl)
    (h1 : X.prog = P := by rfl) (h2 : X.w = w := by rfl) (h3 : X.K = K := by rfl) (h4 : X.mg = mg := by rfl) (h5 : X.base = base := by rfl) (h6 : X.A = A := by rfl) (hg : Gl X x := by rfl) (hdb : (x == ("__debug__" : Str)) = false := by decide) :
    Ex X W (.Call (.Name x p) [] kws pos) (eCallK 0 ks.length ps.length is mf aNil fk) := by
  subst h1 h2 h3 h4 h5 h6
  obtain ⟨f, fd', G, hm, hk, hb, oc, od, osl, lk⟩ := c.ex
  have e1 : f = fa := by
    rw [hm] at gx
    exact Value.ref.inj (Option.some.inj gx)
  subst e1
  obtain ⟨oc2, od2, dV, kV, doc, pm, an, cdv, ct, osl2, e2, lk2, hcd, hD, hK⟩ := F.ex
  rw [lk] at lk2
  have e3 : fd' = fd := by
    have := Option.some.inj lk2
    injection this with _ _ q _
    injection q
  subst e3
  have hdV : dV = .none := by
    rcases hD with ⟨_, q⟩ | ⟨q, _⟩
    · exact q
    · exact absurd rfl q
  have kb : KBn X.K fd' ps 0 ks (fun us ws => HM.arr is (us ++ ws)) (fun vs zs => HM.arr is (vs ++ zs)) :=
    ⟨fun s us ws _ l1 l2 => .of_eq (by rw [e2, hdV]; exact bn kV doc pm an cdv ct us ws l1 l2), fun r1 r2 => HM.Vals.arr (r1.append r2) is⟩
  refine ⟨fun m τ st σ H Q hL hS hP pins s I => ?_⟩
  refine wpAny_Call_Name_kw (ld_glob I hg hm ?_ hdb)
  have q : wK X kws σ H fun zs H2 => zs.length = ks.length ∧ spM X.K ps.length mf (HM.arr is zs) H2 Q (WE W σ) := by
    have hP : Pe X.K (fun c d H' => W c d σ H') (RD X.K) m H ((fk τ st).bind fun es s2 => if ([] : List D).length = 0 ∧ es.length = ks.length ∧ (HM.arr is ([] ++ es)).length = ps.length then mf (HM.arr is ([] ++ es)) s2 else .bad) Q := hP
    exact hkw.run m τ st σ H _ hL hS (hP.bind fun es s2 m2 H2 xs e2 hS2 r2 hP2 => by
      split at hP2
      · rename_i hl
        exact ⟨by rw [← r2.len]; exact hl.2.1, m2, s2, _, hl.2.2, hS2, RDs.arr r2 is, hP2⟩
      · exact hP2.elim)
  refine PySem.W.callWith_KW0 (h₀ := X.base) I.ok.mod.kin hk hall (thn (q pos pins s I) fun ws s2 ⟨zs, H2, I2, rz, l2, q2⟩ => ⟨I2.kIn, ?_⟩) hpl
  rw [hks]
  have r2 : Vals (HM.arr is zs) (HM.arr is ([] ++ ws)) := HM.Vals.arr rz is
  refine wpAny_call (codeAny_mono (G.run X.A X.stack s2 H2 ⟨[], ks.zip ws⟩ _ _ Q (WE W σ) (hr.mono hj) I2.env0 (kb.to s2 [] ws I2.kIn rfl (rz.length.symm.trans l2)) r2 q2) fun r s' hq => ?_)
  cases r with
  | error e => exact passAt tk σ pins H2 s2 e s' I2 hq
  | ok fl =>
    cases fl with
    | ret u => exact I2.after hq
    | next => exact False.elim hq
    | brk => exact False.elim hq
    | cont => exact False.elim hq
end
end HM

/-! HM, part 13: max and min of tuples, index. -/
namespace HM
open PySem PySem.Spec PyProof.Rows L2
section
variable {prog : Program} {w : World} {A : Around} {E : Value → Shared → Prop} {s : Shared}
/-- the greatest of a tuple's ints -/
theorem tup_max {t : Addr} {xs : Array (Int × Tok)} {Q : Value → Shared → Prop} (hh : A.handled = none) (ht : s.heap.IsTuple t (intItems xs)) (hne : 0 < xs.size)
    (h : ∀ v h' tk, (intItems xs)[argBest (fun i j => decide (numAt xs i > numAt xs j)) (xs.size - 1)]? = some v → (∀ b o, s.heap.get? b = some o → h'.get? b = some o) → Q v { s with heap := h', toks := tk }) :
    wpAny (model prog w) A (call (.builtin "max") [.ref t]) Q E s := by
  obtain ⟨ob, o1, _, _, _⟩ := id ht
  have sz : (intItems xs).size = xs.size := by simp [intItems]
  refine call_max_walk (wpAny_pyIter_tuple ht ?_)
  refine ⟨_, [_, t], [_], _, _, _, _, rfl, Walks.tuple (A := A.in1) hh s.heap.objs.size t (Nat.ne_of_lt (Heap.lt_size o1)) (intItems xs), ⟨⟨_, Heap.get?_push_size _ rfl, rfl, rfl⟩, ht.push _⟩, fun b hb => ?_, by omega, CmpOf.ints_gt (numAt xs) (fun _ _ => intItems_at), fun v h' tk hP hk => ?_⟩
  · rcases List.mem_cons.mp hb with rfl | hb
    · exact Heap.lt_size (Heap.get?_push_size _ rfl)
    · rw [List.mem_singleton.mp hb]
      exact Heap.lt_size (Heap.get?_push_of_some _ o1)
  · rw [sz] at hP
    exact h v h' tk hP fun b o e => hk b o (fun hm => absurd (Heap.lt_size e) (by rw [List.mem_singleton.mp hm]; exact Nat.lt_irrefl _)) (Heap.get?_push_of_some _ e)
theorem tup_min {t : Addr} {xs : Array (Int × Tok)} {Q : Value → Shared → Prop} (hh : A.handled = none) (ht : s.heap.IsTuple t (intItems xs)) (hne : 0 < xs.size)
    (h : ∀ v h' tk, (intItems xs)[argBest (fun i j => decide (numAt xs i < numAt xs j)) (xs.size - 1)]? = some v → (∀ b o, s.heap.get? b = some o → h'.get? b = some o) → Q v { s with heap := h', toks := tk }) :
    wpAny (model prog w) A (call (.builtin "min") [.ref t]) Q E s := by
  obtain ⟨ob, o1, _, _, _⟩ := id ht
  have sz : (intItems xs).size = xs.size := by simp [intItems]
  refine call_min_walk (wpAny_pyIter_tuple ht ?_)
  refine ⟨_, [_, t], [_], _, _, _, _, rfl, Walks.tuple (A := A.in1) hh s.heap.objs.size t (Nat.ne_of_lt (Heap.lt_size o1)) (intItems xs), ⟨⟨_, Heap.get?_push_size _ rfl, rfl, rfl⟩, ht.push _⟩, fun b hb => ?_, by omega, CmpOf.ints_lt (numAt xs) (fun _ _ => intItems_at), fun v h' tk hP hk => ?_⟩
  · rcases List.mem_cons.mp hb with rfl | hb
    · exact Heap.lt_size (Heap.get?_push_size _ rfl)
    · rw [List.mem_singleton.mp hb]
      exact Heap.lt_size (Heap.get?_push_of_some _ o1)
  · rw [sz] at hP
    exact h v h' tk hP fun b o e => hk b o (fun hm => absurd (Heap.lt_size e) (by rw [List.mem_singleton.mp hm]; exact Nat.lt_irrefl _)) (Heap.get?_push_of_some _ e)
end
section
variable {X : Cx} {W : WX} {e : Expr} {pos p : Pos}
def rMaxT (K : PySem.W.Frag) : List V → Hp → VK → Prop := fun vs H Q => ∃ (a : Addr) (ns : List Int), vs = [V.ref a] ∧ SqT K H a (ns.map V.int) ∧ 0 < ns.length ∧ ∀ m, m ∈ ns → (∀ y, y ∈ ns → y ≤ m) → Q (.int m) H
def rMinT (K : PySem.W.Frag) : List V → Hp → VK → Prop := fun vs H Q => ∃ (a : Addr) (ns : List Int), vs = [V.ref a] ∧ SqT K H a (ns.map V.int) ∧ 0 < ns.length ∧ ∀ m, m ∈ ns → (∀ y, y ∈ ns → m ≤ y) → Q (.int m) H
theorem cr_maxT (hc : X.calm = true) : CallR X (.builtin "max") (rMaxT X.K) := by
  intro pins s σ H vs us Q I r h
  obtain ⟨a, ns, rfl, hs, hne, q⟩ := h
  obtain ⟨its, rv, hl, _⟩ := I.tuple hs
  rw [Vals.ref1 r]
  have hi := rv.ints
  obtain ⟨xs, e⟩ := hi.allInts.items
  have hn : numsOf (intItems xs).toList = ns := by rw [← e]; exact hi.numsOf
  rw [nums_intItems] at hn
  subst hn
  obtain ⟨ob, ho, hcl, n, hd⟩ := hl
  have ht : s.heap.IsTuple a (intItems xs) := by
    rw [← e]
    exact ⟨ob, ho, hcl, n, hd⟩
  have hsz : 0 < xs.size := by simpa using hne
  refine tup_max (I.ok.hd hc) ht hsz fun v h' tk hv hk => ?_
  obtain ⟨t, rfl⟩ := intItems_at hv
  obtain ⟨h1, h2⟩ := argBest_gt (numAt xs) (xs.size - 1)
  refine ⟨.int _, H, I.kept hk, ⟨_, rfl⟩, q _ ?_ fun y hy => ?_⟩
  · rw [numAt_eq]
    exact PySem.getD_mem (by rw [List.length_map, Array.length_toList]; omega)
  · obtain ⟨j, hj, rfl⟩ := mem_getD hy
    rw [List.length_map, Array.length_toList] at hj
    rw [← numAt_eq]
    exact h2 j (by omega)
theorem cr_minT (hc : X.calm = true) : CallR X (.builtin "min") (rMinT X.K) := by
  intro pins s σ H vs us Q I r h
  obtain ⟨a, ns, rfl, hs, hne, q⟩ := h
  obtain ⟨its, rv, hl, _⟩ := I.tuple hs
  rw [Vals.ref1 r]
  have hi := rv.ints
  obtain ⟨xs, e⟩ := hi.allInts.items
  have hn : numsOf (intItems xs).toList = ns := by rw [← e]; exact hi.numsOf
  rw [nums_intItems] at hn
  subst hn
  obtain ⟨ob, ho, hcl, n, hd⟩ := hl
  have ht : s.heap.IsTuple a (intItems xs) := by
    rw [← e]
    exact ⟨ob, ho, hcl, n, hd⟩
  have hsz : 0 < xs.size := by simpa using hne
  refine tup_min (I.ok.hd hc) ht hsz fun v h' tk hv hk => ?_
  obtain ⟨t, rfl⟩ := intItems_at hv
  obtain ⟨h1, h2⟩ := argBest_lt (numAt xs) (xs.size - 1)
  refine ⟨.int _, H, I.kept hk, ⟨_, rfl⟩, q _ ?_ fun y hy => ?_⟩
  · rw [numAt_eq]
    exact PySem.getD_mem (by rw [List.length_map, Array.length_toList]; omega)
  · obtain ⟨j, hj, rfl⟩ := mem_getD hy
    rw [List.length_map, Array.length_toList] at hj
    rw [← numAt_eq]
    exact h2 j (by omega)
theorem max_uniq {ns : List Int} {k m : Int} (hk : maxI ns = some k) (hm : m ∈ ns) (hy : ∀ y ∈ ns, y ≤ m) : m = k := by
  cases ns with
  | nil => cases hk
  | cons n ns =>
    have hk : some (ns.foldl max n) = some k := hk
    cases hk
    obtain ⟨h1, h2, h3⟩ := foldl_max_ge ns n
    refine Int.le_antisymm ?_ ?_
    · rcases List.mem_cons.mp hm with rfl | hm
      · exact h1
      · exact h2 m hm
    · rcases h3 with h3 | h3
      · rw [h3]
        exact hy n (List.mem_cons_self ..)
      · exact hy _ (List.mem_cons_of_mem _ h3)
theorem min_uniq {ns : List Int} {k m : Int} (hk : minI ns = some k) (hm : m ∈ ns) (hy : ∀ y ∈ ns, m ≤ y) : m = k := by
  cases ns with
  | nil => cases hk
  | cons n ns =>
    have hk : some (ns.foldl min n) = some k := hk
    cases hk
    obtain ⟨h1, h2, h3⟩ := foldl_min_le ns n
    refine Int.le_antisymm ?_ ?_
    · rcases h3 with h3 | h3
      · rw [h3]
        exact hy n (List.mem_cons_self ..)
      · exact hy _ (List.mem_cons_of_mem _ h3)
    · rcases List.mem_cons.mp hm with rfl | hm
      · exact h1
      · exact h2 m hm
theorem maxI_pos {ns : List Int} {k : Int} (hk : maxI ns = some k) : 0 < ns.length := by
  cases ns with
  | nil => cases hk
  | cons n ns => simp
theorem minI_pos {ns : List Int} {k : Int} (hk : minI ns = some k) : 0 < ns.length := by
  cases ns with
  | nil => cases hk
  | cons n ns => simp
theorem sv_max (hc : X.calm = true) : CallS X (.builtin "max") gMax := ⟨_, (cr_max hc).or (cr_maxT hc), fun m st H ds v E Q hS r hP => by
  obtain ⟨a, vs, rfl, q, rs⟩ := r
  unfold gMax at hP
  split at hP
  · rename_i k hk
    cases hn : intsD ds with
    | none =>
      rw [hn] at hk
      cases hk
    | some ns =>
      rw [hn] at hk
      have hk : maxI ns = some k := hk
      have e := intsD_V rs hn
      subst e
      have fin : ∀ mm, mm ∈ ns → (∀ y, y ∈ ns → y ≤ mm) → Q (.int mm) H := fun mm hm hy => by
        rw [max_uniq hk hm hy]
        exact hP.now hS (.int _)
      rcases q with q | q
      · exact .inl ⟨a, ns, rfl, q, maxI_pos hk, fin⟩
      · exact .inr ⟨a, ns, rfl, q, maxI_pos hk, fin⟩
  · exact hP.elim⟩
theorem sv_min (hc : X.calm = true) : CallS X (.builtin "min") gMin := ⟨_, (cr_min hc).or (cr_minT hc), fun m st H ds v E Q hS r hP => by
  obtain ⟨a, vs, rfl, q, rs⟩ := r
  unfold gMin at hP
  split at hP
  · rename_i k hk
    cases hn : intsD ds with
    | none =>
      rw [hn] at hk
      cases hk
    | some ns =>
      rw [hn] at hk
      have hk : minI ns = some k := hk
      have e := intsD_V rs hn
      subst e
      have fin : ∀ mm, mm ∈ ns → (∀ y, y ∈ ns → mm ≤ y) → Q (.int mm) H := fun mm hm hy => by
        rw [min_uniq hk hm hy]
        exact hP.now hS (.int _)
      rcases q with q | q
      · exact .inl ⟨a, ns, rfl, q, minI_pos hk, fin⟩
      · exact .inr ⟨a, ns, rfl, q, minI_pos hk, fin⟩
  · exact hP.elim⟩
end
/-! ### tuple(range(..)), list(range(..)) -/
section
variable {X : Cx} {W : WX} {e a b : Expr} {pos p p2 : Pos} {fa fb : EM D}
def okLen (j : Int) : Bool := decide (j.toNat ≤ 16777216) && decide (0 ≤ j)
theorem rng_rds {K : PySem.W.Frag} {m : List Addr} {H : Hp} {i j : Int} : RDs K m H (rng i j) (rgV i j) := by
  have e1 : rng i j = ((List.range (j - i).toNat).map fun k : Nat => i + (k : Int)).map D.int := by
    unfold rng
    rw [List.map_map]
    rfl
  have e2 : rgV i j = ((List.range (j - i).toNat).map fun k : Nat => i + (k : Int)).map V.int := by
    unfold rgV
    rw [List.map_map]
    rfl
  rw [e1, e2]
  exact RDs.ints _
theorem rg_ok {i j : Int} (hi : okLen i = true) (hj : okLen j = true) : RgOk i j := by
  unfold okLen at hi hj
  rw [Bool.and_eq_true, decide_eq_true_eq, decide_eq_true_eq] at hi hj
  exact RgOk.of_le hi.2 (by omega) (by omega) hj.2
def kTup (i j : Int) (st : Store) : ER D := if okLen i && okLen j then .ok (.tup (rng i j)) st else .bad
def kLst (i j : Int) (st : Store) : ER D := if okLen i && okLen j then .ok (.ref st.length) (st ++ [.lst (rng i j)]) else .bad
def eRg1 (k : Int → Int → Store → ER D) (fa : EM D) : EM D := fun τ st => (fa τ st).bind fun d s1 => match d with
  | .int j => k 0 j s1
  | _ => .bad
def eRg2 (k : Int → Int → Store → ER D) (fa fb : EM D) : EM D := fun τ st => (fa τ st).bind fun d s1 => (fb τ s1).bind fun e s2 => match d, e with
  | .int i, .int j => k i j s2
  | _, _ => .bad
theorem kTup_ok {K : PySem.W.Frag} {E : XK} {m : List Addr} {st : Store} {H : Hp} {Q : VK} {i j : Int} (hS : SS K m st H) (hP : Pe K E (RD K) m H (kTup i j st) Q) : RgOk i j ∧ ∀ q, H q = none → Q (.ref q) (upd H q (.tup (rgV i j))) := by
  unfold kTup at hP
  split at hP
  · rename_i hc
    rw [Bool.and_eq_true] at hc
    exact ⟨rg_ok hc.1 hc.2, hP.tup hS rng_rds⟩
  · exact hP.elim
theorem kLst_ok {K : PySem.W.Frag} {E : XK} {m : List Addr} {st : Store} {H : Hp} {Q : VK} {i j : Int} (hS : SS K m st H) (hP : Pe K E (RD K) m H (kLst i j st) Q) : RgOk i j ∧ ∀ q, H q = none → Q (.ref q) (upd H q (.lst (rgV i j))) := by
  unfold kLst at hP
  split at hP
  · rename_i hc
    rw [Bool.and_eq_true] at hc
    exact ⟨rg_ok hc.1 hc.2, hP.lst hS rng_rds⟩
  · exact hP.elim
theorem ex_tupRg1 (hc : X.calm = true) (hg : Gl X "tuple") (hm : X.mg "tuple" = none) (hg2 : Gl X "range") (hm2 : X.mg "range" = none) (ha : Ex X W a fa) (na : starEach [.Call (.Name "range" p2) [a] [] pos] X.env = (false, eval (.Call (.Name "range" p2) [a] [] pos) X.env) :: starEach [] X.env := by rfl) (nb : starEach [a] X.env = (false, eval a X.env) :: starEach [] X.env := by rfl) {pos2 : Pos} :
    Ex X W (.Call (.Name "tuple" p) [.Call (.Name "range" p2) [a] [] pos] [] pos2) (eRg1 kTup fa) := by
  refine ⟨fun m τ st σ H Q hL hS hP pins s I => (pe_tupRg hc hg hm (prg_1 hg2 hm2 peW nb) na).run pins s σ H Q I ?_⟩
  refine ha.run m τ st σ H _ hL hS (hP.bind fun d s1 m1 H1 v e1 hS1 r1 hP1 => ?_)
  split at hP1
  · cases r1
    exact ⟨_, rfl, kTup_ok hS1 hP1⟩
  · exact hP1.elim
theorem ex_lstRg1 (hc : X.calm = true) (hg : Gl X "list") (hm : X.mg "list" = none) (hg2 : Gl X "range") (hm2 : X.mg "range" = none) (ha : Ex X W a fa) (na : starEach [.Call (.Name "range" p2) [a] [] pos] X.env = (false, eval (.Call (.Name "range" p2) [a] [] pos) X.env) :: starEach [] X.env := by rfl) (nb : starEach [a] X.env = (false, eval a X.env) :: starEach [] X.env := by rfl) {pos2 : Pos} :
    Ex X W (.Call (.Name "list" p) [.Call (.Name "range" p2) [a] [] pos] [] pos2) (eRg1 kLst fa) := by
  refine ⟨fun m τ st σ H Q hL hS hP pins s I => (pe_listRg hc hg hm (prg_1 hg2 hm2 peW nb) na).run pins s σ H Q I ?_⟩
  refine ha.run m τ st σ H _ hL hS (hP.bind fun d s1 m1 H1 v e1 hS1 r1 hP1 => ?_)
  split at hP1
  · cases r1
    exact ⟨_, rfl, kLst_ok hS1 hP1⟩
  · exact hP1.elim
end
/-! ### zip of two -/
section
variable {X : Cx} {W : WX} {a b : Expr} {pos p tpos : Pos} {fa fb : EM D}
theorem zipD_at {xs ys : List D} {i : Nat} {d : D} (h : (zipD xs ys)[i]? = some d) : ∃ x y, xs[i]? = some x ∧ ys[i]? = some y ∧ d = .tup [x, y] := by
  unfold zipD at h
  rw [List.getElem?_map] at h
  cases hz : (List.zip xs ys)[i]? with
  | none =>
    rw [hz] at h
    cases h
  | some q =>
    rw [hz] at h
    cases h
    obtain ⟨h1, h2⟩ := List.getElem?_zip_eq_some.mp hz
    exact ⟨_, _, h1, h2, rfl⟩
theorem zipD_len (xs ys : List D) : (zipD xs ys).length = min xs.length ys.length := by
  unfold zipD
  rw [List.length_map, List.length_zip]
theorem j_zipT {K : PySem.W.Frag} {m0 : List Addr} {H0 : Hp} {a b : Addr} {vs us : List V} {xs ys : List D} (hq : SqT K H0 a vs) (rs : RDs K m0 H0 xs vs) (hq2 : SqT K H0 b us) (rs2 : RDs K m0 H0 ys us) : JOk K m0 H0 (.fix (zipD xs ys)) (RZ.ItzT K a b) := fun m H st e s _ => by
  have q1 := e.tup a vs hq
  have q2 := e.tup b us hq2
  have r1 := rs.mono e
  have r2 := rs2.mono e
  refine ⟨fun i d hd => ?_, vs, us, q1, q2, ?_⟩
  · obtain ⟨x, y, hx, hy, rfl⟩ := zipD_at (show (zipD xs ys)[i]? = some d from hd)
    obtain ⟨v, hv, rv⟩ := r1.get hx
    obtain ⟨u, hu, ru⟩ := r2.get hy
    refine ⟨⟨vs, us, v, u, q1, q2, hv, hu⟩, fun z H' hz => ?_⟩
    obtain ⟨T, v', u', rfl, hT, rfl, g1, g2⟩ := hz
    have z1 := g1 vs q1
    have z2 := g2 us q2
    rw [hv] at z1
    rw [hu] at z2
    cases z1
    cases z2
    exact ⟨Ext.fresh hT, s.fresh hT, .tup (SqT.of upd_same) (.cons (rv.mono (Ext.fresh hT)) (.cons (ru.mono (Ext.fresh hT)) .nil))⟩
  · show vs.length ≤ (zipD xs ys).length ∨ us.length ≤ (zipD xs ys).length
    rw [zipD_len, rs.len, rs2.len]
    omega
theorem j_zipL {K : PySem.W.Frag} {m0 : List Addr} {H0 : Hp} {a b : Addr} {n k : Nat} {xs ys : List D} (ha : m0[n]? = some a) (hb : m0[k]? = some b) : JOk K m0 H0 (.two n k xs ys) (Itz K a b) := fun m H st e s hc => by
  have hc : (decide (lstAt st n = some xs) && decide (lstAt st k = some ys)) = true := hc
  rw [Bool.and_eq_true, decide_eq_true_eq, decide_eq_true_eq] at hc
  obtain ⟨vs, h1, r1⟩ := s.list hc.1 (e.pre n a ha)
  obtain ⟨us, h2, r2⟩ := s.list hc.2 (e.pre k b hb)
  have q1 : SqL K H a vs := SqL.of h1
  have q2 : SqL K H b us := SqL.of h2
  refine ⟨fun i d hd => ?_, vs, us, q1, q2, ?_⟩
  · obtain ⟨x, y, hx, hy, rfl⟩ := zipD_at (show (zipD xs ys)[i]? = some d from hd)
    obtain ⟨v, hv, rv⟩ := r1.get hx
    obtain ⟨u, hu, ru⟩ := r2.get hy
    refine ⟨⟨vs, us, v, u, q1, q2, hv, hu⟩, fun z H' hz => ?_⟩
    obtain ⟨T, v', u', rfl, hT, rfl, g1, g2⟩ := hz
    have z1 := g1 vs q1
    have z2 := g2 us q2
    rw [hv] at z1
    rw [hu] at z2
    cases z1
    cases z2
    exact ⟨Ext.fresh hT, s.fresh hT, .tup (SqT.of upd_same) (.cons (rv.mono (Ext.fresh hT)) (.cons (ru.mono (Ext.fresh hT)) .nil))⟩
  · show vs.length ≤ (zipD xs ys).length ∨ us.length ≤ (zipD xs ys).length
    rw [zipD_len, r1.len, r2.len]
    omega
def zip2 (d e : D) (st : Store) : ER Sq := match d, e with
  | .tup xs, .tup ys => .ok (.fix (zipD xs ys)) st
  | .ref n, .ref k => match lstAt st n, lstAt st k with
    | some xs, some ys => .ok (.two n k xs ys) st
    | _, _ => .bad
  | _, _ => .bad
def iZip (fa fb : EM D) : EM Sq := fun τ st => (fa τ st).bind fun d s1 => (fb τ s1).bind fun e s2 => zip2 d e s2
theorem ei_zip {elts : List Expr} {kk : Nat} (hg : Gl X "zip") (hm : X.mg "zip" = none) (ha : Ex X W a fa) (hb : Ex X W b fb)
    (hs : starEach [a, b] X.env = (false, eval a X.env) :: starEach [b] X.env := by rfl) (hs2 : starEach [b] X.env = (false, eval b X.env) :: starEach [] X.env := by rfl) (hpl : (backTo pos (starEach [b] X.env)).any (·.1) = false := by rfl) :
    Ei X W (.Tuple elts kk tpos) (.Call (.Name "zip" p) [a, b] [] pos) (iZip fa fb) := by
  refine ⟨fun m τ st σ H R hL hS hP pins s I => (RZ.pi_zipA (elts := elts) (kk := kk) (tpos := tpos) hg hm (pa_cons peW (pa_cons peW pa_nil hs2) hs) hs hpl).run pins s σ H R I ?_⟩
  refine two ha hb hL hS hP fun m2 st2 H2 dx dy x y e2 hS2 r1 r2 hP2 => ?_
  unfold zip2 at hP2
  split at hP2
  · cases r1 with
    | tup q rs =>
      cases r2 with
      | tup q2 rs2 => exact ⟨_, _, _, _, rfl, .inr ⟨q, q2, hP2.now hS2 (j_zipT q rs q2 rs2)⟩⟩
  · split at hP2
    · rename_i xs ys hx hy
      cases r1 with
      | ref q =>
        cases r2 with
        | ref q2 =>
          obtain ⟨vs, h1, _⟩ := hS2.list hx q
          obtain ⟨us, h2, _⟩ := hS2.list hy q2
          exact ⟨_, _, vs, us, rfl, .inl ⟨SqL.of h1, SqL.of h2, hP2.now hS2 (j_zipL q q2)⟩⟩
    · exact hP2.elim
  · exact hP2.elim
end
end HM

/-! HM, part S: how mirrors are computed (simp). -/
namespace HM
open PySem PySem.Spec PyProof.Rows L2
section
variable {α β : Type} {τ : Sl} {st : Store} {f g h fa fb fc fe fo fi : EM D} {fs : EM (List D)} {ga gb : EM Bool} {i n : Nat} {d : D} {u v : SM}
@[simp] theorem eVar_e (hh : τ[i]? = some (some d)) : eVar i τ st = .ok d st := by unfold eVar; rw [hh]
@[simp] theorem eC_e : eC d τ st = .ok d st := rfl
@[simp] theorem eBin_e {o : O2} : eBin o fa fb τ st = (fa τ st).bind fun x s1 => (fb τ s1).bind fun y s2 => o x y s2 := rfl
@[simp] theorem eUn_e {o : O1} : eUn o fa τ st = (fa τ st).bind o := rfl
@[simp] theorem tBl_e : tBl fa τ st = (fa τ st).bind dBl := rfl
@[simp] theorem dBl_e {b : Bool} : dBl (.bl b) st = .ok b st := rfl
def oTru (d : D) (st : Store) : ER Bool := match dTru st d with
  | some b => .ok b st
  | none => .bad
@[simp] theorem tVal_e : tVal fa τ st = (fa τ st).bind oTru := rfl
@[simp] theorem oTru_bl {b : Bool} : oTru (.bl b) st = .ok b st := rfl
@[simp] theorem oTru_int {k : Int} : oTru (.int k) st = .ok (k != 0) st := rfl
@[simp] theorem oTru_non : oTru .non st = .ok false st := rfl
@[simp] theorem oTru_tup {xs : List D} : oTru (.tup xs) st = .ok (!xs.isEmpty) st := rfl
@[simp] theorem tAnd_e : HM.tAnd ga gb τ st = (ga τ st).bind fun x s1 => if x then gb τ s1 else .ok false s1 := rfl
@[simp] theorem tOr_e : HM.tOr ga gb τ st = (ga τ st).bind fun x s1 => if x then .ok true s1 else gb τ s1 := rfl
@[simp] theorem tNot_e : HM.tNot ga τ st = (ga τ st).bind fun x s1 => .ok (!x) s1 := rfl
@[simp] theorem tYes_e : HM.tYes τ st = .ok true st := rfl
def oAndV (k : Store → ER D) (d : D) (st : Store) : ER D := match dTru st d with
  | some true => k st
  | some false => .ok d st
  | none => .bad
def oOrV (k : Store → ER D) (d : D) (st : Store) : ER D := match dTru st d with
  | some true => .ok d st
  | some false => k st
  | none => .bad
def oNotV (d : D) (st : Store) : ER D := match dTru st d with
  | some b => .ok (.bl !b) st
  | none => .bad
@[simp] theorem eAnd_e : eAnd fa fb τ st = (fa τ st).bind (oAndV (fb τ)) := rfl
@[simp] theorem eOr_e : eOr fa fb τ st = (fa τ st).bind (oOrV (fb τ)) := rfl
@[simp] theorem eNot_e : eNot fa τ st = (fa τ st).bind oNotV := rfl
@[simp] theorem oAndV_bl {k : Store → ER D} {b : Bool} : oAndV k (.bl b) st = if b then k st else .ok (.bl false) st := by cases b <;> rfl
@[simp] theorem oOrV_bl {k : Store → ER D} {b : Bool} : oOrV k (.bl b) st = if b then .ok (.bl true) st else k st := by cases b <;> rfl
@[simp] theorem oNotV_bl {b : Bool} : oNotV (.bl b) st = .ok (.bl !b) st := rfl
@[simp] theorem eIf_e : eIf ga fa fb τ st = (ga τ st).bind fun x s1 => if x then fa τ s1 else fb τ s1 := rfl
@[simp] theorem aNil_e : aNil τ st = .ok [] st := rfl
@[simp] theorem aCons_e : aCons f fs τ st = (f τ st).bind fun x s1 => (fs τ s1).bind fun xs s2 => .ok (x :: xs) s2 := rfl
@[simp] theorem eTup_e : eTup fs τ st = (fs τ st).bind fun xs s1 => if xs.length ≤ 16777216 then .ok (.tup xs) s1 else .bad := rfl
@[simp] theorem eLst_e : eLst fs τ st = (fs τ st).bind fun xs s1 => if xs.length ≤ 16777216 then .ok (.ref s1.length) (s1 ++ [.lst xs]) else .bad := rfl
@[simp] theorem eCall_e {mf : FM} : eCall n mf fs τ st = (fs τ st).bind fun ds s1 => if ds.length = n then mf ds s1 else .bad := rfl
@[simp] theorem eCB_e {mf : FM} : eCB mf fs τ st = (fs τ st).bind mf := rfl
@[simp] theorem eCS_e {g : SM1} : eCS g fs τ st = (fs τ st).bind g := rfl
@[simp] theorem eEl_e : eEl fs τ st = (fs τ st).bind fun ds s1 => .ok (.ref s1.length) (s1 ++ [.lst ds]) := rfl
def oSeq (d : D) (st : Store) : ER (List D) := match dSeq st d with
  | some xs => .ok xs st
  | none => .bad
@[simp] theorem sEx_e : sEx f τ st = (f τ st).bind oSeq := rfl
@[simp] theorem oSeq_tup {xs : List D} : oSeq (.tup xs) st = .ok xs st := rfl
@[simp] theorem oSeq_rol {xs : List D} : oSeq (.rol xs) st = .ok xs st := rfl
@[simp] theorem eChain_e {o o' : O2} : eChain o o' fa fb fc τ st = (fa τ st).bind fun x s1 => (fb τ s1).bind fun y s2 => (o x y s2).bind fun z s3 => match z with
  | .bl true => (fc τ s3).bind fun w s4 => o' y w s4
  | .bl false => .ok (.bl false) s3
  | _ => .bad := rfl
/-! values -/
@[simp] theorem oAdd_int {i j : Int} : oAdd (.int i) (.int j) st = .ok (.int (i + j)) st := rfl
@[simp] theorem oIAdd_int {i j : Int} : oIAdd (.int i) (.int j) st = .ok (.int (i + j)) st := rfl
@[simp] theorem oAdd_str {a b : List Nat} : oAdd (.str a) (.str b) st = if a.length + b.length ≤ 16777216 then .ok (.str (a ++ b)) st else .bad := rfl
@[simp] theorem oAdd_tup {a b : List D} : oAdd (.tup a) (.tup b) st = if a.length + b.length ≤ 16777216 then .ok (.tup (a ++ b)) st else .bad := rfl
@[simp] theorem oInt_e {i j : Int} {k : Int → Int → Int} : oInt k (.int i) (.int j) st = .ok (.int (k i j)) st := rfl
@[simp] theorem oIntC_e {i j : Int} {C : Int → Int → Bool} {k : Int → Int → Int} (hc : C i j = true) : oIntC C k (.int i) (.int j) st = .ok (.int (k i j)) st := by
  show (if C i j = true then _ else _) = _
  rw [if_pos hc]
@[simp] theorem oCmp_e {i j : Int} {k : Int → Int → Bool} : oCmp k (.int i) (.int j) st = .ok (.bl (k i j)) st := rfl
@[simp] theorem oNeg_e {i : Int} : oNeg (.int i) st = .ok (.int (-i)) st := rfl
@[simp] theorem oEq_int {i j : Int} : oEq (.int i) (.int j) st = .ok (.bl (decide (i = j))) st := rfl
@[simp] theorem oNe_int {i j : Int} : oNe (.int i) (.int j) st = .ok (.bl !(decide (i = j))) st := rfl
@[simp] theorem oEq_str {a b : List Nat} : oEq (.str a) (.str b) st = .ok (.bl (decide (a = b))) st := rfl
@[simp] theorem oNe_str {a b : List Nat} : oNe (.str a) (.str b) st = .ok (.bl !(decide (a = b))) st := rfl
@[simp] theorem oEq_bl {a b : Bool} : oEq (.bl a) (.bl b) st = .ok (.bl (decide (a = b))) st := rfl
@[simp] theorem oNe_bl {a b : Bool} : oNe (.bl a) (.bl b) st = .ok (.bl !(decide (a = b))) st := rfl
@[simp] theorem oEq_tup {a b : List D} (ha : (D.tup a).plain 60 = true) (hb : (D.tup b).plain 60 = true) : oEq (.tup a) (.tup b) st = .ok (.bl (decide (a = b))) st := by
  simp [oEq, dEq, D.pd, ha, hb]
@[simp] theorem oNe_tup {a b : List D} (ha : (D.tup a).plain 60 = true) (hb : (D.tup b).plain 60 = true) : oNe (.tup a) (.tup b) st = .ok (.bl !(decide (a = b))) st := by
  simp [oNe, dEq, D.pd, ha, hb]
@[simp] theorem plain_tup {n : Nat} {xs : List D} : (D.tup xs).plain (n + 1) = xs.all (D.plain n) := rfl
@[simp] theorem plain_int {n : Nat} {k : Int} : (D.int k).plain n = true := by cases n <;> rfl
@[simp] theorem plain_non {n : Nat} : D.non.plain n = true := by cases n <;> rfl
@[simp] theorem plain_str {n : Nat} {x : List Nat} : (D.str x).plain n = x.all fun c => decide (c < 1114112) := by cases n <;> rfl
@[simp] theorem oIs_bl {a b : Bool} : oIs (.bl a) (.bl b) st = .ok (.bl (decide (a = b))) st := rfl
@[simp] theorem oIsNot_bl {a b : Bool} : oIsNot (.bl a) (.bl b) st = .ok (.bl !(decide (a = b))) st := rfl
@[simp] theorem oIs_non : oIs .non .non st = .ok (.bl true) st := rfl
@[simp] theorem oIs_int {i : Int} : oIs (.int i) .non st = .ok (.bl false) st := rfl
@[simp] theorem oIs_tup {xs : List D} : oIs (.tup xs) .non st = .ok (.bl false) st := rfl
@[simp] theorem oIsNot_non : oIsNot .non .non st = .ok (.bl false) st := rfl
@[simp] theorem oIsNot_int {i : Int} : oIsNot (.int i) .non st = .ok (.bl true) st := rfl
@[simp] theorem oIsNot_tup {xs : List D} : oIsNot (.tup xs) .non st = .ok (.bl true) st := rfl
def ofO (st : Store) : Option D → ER D
  | some d => .ok d st
  | none => .bad
@[simp] theorem ofO_some : ofO st (some d) = .ok d st := rfl
@[simp] theorem oIx_tup {xs : List D} {k : Int} : oIx (.tup xs) (.int k) st = ofO st (atI xs k) := by
  unfold oIx ofO
  simp only <;> (split <;> simp_all)
theorem oIx_ref {xs : List D} {m : Nat} {k : Int} (hh : lstAt st m = some xs) : oIx (.ref m) (.int k) st = ofO st (atI xs k) := by
  unfold oIx ofO
  simp only [hh] <;> (split <;> simp_all)
@[simp] theorem atI_0 {α : Type} {x : α} {xs : List α} : atI (x :: xs) 0 = some x := by simp [atI, ixN]
@[simp] theorem atI_1 {α : Type} {x y : α} {xs : List α} : atI (x :: y :: xs) 1 = some y := atI_nat (j := 1) rfl
@[simp] theorem atI_2 {α : Type} {x y z : α} {xs : List α} : atI (x :: y :: z :: xs) 2 = some z := atI_nat (j := 2) rfl
@[simp] theorem atI_3 {α : Type} {x y z w : α} {xs : List α} : atI (x :: y :: z :: w :: xs) 3 = some w := atI_nat (j := 3) rfl
/-! built-ins -/
@[simp] theorem fInt_int {i : Int} : fInt [.int i] st = .ok (.int i) st := rfl
@[simp] theorem fInt_bl {b : Bool} : fInt [.bl b] st = .ok (.int (if b then 1 else 0)) st := rfl
@[simp] theorem fAbs_e {i : Int} : fAbs [.int i] st = .ok (.int (i.natAbs : Nat)) st := rfl
@[simp] theorem fGcd_e {i j : Int} : fGcd [.int i, .int j] st = .ok (.int (Nat.gcd i.natAbs j.natAbs : Nat)) st := rfl
@[simp] theorem fLen_tup {xs : List D} : fLen [.tup xs] st = .ok (.int xs.length) st := rfl
@[simp] theorem fLen_rol {xs : List D} : fLen [.rol xs] st = .ok (.int xs.length) st := rfl
theorem fLen_ref {xs : List D} {m : Nat} (hh : lstAt st m = some xs) : fLen [.ref m] st = .ok (.int xs.length) st := by simp [fLen, dSeq, hh]
@[simp] theorem fTuple_tup {xs : List D} : fTuple [.tup xs] st = .ok (.tup xs) st := rfl
theorem fTuple_ref {xs : List D} {m : Nat} (hh : lstAt st m = some xs) : fTuple [.ref m] st = .ok (.tup xs) st := by simp [fTuple, dSeq, hh]
@[simp] theorem gTuple_e {xs : List D} : gTuple xs st = .ok (.tup xs) st := rfl
@[simp] theorem gLen_e {xs : List D} : gLen xs st = .ok (.int xs.length) st := rfl
@[simp] theorem fMin2_e {i j : Int} : fMin2 [.int i, .int j] st = .ok (.int (if j < i then j else i)) st := rfl
@[simp] theorem fMax2_e {i j : Int} : fMax2 [.int i, .int j] st = .ok (.int (if j > i then j else i)) st := rfl
theorem fIsi_e {t c : String} {b : Bool} (h1 : dTy st d = some t) (h2 : isiT t c = some b) : fIsi [d, .ty c] st = .ok (.bl b) st := by simp [fIsi, h1, h2]
theorem isi1 : isiT "int" "int" = some true := by decide +kernel
theorem isi2 : isiT "int" "bool" = some false := by decide +kernel
theorem isi3 : isiT "bool" "int" = some true := by decide +kernel
theorem isi4 : isiT "bool" "bool" = some true := by decide +kernel
theorem isi5 : isiT "tuple" "tuple" = some true := by decide +kernel
theorem isi6 : isiT "tuple" "int" = some false := by decide +kernel
theorem isi7 : isiT "str" "str" = some true := by decide +kernel
theorem isi8 : isiT "str" "int" = some false := by decide +kernel
theorem isi9 : isiT "NoneType" "int" = some false := by decide +kernel
@[simp] theorem fIsi_ii {i : Int} : fIsi [.int i, .ty "int"] st = .ok (.bl true) st := fIsi_e rfl isi1
@[simp] theorem fIsi_ib {i : Int} : fIsi [.int i, .ty "bool"] st = .ok (.bl false) st := fIsi_e rfl isi2
@[simp] theorem fIsi_bi {i : Bool} : fIsi [.bl i, .ty "int"] st = .ok (.bl true) st := fIsi_e rfl isi3
@[simp] theorem fIsi_bb {i : Bool} : fIsi [.bl i, .ty "bool"] st = .ok (.bl true) st := fIsi_e rfl isi4
@[simp] theorem fIsi_tt {xs : List D} : fIsi [.tup xs, .ty "tuple"] st = .ok (.bl true) st := fIsi_e rfl isi5
@[simp] theorem fIsi_ti {xs : List D} : fIsi [.tup xs, .ty "int"] st = .ok (.bl false) st := fIsi_e rfl isi6
@[simp] theorem fIsi_ss {x : List Nat} : fIsi [.str x, .ty "str"] st = .ok (.bl true) st := fIsi_e rfl isi7
@[simp] theorem fIsi_si {x : List Nat} : fIsi [.str x, .ty "int"] st = .ok (.bl false) st := fIsi_e rfl isi8
@[simp] theorem fIsi_ni : fIsi [.non, .ty "int"] st = .ok (.bl false) st := fIsi_e rfl isi9
/-! statements -/
def SR.seq (r : SR) (k : SM) : SR := match r with
  | .nx τ s => k τ s
  | r => r
@[simp] theorem seq_nx {k : SM} : (SR.nx τ st).seq k = k τ st := rfl
@[simp] theorem seq_rt {k : SM} : (SR.rt d st).seq k = .rt d st := rfl
@[simp] theorem seq_bad {k : SM} : SR.bad.seq k = .bad := rfl
@[simp] theorem seq_exc {x : Xc} {k : SM} : (SR.exc x τ st).seq k = .exc x τ st := rfl
@[simp] theorem seq_bk {k : SM} : (SR.bk τ st).seq k = .bk τ st := rfl
@[simp] theorem seq_ct {k : SM} : (SR.ct τ st).seq k = .ct τ st := rfl
@[simp] theorem sSeq_e : sSeq u v τ st = (u τ st).seq v := by
  unfold sSeq SR.seq
  rfl
@[simp] theorem sNil_e : sNil τ st = .nx τ st := rfl
@[simp] theorem sIf_e : sIf ga u v τ st = bindE (ga τ st) τ fun b s1 => if b then u τ s1 else v τ s1 := rfl
@[simp] theorem sSet_e : sSet i fe τ st = bindE (fe τ st) τ fun d s1 => .nx (τ.set i (some d)) s1 := rfl
@[simp] theorem sRet_e : sRet fe τ st = bindE (fe τ st) τ fun d s1 => .rt d s1 := rfl
@[simp] theorem sRetN_e : sRetN τ st = .rt .non st := rfl
@[simp] theorem sExpr_e : sExpr fe τ st = bindE (fe τ st) τ fun _ s1 => .nx τ s1 := rfl
@[simp] theorem sRaise_e {x : Xc} : sRaise x τ st = .exc x τ st := rfl
@[simp] theorem sBrk_e : sBrk τ st = .bk τ st := rfl
@[simp] theorem sCnt_e : sCnt τ st = .ct τ st := rfl
@[simp] theorem bindE_bind {r : ER α} {k : α → Store → ER β} {k' : β → Store → SR} : bindE (r.bind k) τ k' = bindE r τ fun a s => bindE (k a s) τ k' := by cases r <;> rfl
@[simp] theorem bind_bind {γ : Type} {r : ER α} {k : α → Store → ER β} {k' : β → Store → ER γ} : (r.bind k).bind k' = r.bind fun a s => (k a s).bind k' := by cases r <;> rfl
@[simp] theorem bind_ite {c : Prop} [Decidable c] {r r' : ER α} {k : α → Store → ER β} : (if c then r else r').bind k = if c then r.bind k else r'.bind k := by split <;> rfl
@[simp] theorem bindE_ite {c : Prop} [Decidable c] {r r' : ER α} {k : α → Store → SR} : bindE (if c then r else r') τ k = if c then bindE r τ k else bindE r' τ k := by split <;> rfl
def SR.fin : SR → ER D
  | .nx _ s => .ok .non s
  | .rt d s => .ok d s
  | .exc x _ s => .exc x s
  | _ => .bad
@[simp] theorem fin_nx : (SR.nx τ st).fin = .ok .non st := rfl
@[simp] theorem fin_rt : (SR.rt d st).fin = .ok d st := rfl
@[simp] theorem fin_exc {x : Xc} : (SR.exc x τ st).fin = .exc x st := rfl
@[simp] theorem fin_bad : SR.bad.fin = .bad := rfl
theorem runB_e {ds : List D} : runB n u ds st = (u (ent n ds) st).fin := rfl
@[simp] theorem fin_ite {c : Prop} [Decidable c] {r r' : SR} : (if c then r else r').fin = if c then r.fin else r'.fin := by split <;> rfl
@[simp] theorem seq_ite {c : Prop} [Decidable c] {r r' : SR} {k : SM} : (if c then r else r').seq k = if c then r.seq k else r'.seq k := by split <;> rfl
@[simp] theorem ent_0 : ent n [] = List.replicate n none := by simp [ent]
@[simp] theorem ent_cons {x : D} {xs : List D} : ent (n + 1) (x :: xs) = some x :: ent n xs := by
  simp [ent]
end
end HM

/-! HM, part T: lists written to, loops, the draws' store. -/
namespace HM
open PySem PySem.Spec PyProof.Rows L2
section
variable {α β : Type} {τ : Sl} {st : Store} {f g h fa fb fc fe fo fi : EM D} {fs : EM (List D)} {ga gb : EM Bool} {i n m : Nat} {d v : D} {xs ys : List D} {u w : SM}
theorem lstAt_set (hh : lstAt st n = some xs) : lstAt (st.set n (.lst ys)) n = some ys := by
  have : n < st.length := by
    unfold lstAt at hh
    split at hh
    · rename_i e
      exact (List.getElem?_eq_some_iff.mp e).1
    · cases hh
  simp [lstAt, this]
theorem lstAt_ne {c : Cell} (hh : m ≠ n) : lstAt (st.set n c) m = lstAt st m := by
  unfold lstAt
  rw [List.getElem?_set_ne (Ne.symm hh)]
theorem oSet_ref {k : Int} {j : Nat} (hh : lstAt st m = some xs) (hj : ixN xs.length k = some j) : oSet (.ref m) (.int k) v st = some (st.set m (.lst (xs.set j v))) := by
  simp [oSet, hh, hj]
theorem oGetL_ref {k : Int} (hh : lstAt st m = some xs) : oGetL (.ref m) (.int k) st = ofO st (atI xs k) := by
  unfold oGetL ofO
  simp only [hh] <;> (split <;> simp_all)
def ofS (τ : Sl) : Option Store → SR
  | some s => .nx τ s
  | none => .bad
@[simp] theorem ofS_some : ofS τ (some st) = .nx τ st := rfl
@[simp] theorem sSub_e : sSub fo fi fe τ st = bindE (fe τ st) τ fun v s1 => bindE (fo τ s1) τ fun o s2 => bindE (fi τ s2) τ fun i s3 => ofS τ (oSet o i v s3) := by
  unfold sSub ofS
  rfl
@[simp] theorem sAugS_e {o : O2} : sAugS o fo fi fe τ st = bindE (fo τ st) τ fun x s1 => bindE (fi τ s1) τ fun i s2 => bindE (oGetL x i s2) τ fun y s3 => bindE (fe τ s3) τ fun z s4 => bindE (o y z s4) τ fun v s5 => ofS τ (oSet x i v s5) := by
  unfold sAugS ofS
  rfl
theorem sAug_e {o : O2} (hh : τ[i]? = some (some d)) : sAug i o fe τ st = bindE (fe τ st) τ fun y s1 => bindE (o d y s1) τ fun z s2 => .nx (τ.set i (some z)) s2 := by
  unfold sAug
  rw [hh]
def ofA (set : D → Sl → Option Sl) (τ : Sl) (d : D) (st : Store) : SR := match set d τ with
  | some τ1 => .nx τ1 st
  | none => .bad
@[simp] theorem sAsg_e {set : D → Sl → Option Sl} : sAsg set fe τ st = bindE (fe τ st) τ (ofA set τ) := rfl
@[simp] theorem okMul_l {i j : Int} (hh : i.natAbs < 18446744073709551616) : okMul i j = true := decide_eq_true (.inl (.inl hh))
@[simp] theorem okMul_r {i j : Int} (hh : j.natAbs < 18446744073709551616) : okMul i j = true := decide_eq_true (.inl (.inr hh))
theorem okMod_of {i j : Int} (hh : j ≠ 0) : okMod i j = true := decide_eq_true hh
theorem okDiv_of {i j : Int} (hh : j ≠ 0) (h2 : j.natAbs.log2 < 9000) : okDiv i j = true := decide_eq_true ⟨hh, h2⟩
theorem log2_le {x k : Nat} (h : x < 2 ^ k) : x.log2 ≤ k := by
  by_cases z : x = 0
  · subst z
    exact Nat.zero_le _
  · exact Nat.le_of_lt ((Nat.log2_lt z).mpr h)
/-! for loops -/
theorem sFor_e {fi : EM Sq} {set : D → Sl → Option Sl} : sFor fi set u τ st = bindE (fi τ st) τ fun q s1 => forL q set u q.items τ s1 := rfl
def ofQ (st : Store) : Option Sq → ER Sq
  | some q => .ok q st
  | none => .bad
@[simp] theorem ofQ_some {q : Sq} : ofQ st (some q) = .ok q st := rfl
@[simp] theorem iEx_e : iEx f τ st = (f τ st).bind fun d s1 => ofQ s1 (dSq s1 d) := by
  unfold iEx ofQ
  rfl
@[simp] theorem dSq_tup : dSq st (.tup xs) = some (.fix xs) := rfl
@[simp] theorem dSq_rol : dSq st (.rol xs) = some (.fix xs) := rfl
theorem dSq_ref (hh : lstAt st n = some xs) : dSq st (.ref n) = some (.cell n xs) := by simp [dSq, hh]
@[simp] theorem items_fix : (Sq.fix xs).items = xs := rfl
@[simp] theorem items_cell : (Sq.cell n xs).items = xs := rfl
@[simp] theorem iEl_e : iEl fs τ st = (fs τ st).bind fun xs s1 => .ok (.fix xs) s1 := rfl
def rg1 (d : D) (st : Store) : ER Sq := match d with
  | .int j => if okRng j then .ok (.fix (rng 0 j)) st else .bad
  | _ => .bad
def rg2 (d e : D) (st : Store) : ER Sq := match d, e with
  | .int i, .int j => if okRng i && okRng j then .ok (.fix (rng i j)) st else .bad
  | _, _ => .bad
@[simp] theorem iRg1_e : iRg1 f τ st = (f τ st).bind rg1 := rfl
@[simp] theorem iRg2_e : iRg2 fa fb τ st = (fa τ st).bind fun d s1 => (fb τ s1).bind fun e s2 => rg2 d e s2 := rfl
theorem okRng_of {j : Int} (hh : j.natAbs < 4611686018427387904) : okRng j = true := decide_eq_true hh
theorem rg1_int {j : Int} (hh : j.natAbs < 4611686018427387904) : rg1 (.int j) st = .ok (.fix (rng 0 j)) st := by simp [rg1, okRng_of hh]
theorem rg2_int {i j : Int} (hi : i.natAbs < 4611686018427387904) (hh : j.natAbs < 4611686018427387904) : rg2 (.int i) (.int j) st = .ok (.fix (rng i j)) st := by simp [rg2, okRng_of hh, okRng_of hi]
/-- a loop, by an invariant -/
theorem for_inv {set : D → Sl → Option Sl} {q : Sq} (P : Nat → Sl → Store → Prop) (hc : ∀ k τ st, P k τ st → q.chk st = true) :
    ∀ (xs : List D) (k : Nat) (τ : Sl) (st : Store), P k τ st →
    (∀ i d τ st, xs[i]? = some d → P (k + i) τ st → ∃ τ1, set d τ = some τ1 ∧ ∃ τ2 s2, (u τ1 st = .nx τ2 s2 ∨ u τ1 st = .ct τ2 s2) ∧ P (k + i + 1) τ2 s2) →
    ∃ τ' st', forL q set u xs τ st = .nx τ' st' ∧ P (k + xs.length) τ' st'
  | [], k, τ, st, h0, _ => ⟨τ, st, by
      unfold forL
      rw [if_pos (hc _ _ _ h0)], h0⟩
  | d :: ds, k, τ, st, h0, hs => by
    obtain ⟨τ1, e1, τ2, s2, e2, h2⟩ := hs 0 d τ st rfl h0
    obtain ⟨τ', st', e3, h3⟩ := for_inv (q := q) P hc ds (k + 1) τ2 s2 h2 fun i d τ st hi hp => by
      have := hs (i + 1) d τ st hi (by rwa [show k + (i + 1) = k + 1 + i by omega])
      rwa [show k + (i + 1) + 1 = k + 1 + i + 1 by omega] at this
    refine ⟨τ', st', ?_, ?_⟩
    · unfold forL
      rw [if_pos (hc _ _ _ h0), e1]
      rcases e2 with e2 | e2 <;> simp only [e2, e3]
    · rw [List.length_cons]
      rwa [show k + (ds.length + 1) = k + 1 + ds.length by omega]
/-! comprehensions -/
def lc1 (own : List Nat) (set : D → Sl → Option Sl) (ft : EM Bool) (fe : EM D) (τ : Sl) (q : Sq) (st : Store) : ER (List D) := if q.items.length ≤ 16777216 then compL q set ft fe (wipeD τ own) q.items [] st else .bad
theorem lComp_e {own : List Nat} {fi : EM Sq} {set : D → Sl → Option Sl} {ft : EM Bool} : lComp own fi set ft fe τ st = (fi τ st).bind (lc1 own set ft fe τ) := rfl
/-- a comprehension without tests -/
theorem comp_inv {set : D → Sl → Option Sl} {q : Sq} (P : List D → Store → Prop) (hc : ∀ acc st, P acc st → q.chk st = true) :
    ∀ (xs acc : List D) (st : Store), P acc st →
    (∀ i d acc' st, xs[i]? = some d → acc'.length = acc.length + i → P acc' st → ∃ τ1, set d τ = some τ1 ∧ ∃ x s2, fe τ1 st = .ok x s2 ∧ P (acc' ++ [x]) s2) →
    ∃ ys st', compL q set tYes fe τ xs acc st = .ok ys st' ∧ P ys st' ∧ ys.length = acc.length + xs.length
  | [], acc, st, h0, _ => ⟨acc, st, by
      unfold compL
      rw [if_pos (hc _ _ h0)], h0, rfl⟩
  | d :: ds, acc, st, h0, hs => by
    obtain ⟨τ1, e1, x, s2, e2, h2⟩ := hs 0 d acc st rfl rfl h0
    obtain ⟨ys, st', e3, h3, h4⟩ := comp_inv (q := q) P hc ds (acc ++ [x]) s2 h2 fun i d acc' st hi ha hp => hs (i + 1) d acc' st hi (by simp at ha; omega) hp
    refine ⟨ys, st', ?_, h3, by simp at h4; simp; omega⟩
    unfold compL
    rw [if_pos (hc _ _ h0), e1]
    simp only [tYes, ER.bindN_ok, if_true, e2]
    exact e3
end
/-! the draws' store: cell 0 holds the script's numbers, cell 1 the place -/
structure DS (ns : List Int) (st : Store) : Prop where
  c0 : lstAt st 0 = some (ns.map D.int)
  c1 : ∃ p h q : Int, 0 ≤ p ∧ lstAt st 1 = some [.ref 0, .int p, .int h, .int q]
/-- what a draw may change -/
structure Fr (a b : Store) : Prop where
  len : a.length ≤ b.length
  at' : ∀ n, n ≠ 1 → n < a.length → b[n]? = a[n]?
theorem Fr.refl {a : Store} : Fr a a := ⟨Nat.le_refl _, fun _ _ _ => rfl⟩
theorem Fr.trans {a b c : Store} (x : Fr a b) (y : Fr b c) : Fr a c := ⟨Nat.le_trans x.len y.len, fun n h1 h2 => (y.at' n h1 (Nat.lt_of_lt_of_le h2 x.len)).trans (x.at' n h1 h2)⟩
theorem Fr.lst {a b : Store} {n : Nat} {xs : List D} (x : Fr a b) (h : lstAt a n = some xs) (hn : n ≠ 1) : lstAt b n = some xs := by
  have := x.at' n hn (lstAt_lt h)
  unfold lstAt at h ⊢
  rwa [this]
theorem Fr.app {a : Store} {c : Cell} : Fr a (a ++ [c]) := ⟨by simp, fun n _ h => by rw [List.getElem?_append_left h]⟩
theorem DS.app {ns : List Int} {st : Store} {c : Cell} (h : DS ns st) : DS ns (st ++ [c]) := by
  obtain ⟨c0, p, hh, q, hp, c1⟩ := h
  exact ⟨by rw [lstAt_left (lstAt_lt c0)]; exact c0, p, hh, q, hp, by rw [lstAt_left (lstAt_lt c1)]; exact c1⟩
end HM

/-! HM, part U: how the mirrors of parts 10 to 12 are computed. -/
namespace HM
open PySem PySem.Spec PyProof.Rows L2
section
variable {τ : Sl} {st : Store} {f g fo fi : EM D} {fs : EM (List D)} {fl fh : EM (Option Int)} {i n m : Nat} {d v x : D} {xs ys : List D}
@[simp] theorem eM_e {T : String} {g : MM} : eM T g fo fs τ st = (fo τ st).bind fun d s1 => if okT T s1 d then (fs τ s1).bind fun ds s2 => g d ds s2 else .bad := rfl
theorem okT_ref (hh : lstAt st n = some xs) : okT "list" st (.ref n) = true := by simp [okT, hh]
@[simp] theorem okT_str {z : List Nat} : okT "str" st (.str z) = true := rfl
theorem mAppend_ref (hh : lstAt st n = some xs) (hl : xs.length < 16777216) : mAppend (.ref n) [x] st = .ok .non (st.set n (.lst (xs ++ [x]))) := by simp [mAppend, hh, hl]
theorem mInsert_ref {k : Nat} (hh : lstAt st n = some xs) (hl : xs.length < 16777216) (hk : k < 9223372036854775808) : mInsert (.ref n) [.int k, x] st = .ok .non (st.set n (.lst (xs.take k ++ [x] ++ xs.drop k))) := by
  have h2 : okIx (k : Int) = true := decide_eq_true (by omega)
  simp [mInsert, hh, hl, h2]
theorem mExtend_ref (hh : lstAt st n = some xs) (h2 : lstAt st m = some ys) (hl : xs.length + ys.length ≤ 16777216) : mExtend (.ref n) [.ref m] st = .ok .non (st.set n (.lst (xs ++ ys))) := by simp [mExtend, hh, h2, hl]
theorem mPop_ref (hh : lstAt st n = some (xs ++ [x])) : mPop (.ref n) [] st = .ok x (st.set n (.lst xs)) := by simp [mPop, hh]
theorem mJoin_tup {a : List Nat} {ys : List (List Nat)} (hl : (ys.map List.length).sum + ys.length * a.length ≤ 16777216) : mJoin (.str a) [.tup (ys.map D.str)] st = .ok (.str (joinD a ys)) st := by
  simp [mJoin, dSeq, strsD_map, hl]
theorem mJoin_ref {a : List Nat} {ys : List (List Nat)} (hh : lstAt st n = some (ys.map D.str)) (hl : (ys.map List.length).sum + ys.length * a.length ≤ 16777216) : mJoin (.str a) [.ref n] st = .ok (.str (joinD a ys)) st := by
  simp [mJoin, dSeq, hh, strsD_map, hl]
def ofB (st : Store) : Option Bool → ER D
  | some b => .ok (.bl b) st
  | none => .bad
@[simp] theorem ofB_some {b : Bool} : ofB st (some b) = .ok (.bl b) st := rfl
@[simp] theorem oIn_e : oIn x v st = ofB st (dIn x v st) := by
  unfold oIn ofB
  rfl
@[simp] theorem oNotIn_e : oNotIn x v st = ofB st ((dIn x v st).map fun b => !b) := by
  unfold oNotIn ofB
  cases dIn x v st <;> rfl
@[simp] theorem dIn_sign {c : Nat} {z : List Nat} : dIn (.str [c]) (.str z) st = some (decide (c ∈ z)) := rfl
theorem dIn_flat (hy : dSeq st v = some ys) (h1 : x.flat = true) (h2 : ys.all D.flat = true) : dIn x v st = some (ys.any fun y => eqF y x) := by
  unfold dIn
  split
  · rename_i c z
    cases hy
  · simp [hy, h1, h2]
@[simp] theorem dSeq_tup : dSeq st (.tup xs) = some xs := rfl
@[simp] theorem dSeq_rol : dSeq st (.rol xs) = some xs := rfl
theorem dSeq_ref (hh : lstAt st n = some xs) : dSeq st (.ref n) = some xs := hh
@[simp] theorem flat_int {k : Int} : (D.int k).flat = true := rfl
@[simp] theorem flat_str {k : List Nat} : (D.str k).flat = true := rfl
@[simp] theorem flat_bl {k : Bool} : (D.bl k).flat = true := rfl
@[simp] theorem flat_non : D.non.flat = true := rfl
@[simp] theorem eqF_int {a b : Int} : eqF (.int a) (.int b) = decide (a = b) := rfl
@[simp] theorem eqF_str {a b : List Nat} : eqF (.str a) (.str b) = decide (a = b) := rfl
@[simp] theorem dIn_tup {k : Int} : dIn (.int k) (.tup ys) st = if ys.all D.flat then some (ys.any fun y => eqF y (.int k)) else if ys.all (D.plain 59) then some (decide (D.int k ∈ ys)) else none := by
  simp [dIn, dSeq] <;> rfl
@[simp] theorem eSl_e : eSl f fl fh τ st = (f τ st).bind fun d s1 => (fl τ s1).bind fun l s2 => (fh τ s2).bind fun h s3 => dCut d l h s3 := rfl
@[simp] theorem oNone_e : oNone τ st = .ok none st := rfl
def ofI (d : D) (st : Store) : ER (Option Int) := match d with
  | .int i => .ok (some i) st
  | _ => .bad
@[simp] theorem ofI_int {k : Int} : ofI (.int k) st = .ok (some k) st := rfl
@[simp] theorem oSome_e : oSome f τ st = (f τ st).bind ofI := rfl
theorem sIx_n {n d k : Nat} : HT.sIx n d (some (k : Int)) = min k n := HT.sIx_nat n d k
@[simp] theorem sIx_0 {n d : Nat} : HT.sIx n d none = d := rfl
theorem dCut_str {z : List Nat} {lo hi : Option Int} (hz : z.length ≤ 16777216) : dCut (.str z) lo hi st = .ok (.str (cutD z lo hi)) st := by simp [dCut, hz]
theorem dCut_ref {lo hi : Option Int} (hh : lstAt st n = some xs) : dCut (.ref n) lo hi st = .ok (.ref st.length) (st ++ [.lst (cutD xs lo hi)]) := by simp [dCut, hh]
theorem cutD_nn {α : Type} {zs : List α} {a b : Nat} : cutD zs (some (a : Int)) (some (b : Int)) = (zs.drop (min a zs.length)).take (min b zs.length - min a zs.length) := by
  unfold cutD
  rw [sIx_n, sIx_n]
theorem cutD_to {α : Type} {zs : List α} {b : Nat} : cutD zs none (some (b : Int)) = zs.take b := by
  unfold cutD
  rw [sIx_n, sIx_0, List.drop_zero, Nat.sub_zero]
  exact PySem.W.kmk_take_min ..
theorem cutD_from {α : Type} {zs : List α} {a : Nat} : cutD zs (some (a : Int)) none = zs.drop a := by
  unfold cutD
  rw [sIx_n, sIx_0]
  rw [show zs.drop (min a zs.length) = zs.drop a from PySem.W.kmk_drop_min ..]
  refine List.take_of_length_le ?_
  rw [List.length_drop]
  omega
theorem gSum_ints {ns : List Int} : gSum (ns.map D.int) st = .ok (.int ns.sum) st := by simp [gSum, intsD_map]
theorem gAllB_bls {bs : List Bool} : gAllB (bs.map D.bl) st = .ok (.bl (bs.all id)) st := by simp [gAllB, blsD_map]
theorem gAnyB_bls {bs : List Bool} : gAnyB (bs.map D.bl) st = .ok (.bl (bs.any id)) st := by simp [gAnyB, blsD_map]
@[simp] theorem oMul_int {a b : Int} (hc : okMul a b = true) : oMul (.int a) (.int b) st = .ok (.int (a * b)) st := by simp [oMul, hc]
theorem oMul_str {z : List Nat} {k : Int} (h2 : 2 ≤ k) (hz : k ≤ 16777216) (hl : z.length * k.toNat ≤ 16777216) : oMul (.str z) (.int k) st = .ok (.str (repD k.toNat z)) st := by
  simp [oMul, h2, hz, hl]
theorem fLcm_W {a b : Int} (ha : a.natAbs < 2 ^ 9000) (hb : b.natAbs < 2 ^ 9000) : fLcm [.int a, .int b] st = .ok (.int (Nat.lcm a.natAbs b.natAbs : Nat)) st := by
  unfold fLcm
  simp only [decide_eq_true ha, decide_eq_true hb, Bool.and_self, if_true]
theorem fLcm_e {a b : Int} (ha : a.natAbs < 18446744073709551616) (hb : b.natAbs < 18446744073709551616) : fLcm [.int a, .int b] st = .ok (.int (Nat.lcm a.natAbs b.natAbs : Nat)) st :=
  fLcm_W (Nat.lt_of_lt_of_le ha (Nat.pow_le_pow_right (n := 2) (i := 64) (by decide) (by decide))) (Nat.lt_of_lt_of_le hb (Nat.pow_le_pow_right (n := 2) (i := 64) (by decide) (by decide)))
theorem fList_tup : fList [.tup xs] st = .ok (.ref st.length) (st ++ [.lst xs]) := rfl
theorem fList_ref (hh : lstAt st n = some xs) : fList [.ref n] st = .ok (.ref st.length) (st ++ [.lst xs]) := by simp [fList, dSeq, hh]
theorem sExL_e : sExL f τ st = (f τ st).bind fun d s1 => match dSeqL s1 d with
  | some xs => .ok xs s1
  | none => .bad := rfl
theorem oAdd_ref (hh : lstAt st n = some xs) (h2 : lstAt st m = some ys) (hl : xs.length + ys.length ≤ 16777216) : oAdd (.ref n) (.ref m) st = .ok (.ref st.length) (st ++ [.lst (xs ++ ys)]) := by simp [oAdd, hh, h2, hl]
theorem oIx_str {z : List Nat} {k : Nat} {c : Nat} (hz : z.length ≤ 16777216) (hk : z[k]? = some c) : oIx (.str z) (.int k) st = .ok (.str [c]) st := by
  have := atI_nat (xs := z) (j := k) (v := c) hk
  simp [oIx, hz, this]
theorem fLen_str {z : List Nat} (hz : z.length ≤ 16777216) : fLen [.str z] st = .ok (.int z.length) st := by simp [fLen, hz]
end
/-- a while loop, by an invariant with a measure -/
theorem while_inv {g : EM Bool} {u : SM} (P : Nat → Sl → Store → Prop) (Done : Sl → Store → Prop)
    (hs : ∀ n τ st, P n τ st → (∃ s1, g τ st = .ok false s1 ∧ Done τ s1) ∨ (∃ s1, g τ st = .ok true s1 ∧ ∃ τ2 s2, (u τ s1 = .nx τ2 s2 ∨ u τ s1 = .ct τ2 s2) ∧ ∃ m, m < n ∧ P m τ2 s2)) :
    ∀ (k n : Nat) (τ : Sl) (st : Store), n < k → P n τ st → ∃ τ' st', whileN g u k τ st = .nx τ' st' ∧ Done τ' st'
  | 0, _, _, _, h, _ => absurd h (Nat.not_lt_zero _)
  | k + 1, n, τ, st, h, hp => by
    unfold whileN
    rcases hs n τ st hp with ⟨s1, e, hd⟩ | ⟨s1, e, τ2, s2, e2, m, hm, hp2⟩
    · rw [e, bindE_ok, if_neg Bool.false_ne_true]
      exact ⟨τ, s1, rfl, hd⟩
    · rw [e, bindE_ok, if_pos rfl]
      obtain ⟨τ', st', e3, hd⟩ := while_inv P Done hs k m τ2 s2 (by omega) hp2
      refine ⟨τ', st', ?_, hd⟩
      rcases e2 with e2 | e2 <;> simp only [e2] <;> exact e3
/-- a comprehension that reads alone -/
theorem comp_map {α : Type} {q : Sq} {set : D → Sl → Option Sl} {fe : EM D} {τ : Sl} {st : Store} (hq : q.chk st = true) (g h : α → D) : ∀ (xs : List α) (acc : List D), (∀ a ∈ xs, ∃ τ1, set (g a) τ = some τ1 ∧ fe τ1 st = .ok (h a) st) → compL q set tYes fe τ (xs.map g) acc st = .ok (acc ++ xs.map h) st
  | [], acc, _ => by
    rw [List.map_nil, List.map_nil, List.append_nil]
    unfold compL
    rw [if_pos hq]
  | a :: xs, acc, hs => by
    obtain ⟨τ1, e1, e2⟩ := hs a (List.mem_cons_self ..)
    rw [List.map_cons]
    unfold compL
    rw [if_pos hq, e1]
    simp only [tYes, ER.bindN_ok, if_true, e2]
    rw [comp_map hq g h xs (acc ++ [h a]) fun b hb => hs b (List.mem_cons_of_mem _ hb), List.map_cons, List.append_assoc]
    rfl
/-- a loop that folds -/
theorem for_fold {α β : Type} {q : Sq} {set : D → Sl → Option Sl} {u : SM} {st : Store} (hq : q.chk st = true) (g : α → D) (F : β → α → β) (E : β → Option D → Sl) (I : β → Prop) : ∀ (xs : List α) (b : β) (t : Option D), I b →
    (∀ b t a, a ∈ xs → I b → I (F b a) ∧ ∃ τ1, set (g a) (E b t) = some τ1 ∧ u τ1 st = .nx (E (F b a) (some (g a))) st) → (∃ t', forL q set u (xs.map g) (E b t) st = .nx (E (xs.foldl F b) t') st) ∧ I (xs.foldl F b)
  | [], b, t, hI, _ => ⟨⟨t, by rw [List.map_nil, forL, if_pos hq]; rfl⟩, hI⟩
  | a :: xs, b, t, hI, hs => by
    obtain ⟨h1, τ1, e1, e2⟩ := hs b t a (List.mem_cons_self ..) hI
    obtain ⟨⟨t', e3⟩, h3⟩ := for_fold hq g F E I xs (F b a) (some (g a)) h1 fun b t a ha => hs b t a (List.mem_cons_of_mem _ ha)
    refine ⟨⟨t', ?_⟩, h3⟩
    rw [List.map_cons, forL, if_pos hq, e1]
    simp only [e2]
    exact e3
end HM

/-! HM, part V: growth of stores, comprehensions with tests, keyword calls. -/
namespace HM
open PySem PySem.Spec PyProof.Rows L2
section
variable {τ : Sl} {st : Store} {fs fk : EM (List D)} {n k np : Nat} {is : List Nat} {mf : FM}
@[simp] theorem eCallK_e : eCallK n k np is mf fs fk τ st = (fs τ st).bind fun ds s1 => (fk τ s1).bind fun es s2 => if ds.length = n ∧ es.length = k ∧ (arr is (ds ++ es)).length = np then mf (arr is (ds ++ es)) s2 else .bad := rfl
end
/-- cells are added alone -/
structure Gr (a b : Store) : Prop where
  ex : ∃ l, b = a ++ l
theorem Gr.refl {a : Store} : Gr a a := ⟨[], by simp⟩
theorem Gr.app {a : Store} {c : Cell} : Gr a (a ++ [c]) := ⟨[c], rfl⟩
theorem Gr.trans {a b c : Store} (x : Gr a b) (y : Gr b c) : Gr a c := by
  obtain ⟨l, rfl⟩ := x.ex
  obtain ⟨m, rfl⟩ := y.ex
  exact ⟨l ++ m, by simp⟩
theorem Gr.lst {a b : Store} {n : Nat} {xs : List D} (x : Gr a b) (h : lstAt a n = some xs) : lstAt b n = some xs := by
  obtain ⟨l, rfl⟩ := x.ex
  rw [lstAt_left (lstAt_lt h)]
  exact h
theorem Gr.fr {a b : Store} (x : Gr a b) : Fr a b := by
  obtain ⟨l, rfl⟩ := x.ex
  exact ⟨by simp, fun n _ h => by rw [List.getElem?_append_left h]⟩
theorem Gr.ds {a b : Store} {ns : List Int} (x : Gr a b) (H : DS ns a) : DS ns b := by
  obtain ⟨c0, p, h, q, hp, c1⟩ := H
  exact ⟨x.lst c0, p, h, q, hp, x.lst c1⟩
/-- the last cell is written -/
theorem Gr.put {a b : Store} {m : Nat} {c : Cell} (x : Gr a b) (h : a.length ≤ m) : Gr a (b.set m c) := by
  obtain ⟨l, rfl⟩ := x.ex
  exact ⟨l.set (m - a.length) c, List.set_append_right m c h⟩
theorem Gr.len {a b : Store} (x : Gr a b) : a.length ≤ b.length := by
  obtain ⟨l, rfl⟩ := x.ex
  simp
theorem DS.put2 {ns : List Int} {s : Store} {m : Nat} {c : Cell} (H : DS ns s) (h0 : m ≠ 0) (h1 : m ≠ 1) : DS ns (s.set m c) := by
  obtain ⟨c0, p, h, q, hp, c1⟩ := H
  exact ⟨by rw [lstAt_ne (Ne.symm h0)]; exact c0, p, h, q, hp, by rw [lstAt_ne (Ne.symm h1)]; exact c1⟩
theorem Fr.put2 {st s : Store} {m : Nat} {c : Cell} (F : Fr st s) (h : st.length ≤ m) : Fr st (s.set m c) :=
  ⟨by rw [List.length_set]; exact F.len, fun n h1 h2 => by rw [List.getElem?_set_ne (by omega)]; exact F.at' n h1 h2⟩
theorem DS.len {ns : List Int} {s : Store} (H : DS ns s) : 2 ≤ s.length := by
  obtain ⟨p, h, q, _, c1⟩ := H.c1
  exact lstAt_lt c1
theorem rng_eq (n : Nat) : rng 0 n = (List.range n).map fun k => D.int (k : Nat) := by
  unfold rng
  simp
theorem rng_mem {n : Nat} {i : Nat} {d : D} (h : (rng 0 n)[i]? = some d) : ∃ k : Nat, k < n ∧ d = .int k := by
  rw [rng_eq, List.getElem?_map] at h
  cases hx : (List.range n)[i]? with
  | none => rw [hx] at h; cases h
  | some a =>
    have := List.mem_range.mp (List.mem_of_getElem? hx)
    rw [hx] at h
    exact ⟨a, this, (Option.some.inj h).symm⟩
@[simp] theorem iZip_e {fa fb : EM D} {τ : Sl} {st : Store} : iZip fa fb τ st = (fa τ st).bind fun d s1 => (fb τ s1).bind fun e s2 => zip2 d e s2 := rfl
@[simp] theorem zip2_tup {xs ys : List D} {st : Store} : zip2 (.tup xs) (.tup ys) st = .ok (.fix (zipD xs ys)) st := rfl
def okRg (k : Int → Int → Store → ER D) (d : D) (st : Store) : ER D := match d with
  | .int j => k 0 j st
  | _ => .bad
@[simp] theorem eRg1_e {k : Int → Int → Store → ER D} {fa : EM D} {τ : Sl} {st : Store} : eRg1 k fa τ st = (fa τ st).bind (okRg k) := rfl
@[simp] theorem okRg_int {k : Int → Int → Store → ER D} {j : Int} {st : Store} : okRg k (.int j) st = k 0 j st := rfl
theorem rng_len {n : Nat} : (rng 0 (n : Nat)).length = n := by
  unfold rng
  simp
theorem lstAt_new {a : Store} {xs : List D} : lstAt (a ++ [.lst xs]) a.length = some xs := by simp [lstAt]
/-- a comprehension with a test -/
theorem comp_gen {q : Sq} {set : D → Sl → Option Sl} {ft : EM Bool} {fe : EM D} {τ : Sl} (P : Nat → List D → Store → Prop) (hc : ∀ k acc st, P k acc st → q.chk st = true) :
    ∀ (xs : List D) (k : Nat) (acc : List D) (st : Store), P k acc st →
    (∀ (i : Nat) (d : D) (acc' : List D) (st : Store), xs[i]? = some d → P (k + i) acc' st → ∃ τ1, set d τ = some τ1 ∧ ∃ b s1, ft τ1 st = .ok b s1 ∧ (b = false → P (k + i + 1) acc' s1) ∧ (b = true → ∃ x s2, fe τ1 s1 = .ok x s2 ∧ P (k + i + 1) (acc' ++ [x]) s2)) →
    ∃ ys st', compL q set ft fe τ xs acc st = .ok ys st' ∧ P (k + xs.length) ys st'
  | [], k, acc, st, h0, _ => ⟨acc, st, by
      unfold compL
      rw [if_pos (hc _ _ _ h0)], h0⟩
  | d :: ds, k, acc, st, h0, hs => by
    obtain ⟨τ1, e1, b, s1, e2, h2, h3⟩ := hs 0 d acc st rfl h0
    have next : ∀ acc s, P (k + 1) acc s → ∃ ys st', compL q set ft fe τ ds acc s = .ok ys st' ∧ P (k + (d :: ds).length) ys st' := fun acc s h => by
      rw [List.length_cons, show k + (ds.length + 1) = k + 1 + ds.length by omega]
      refine comp_gen P hc ds (k + 1) acc s h fun i d acc' st hi hp => ?_
      rw [show k + 1 + i = k + (i + 1) by omega] at hp ⊢
      exact hs (i + 1) d acc' st hi hp
    unfold compL
    rw [if_pos (hc _ _ _ h0), e1]
    simp only [e2, ER.bindN_ok]
    cases b with
    | false => exact next _ _ (h2 rfl)
    | true =>
      obtain ⟨x, s2, e3, h4⟩ := h3 rfl
      simp only [if_true, e3, ER.bindN_ok]
      exact next _ _ h4
/-- a comprehension with a test that reads alone -/
theorem comp_fil {α : Type} {q : Sq} {set : D → Sl → Option Sl} {ft : EM Bool} {fe : EM D} {τ : Sl} {st : Store} (hq : q.chk st = true) (g h : α → D) (p : α → Bool) : ∀ (xs : List α) (acc : List D), (∀ a ∈ xs, ∃ τ1, set (g a) τ = some τ1 ∧ ft τ1 st = .ok (p a) st ∧ (p a = true → fe τ1 st = .ok (h a) st)) → compL q set ft fe τ (xs.map g) acc st = .ok (acc ++ (xs.filter p).map h) st
  | [], acc, _ => by
    rw [List.map_nil, List.filter_nil, List.map_nil, List.append_nil]
    unfold compL
    rw [if_pos hq]
  | a :: xs, acc, hs => by
    obtain ⟨τ1, e1, e2, e3⟩ := hs a (List.mem_cons_self ..)
    have ih := fun acc => comp_fil hq g h p xs acc fun b hb => hs b (List.mem_cons_of_mem _ hb)
    rw [List.map_cons, List.filter_cons]
    unfold compL
    rw [if_pos hq, e1]
    simp only [e2, ER.bindN_ok]
    cases hp : p a with
    | false => simp only [Bool.false_eq_true, if_false]; exact ih acc
    | true =>
      simp only [if_true, e3 hp, ER.bindN_ok]
      rw [ih, List.map_cons, List.append_assoc]
      rfl
theorem forL_nil {set : D → Sl → Option Sl} {u : SM} {q : Sq} {τ : Sl} {st : Store} (hq : q.chk st = true) : forL q set u [] τ st = .nx τ st := by
  rw [forL, if_pos hq]
theorem forL_nx {set : D → Sl → Option Sl} {u : SM} {q : Sq} {τ τ1 τ2 : Sl} {st s2 : Store} {d : D} {ds : List D} (hq : q.chk st = true) (h1 : set d τ = some τ1) (h2 : u τ1 st = .nx τ2 s2) : forL q set u (d :: ds) τ st = forL q set u ds τ2 s2 := by
  rw [forL, if_pos hq, h1]
  simp only [h2]
theorem forL_ct {set : D → Sl → Option Sl} {u : SM} {q : Sq} {τ τ1 τ2 : Sl} {st s2 : Store} {d : D} {ds : List D} (hq : q.chk st = true) (h1 : set d τ = some τ1) (h2 : u τ1 st = .ct τ2 s2) : forL q set u (d :: ds) τ st = forL q set u ds τ2 s2 := by
  rw [forL, if_pos hq, h1]
  simp only [h2]
theorem forL_rt {set : D → Sl → Option Sl} {u : SM} {q : Sq} {τ τ1 : Sl} {st s2 : Store} {d x : D} {ds : List D} (hq : q.chk st = true) (h1 : set d τ = some τ1) (h2 : u τ1 st = .rt x s2) : forL q set u (d :: ds) τ st = .rt x s2 := by
  rw [forL, if_pos hq, h1]
  simp only [h2]
theorem forL_bk {set : D → Sl → Option Sl} {u : SM} {q : Sq} {τ τ1 τ2 : Sl} {st s2 : Store} {d : D} {ds : List D} (hq : q.chk st = true) (h1 : set d τ = some τ1) (h2 : u τ1 st = .bk τ2 s2) : forL q set u (d :: ds) τ st = .nx τ2 s2 := by
  rw [forL, if_pos hq, h1]
  simp only [h2]
theorem map_mem {α : Type} {f : α → D} {xs : List α} {i : Nat} {d : D} (h : (xs.map f)[i]? = some d) : ∃ a ∈ xs, d = f a := by
  rw [List.getElem?_map] at h
  cases hx : xs[i]? with
  | none => simp [hx] at h
  | some a => exact ⟨a, List.mem_of_getElem? hx, by simpa [hx] using h.symm⟩
theorem any_eqF {cs : List Int} {k : Int} : ((cs.map D.int).any fun y => eqF y (.int k)) = decide (k ∈ cs) := by
  induction cs with
  | nil => rfl
  | cons c cs ih =>
    rw [List.map_cons, List.any_cons, ih]
    by_cases h : k = c <;> simp [h, eq_comm]
theorem dIn_ints {cs : List Int} {k : Int} {st : Store} : dIn (.int k) (.tup (cs.map D.int)) st = some (decide (k ∈ cs)) := by
  rw [dIn_tup, if_pos, any_eqF]
  rw [List.all_eq_true]
  intro x hx
  obtain ⟨c, _, rfl⟩ := List.mem_map.mp hx
  rfl
end HM

namespace K27
open PySem PySem.Spec PyProof.Rows L2 HM
def top (i : Nat) : Stmt := PySem.Challenge.pw_closedratios_k27_whole_row_losses.main.body.getD i (.Pass ⟨0, 0, 0, 0⟩)
abbrev s_ratio : Stmt := top 3
abbrev s_over : Stmt := top 4
abbrev s_is_below : Stmt := top 5
abbrev s_chances : Stmt := top 7
abbrev s_factor_of : Stmt := top 9
abbrev s_greater_loss : Stmt := top 10
abbrev s_row_loss : Stmt := top 11
abbrev s_rows_loss : Stmt := top 12
abbrev s__law_begin : Stmt := top 14
abbrev s__law_draw : Stmt := top 15
abbrev s__law_pick : Stmt := top 16
abbrev s__law_shuffled : Stmt := top 17
abbrev s__law_is_int : Stmt := top 18
abbrev s__law_gcd : Stmt := top 19
abbrev s__law_f : Stmt := top 20
abbrev s__law_times : Stmt := top 21
abbrev s__law_over : Stmt := top 22
abbrev s__law_less : Stmt := top 23
abbrev s__law_great : Stmt := top 24
abbrev s__law_is_frac : Stmt := top 25
abbrev s__law_is_ratio : Stmt := top 26
abbrev s__law_row : Stmt := top 27
abbrev s__law_chances : Stmt := top 28
abbrev s__law_row_loss : Stmt := top 29
abbrev s__law_is_loss : Stmt := top 30
abbrev s__law_first_row : Stmt := top 31
abbrev s__law_other_row : Stmt := top 32
abbrev s__law_sets : Stmt := top 33
abbrev s__law_are_equal : Stmt := top 34
abbrev s__law_are_sets_kept : Stmt := top 35
abbrev s__law_is_pair_right : Stmt := top 36
abbrev s__law_is_three_right : Stmt := top 37
abbrev s__law_multiplied : Stmt := top 38
abbrev s__law_product : Stmt := top 39
abbrev s__law_is_product_right : Stmt := top 40
abbrev s__law_shares_of_six : Stmt := top 41
abbrev s__law_sent_on : Stmt := top 42
abbrev s__law_is_mill_right : Stmt := top 43
abbrev s__law_are_small_right : Stmt := top 44
abbrev s__law_are_pairs_right : Stmt := top 45
abbrev s_law : Stmt := top 46
def q_ONE : D := .tup [.int 1, .int 1]
def N_ratio : List PySem.Str := ["n", "d", "common"]
theorem sc_ratio : FnScope N_ratio ["n", "d"] (defScope s_ratio) := ⟨rfl, rfl, rfl, by decide +kernel, rfl, by decide +kernel, by decide +kernel⟩
def m_ratio : SM := (sSeq (sIf (tBl (eBin oEq (eVar 1) (eC (.int 0)))) (sRaise ⟨.ty "ZeroDivisionError", []⟩) sNil)
    (sSeq (sSet 2 (eCB fGcd (aCons (eVar 0) (aCons (eVar 1) aNil))))
    (sSeq (sIf (tBl (eBin oLt (eVar 1) (eC (.int 0)))) (sSet 2 (eUn oNeg (eVar 2))) sNil)
    (sRet (eTup (aCons (eBin oDiv (eVar 0) (eVar 2)) (aCons (eBin oDiv (eVar 1) (eVar 2)) aNil)))))))
theorem ok_ratio {P : Program} {w : World} {K : PySem.W.Frag} {mg : PySem.Str → Option Value} {base : Heap} {f : Addr} {fd : FuncData} (F : FnP K "ratio" s_ratio f fd) (gx : mg "ratio" = some (.ref f)) (g_gcd : mg "gcd" = some (.builtin "math.gcd")) (z_ZeroDivisionError : mg "ZeroDivisionError" = none) :
    Cal P w K mg base "ratio" 1 ["n", "d"] (runB 3 (m_ratio)) :=
  cal_mk (k := 0) F sc_ratio gx (fun _ _ _ _ _ _ us hl => match us, hl with | [_, _], _ => rfl) fun cdv A outer s H E hr tk hp =>
    (sx_cons (sx_if (et_cmp (m_eq hr.units) (xv 1) ex_int (nomark _)) (sx_one (sx_raiseB (by rfl) tk exb_ZeroDivisionError (by rfl) z_ZeroDivisionError boot_ZeroDivisionError)) sx_nil)
    (sx_cons (sx_set sc_ratio.nd (ex_callF c_gcd (by rfl) g_gcd (ea_cons (xv 0) (ea_cons (xv 1) ea_nil))))
    (sx_cons (sx_if (et_cmp m_lt (xv 1) ex_int (nomark _)) (sx_one (sx_set sc_ratio.nd (ex_un m_neg (xv 2)))) sx_nil)
    (sx_one (sx_ret (ex_tup (ea_cons (ex_op m_div (xv 0) (xv 2)) (ea_cons (ex_op m_div (xv 1) (xv 2)) ea_nil))))))))
def N_over : List PySem.Str := ["x", "y"]
theorem sc_over : FnScope N_over ["x", "y"] (defScope s_over) := ⟨rfl, rfl, rfl, by decide +kernel, rfl, by decide +kernel, by decide +kernel⟩
def m_over (f_ratio : FM) : SM := (sRet (eCall 2 f_ratio (aCons (eBin oMul (eBin oIx (eVar 0) (eC (.int 0))) (eBin oIx (eVar 1) (eC (.int 1)))) (aCons (eBin oMul (eBin oIx (eVar 0) (eC (.int 1))) (eBin oIx (eVar 1) (eC (.int 0)))) aNil))))
theorem ok_over {P : Program} {w : World} {K : PySem.W.Frag} {mg : PySem.Str → Option Value} {base : Heap} {f : Addr} {fd : FuncData} {f_ratio : FM} (F : FnP K "over" s_over f fd) (gx : mg "over" = some (.ref f)) (c_ratio : Cal P w K mg base "ratio" 1 ["n", "d"] f_ratio) :
    Cal P w K mg base "over" 2 ["x", "y"] (runB 2 (m_over f_ratio)) :=
  cal_mk (k := 1) F sc_over gx (fun _ _ _ _ _ _ us hl => match us, hl with | [_, _], _ => rfl) fun cdv A outer s H E hr tk hp =>
    (sx_one (sx_ret (ex_c1 c_ratio tk hr (by decide) (ea_cons (ex_op m_mul (ex_ix m_ix (xv 0) ex_int) (ex_ix m_ix (xv 1) ex_int)) (ea_cons (ex_op m_mul (ex_ix m_ix (xv 0) ex_int) (ex_ix m_ix (xv 1) ex_int)) ea_nil)))))
def N_is_below : List PySem.Str := ["x", "y"]
theorem sc_is_below : FnScope N_is_below ["x", "y"] (defScope s_is_below) := ⟨rfl, rfl, rfl, by decide +kernel, rfl, by decide +kernel, by decide +kernel⟩
def m_is_below : SM := (sRet (eBin oLt (eBin oMul (eBin oIx (eVar 0) (eC (.int 0))) (eBin oIx (eVar 1) (eC (.int 1)))) (eBin oMul (eBin oIx (eVar 1) (eC (.int 0))) (eBin oIx (eVar 0) (eC (.int 1))))))
theorem ok_is_below {P : Program} {w : World} {K : PySem.W.Frag} {mg : PySem.Str → Option Value} {base : Heap} {f : Addr} {fd : FuncData} (F : FnP K "is_below" s_is_below f fd) (gx : mg "is_below" = some (.ref f))  :
    Cal P w K mg base "is_below" 1 ["x", "y"] (runB 2 (m_is_below)) :=
  cal_mk (k := 0) F sc_is_below gx (fun _ _ _ _ _ _ us hl => match us, hl with | [_, _], _ => rfl) fun cdv A outer s H E hr tk hp =>
    (sx_one (sx_ret (ex_cmp m_lt (ex_op m_mul (ex_ix m_ix (xv 0) ex_int) (ex_ix m_ix (xv 1) ex_int)) (ex_op m_mul (ex_ix m_ix (xv 1) ex_int) (ex_ix m_ix (xv 0) ex_int)) (nomark _))))
def N_chances : List PySem.Str := ["weights", "whole", "weight"]
theorem sc_chances : FnScope N_chances ["weights"] (defScope s_chances) := ⟨rfl, rfl, rfl, by decide +kernel, rfl, by decide +kernel, by decide +kernel⟩
def m_chances (f_ratio : FM) : SM := (sSeq (sSet 1 (eCS gSum (sEx (eVar 0))))
    (sRet (eCS gTuple (lComp [2] (iEx (eVar 0)) (gN 2) tYes (eCall 2 f_ratio (aCons (eVar 2) (aCons (eVar 1) aNil)))))))
theorem ok_chances {P : Program} {w : World} {K : PySem.W.Frag} {mg : PySem.Str → Option Value} {base : Heap} {f : Addr} {fd : FuncData} {f_ratio : FM} (F : FnP K "chances" s_chances f fd) (gx : mg "chances" = some (.ref f)) (c_ratio : Cal P w K mg base "ratio" 1 ["n", "d"] f_ratio) (z_sum : mg "sum" = none) (z_tuple : mg "tuple" = none) :
    Cal P w K mg base "chances" 2 ["weights"] (runB 3 (m_chances f_ratio)) :=
  cal_mk (k := 1) F sc_chances gx (fun _ _ _ _ _ _ us hl => match us, hl with | [_], _ => rfl) fun cdv A outer s H E hr tk hp =>
    (sx_cons (sx_set sc_chances.nd (ex_callBs (s_sum (by rfl)) (by rfl) z_sum bt_sum (es_ex (xv 0))))
    (sx_one (sx_ret (ex_callTs s_tuple (by rfl) z_tuple bt_tuple (es_el (el_comp (own := [(("weight" : PySem.Str), 2)]) (by rfl) sc_chances.nd (ei_ex (xv 0)) (blkOk_by (N := N_chances) (sc := (defScope s_chances)) (by decide +kernel)) (fun _ _ _ _ _ => (eg_name sc_chances.nd)) (fun _ _ _ _ _ => ets_nil) (fun _ _ _ _ _ => (ex_c1 c_ratio tk0 hr (by decide) (ea_cons (xv 2) (ea_cons (xv 1) ea_nil))))))))))
def N_factor_of : List PySem.Str := ["share", "less"]
theorem sc_factor_of : FnScope N_factor_of ["share", "less"] (defScope s_factor_of) := ⟨rfl, rfl, rfl, by decide +kernel, rfl, by decide +kernel, by decide +kernel⟩
def m_factor_of (f_over : FM) : SM := (sSeq (sIf (tBl (eBin oEq (eBin oIx (eVar 1) (eC (.int 0))) (eC (.int 0)))) (sRet (eC .non)) sNil)
    (sRet (eCall 2 f_over (aCons (eVar 0) (aCons (eVar 1) aNil)))))
theorem ok_factor_of {P : Program} {w : World} {K : PySem.W.Frag} {mg : PySem.Str → Option Value} {base : Heap} {f : Addr} {fd : FuncData} {f_over : FM} (F : FnP K "factor_of" s_factor_of f fd) (gx : mg "factor_of" = some (.ref f)) (c_over : Cal P w K mg base "over" 2 ["x", "y"] f_over) :
    Cal P w K mg base "factor_of" 3 ["share", "less"] (runB 2 (m_factor_of f_over)) :=
  cal_mk (k := 2) F sc_factor_of gx (fun _ _ _ _ _ _ us hl => match us, hl with | [_, _], _ => rfl) fun cdv A outer s H E hr tk hp =>
    (sx_cons (sx_if (et_cmp (m_eq hr.units) (ex_ix m_ix (xv 1) ex_int) ex_int (nomark _)) (sx_one (sx_ret ex_non)) sx_nil)
    (sx_one (sx_ret (ex_c1 c_over tk hr (by decide) (ea_cons (xv 0) (ea_cons (xv 1) ea_nil))))))
def N_greater_loss : List PySem.Str := ["loss", "other"]
theorem sc_greater_loss : FnScope N_greater_loss ["loss", "other"] (defScope s_greater_loss) := ⟨rfl, rfl, rfl, by decide +kernel, rfl, by decide +kernel, by decide +kernel⟩
def m_greater_loss (f_is_below : FM) : SM := (sSeq (sIf (tOr (tBl (eBin oIs (eVar 0) (eC .non))) (tBl (eBin oIs (eVar 1) (eC .non)))) (sRet (eC .non)) sNil)
    (sSeq (sIf (tVal (eCall 2 f_is_below (aCons (eVar 0) (aCons (eVar 1) aNil)))) (sRet (eVar 1)) sNil)
    (sRet (eVar 0))))
theorem ok_greater_loss {P : Program} {w : World} {K : PySem.W.Frag} {mg : PySem.Str → Option Value} {base : Heap} {f : Addr} {fd : FuncData} {f_is_below : FM} (F : FnP K "greater_loss" s_greater_loss f fd) (gx : mg "greater_loss" = some (.ref f)) (c_is_below : Cal P w K mg base "is_below" 1 ["x", "y"] f_is_below) :
    Cal P w K mg base "greater_loss" 2 ["loss", "other"] (runB 2 (m_greater_loss f_is_below)) :=
  cal_mk (k := 1) F sc_greater_loss gx (fun _ _ _ _ _ _ us hl => match us, hl with | [_, _], _ => rfl) fun cdv A outer s H E hr tk hp =>
    (sx_cons (sx_if (Ew.et (ew_or (et_cmp m_is (xv 0) ex_non (nomark _)) (ew_or1 (et_cmp m_is (xv 1) ex_non (nomark _))))) (sx_one (sx_ret ex_non)) sx_nil)
    (sx_cons (sx_if (et_val (ex_c1 c_is_below tk hr (by decide) (ea_cons (xv 0) (ea_cons (xv 1) ea_nil)))) (sx_one (sx_ret (xv 1))) sx_nil)
    (sx_one (sx_ret (xv 0)))))
def N_row_loss : List PySem.Str := ["row", "other", "loss", "share", "less"]
theorem sc_row_loss : FnScope N_row_loss ["row", "other"] (defScope s_row_loss) := ⟨rfl, rfl, rfl, by decide +kernel, rfl, by decide +kernel, by decide +kernel⟩
def m_row_loss (f_chances : FM) (f_greater_loss : FM) (f_factor_of : FM) : SM := (sSeq (sSet 2 (eC q_ONE))
    (sSeq (sFor (iZip (eCall 1 f_chances (aCons (eVar 0) aNil)) (eCall 1 f_chances (aCons (eVar 1) aNil))) (gT 2 (gCs 3 (gCs 4 gNil0))) (sIf (tBl (eBin oGt (eBin oIx (eVar 3) (eC (.int 0))) (eC (.int 0)))) (sSet 2 (eCall 2 f_greater_loss (aCons (eVar 2) (aCons (eCall 2 f_factor_of (aCons (eVar 3) (aCons (eVar 4) aNil))) aNil)))) sNil))
    (sRet (eVar 2))))
theorem ok_row_loss {P : Program} {w : World} {K : PySem.W.Frag} {mg : PySem.Str → Option Value} {base : Heap} {f : Addr} {fd : FuncData} {f_chances f_greater_loss f_factor_of : FM} (F : FnP K "row_loss" s_row_loss f fd) (gx : mg "row_loss" = some (.ref f)) (c_chances : Cal P w K mg base "chances" 2 ["weights"] f_chances) (c_greater_loss : Cal P w K mg base "greater_loss" 2 ["loss", "other"] f_greater_loss) (c_factor_of : Cal P w K mg base "factor_of" 3 ["share", "less"] f_factor_of) (k_ONE : Con K mg "ONE" q_ONE) (z_zip : mg "zip" = none) :
    Cal P w K mg base "row_loss" 4 ["row", "other"] (runB 5 (m_row_loss f_chances f_greater_loss f_factor_of)) :=
  cal_mk (k := 3) F sc_row_loss gx (fun _ _ _ _ _ _ us hl => match us, hl with | [_, _], _ => rfl) fun cdv A outer s H E hr tk hp =>
    (sx_cons (sx_set sc_row_loss.nd (ex_con k_ONE))
    (sx_cons (sx_for hp (by rfl) (ei_zip (by rfl) z_zip (ex_c1 c_chances tk hr (by decide) (ea_cons (xv 0) ea_nil)) (ex_c1 c_chances tk hr (by decide) (ea_cons (xv 1) ea_nil))) (eg_tup (by rfl) (egs_cons sc_row_loss.nd (egs_cons sc_row_loss.nd egs_nil))) (sx_one (sx_if (et_cmp m_gt (ex_ix m_ix (xv 3) ex_int) ex_int (nomark _)) (sx_one (sx_set sc_row_loss.nd (ex_c1 c_greater_loss tk hr (by decide) (ea_cons (xv 2) (ea_cons (ex_c1 c_factor_of tk hr (by decide) (ea_cons (xv 3) (ea_cons (xv 4) ea_nil))) ea_nil))))) sx_nil)))
    (sx_one (sx_ret (xv 2)))))
def N_rows_loss : List PySem.Str := ["rows", "pairs", "loss", "first", "second"]
theorem sc_rows_loss : FnScope N_rows_loss ["rows", "pairs"] (defScope s_rows_loss) := ⟨rfl, rfl, rfl, by decide +kernel, rfl, by decide +kernel, by decide +kernel⟩
def m_rows_loss (f_greater_loss : FM) (f_row_loss : FM) : SM := (sSeq (sSet 2 (eC q_ONE))
    (sSeq (sFor (iEx (eVar 1)) (gT 2 (gCs 3 (gCs 4 gNil0))) (sSet 2 (eCall 2 f_greater_loss (aCons (eVar 2) (aCons (eCall 2 f_row_loss (aCons (eBin oIx (eVar 0) (eVar 3)) (aCons (eBin oIx (eVar 0) (eVar 4)) aNil))) aNil)))))
    (sRet (eVar 2))))
theorem ok_rows_loss {P : Program} {w : World} {K : PySem.W.Frag} {mg : PySem.Str → Option Value} {base : Heap} {f : Addr} {fd : FuncData} {f_greater_loss f_row_loss : FM} (F : FnP K "rows_loss" s_rows_loss f fd) (gx : mg "rows_loss" = some (.ref f)) (c_greater_loss : Cal P w K mg base "greater_loss" 2 ["loss", "other"] f_greater_loss) (c_row_loss : Cal P w K mg base "row_loss" 4 ["row", "other"] f_row_loss) (k_ONE : Con K mg "ONE" q_ONE) :
    Cal P w K mg base "rows_loss" 5 ["rows", "pairs"] (runB 5 (m_rows_loss f_greater_loss f_row_loss)) :=
  cal_mk (k := 4) F sc_rows_loss gx (fun _ _ _ _ _ _ us hl => match us, hl with | [_, _], _ => rfl) fun cdv A outer s H E hr tk hp =>
    (sx_cons (sx_set sc_rows_loss.nd (ex_con k_ONE))
    (sx_cons (sx_for hp (by rfl) (ei_ex (xv 1)) (eg_tup (by rfl) (egs_cons sc_rows_loss.nd (egs_cons sc_rows_loss.nd egs_nil))) (sx_one (sx_set sc_rows_loss.nd (ex_c1 c_greater_loss tk hr (by decide) (ea_cons (xv 2) (ea_cons (ex_c1 c_row_loss tk hr (by decide) (ea_cons (ex_ix m_ix (xv 0) (xv 3)) (ea_cons (ex_ix m_ix (xv 0) (xv 4)) ea_nil))) ea_nil))))))
    (sx_one (sx_ret (xv 2)))))
def N__law_begin : List PySem.Str := ["script", "cell"]
theorem sc__law_begin : FnScope N__law_begin ["script"] (defScope s__law_begin) := ⟨rfl, rfl, rfl, by decide +kernel, rfl, by decide +kernel, by decide +kernel⟩
def m__law_begin : SM := (sRet (eLst (aCons (eEl (lComp [1] (iEx (eVar 0)) (gN 1) tYes (eCB fInt (aCons (eVar 1) aNil)))) (aCons (eC (.int 0)) (aCons (eC (.int 0)) (aCons (eC (.int 7)) aNil))))))
theorem ok__law_begin {P : Program} {w : World} {K : PySem.W.Frag} {mg : PySem.Str → Option Value} {base : Heap} {f : Addr} {fd : FuncData} (F : FnP K "_law_begin" s__law_begin f fd) (gx : mg "_law_begin" = some (.ref f)) (z_int : mg "int" = none) :
    Cal P w K mg base "_law_begin" 1 ["script"] (runB 2 (m__law_begin)) :=
  cal_mk (k := 0) F sc__law_begin gx (fun _ _ _ _ _ _ us hl => match us, hl with | [_], _ => rfl) fun cdv A outer s H E hr tk hp =>
    (sx_one (sx_ret (ex_lst (ea_cons (ex_el (el_comp (own := [(("cell" : PySem.Str), 1)]) (by rfl) sc__law_begin.nd (ei_ex (xv 0)) (blkOk_by (N := N__law_begin) (sc := (defScope s__law_begin)) (by decide +kernel)) (fun _ _ _ _ _ => (eg_name sc__law_begin.nd)) (fun _ _ _ _ _ => ets_nil) (fun _ _ _ _ _ => (ex_callT c_int (by rfl) z_int bt_int (ea_cons (xv 1) ea_nil))))) (ea_cons ex_int (ea_cons ex_int (ea_cons ex_int ea_nil)))))))
def N__law_draw : List PySem.Str := ["d", "many", "found", "size", "cell"]
theorem sc__law_draw : FnScope N__law_draw ["d", "many"] (defScope s__law_draw) := ⟨rfl, rfl, rfl, by decide +kernel, rfl, by decide +kernel, by decide +kernel⟩
def m__law_draw : SM := (sSeq (sIf (tBl (eBin oGt (eBin oIx (eVar 0) (eC (.int 2))) (eC (.int 0)))) (sSeq (sSet 2 (eBin oIx (eVar 0) (eC (.int 2))))
    (sSeq (sSub (eVar 0) (eC (.int 2)) (eBin oDiv (eVar 2) (eVar 1)))
    (sRet (eBin oMod (eCB fInt (aCons (eVar 2) aNil)) (eVar 1))))) sNil)
    (sSeq (sSet 3 (eC (.int 0)))
    (sSeq (sIf (tBl (eBin oLt (eBin oIx (eVar 0) (eC (.int 1))) (eCB fLen (aCons (eBin oIx (eVar 0) (eC (.int 0))) aNil)))) (sSeq (sSet 4 (eBin oIx (eBin oIx (eVar 0) (eC (.int 0))) (eBin oIx (eVar 0) (eC (.int 1)))))
    (sSet 3 (eBin oAdd (eBin oMul (eC (.int 2)) (eCB fAbs (aCons (eVar 4) aNil))) (eCB fInt (aCons (eBin oLt (eVar 4) (eC (.int 0))) aNil))))) sNil)
    (sSeq (sAugS oIAdd (eVar 0) (eC (.int 1)) (eC (.int 1)))
    (sSeq (sIf (tBl (eBin oGe (eVar 3) (eBin oMul (eC (.int 2)) (eBin oPow (eC (.int 10)) (eC (.int 18)))))) (sSeq (sSet 2 (eBin oMod (eCB fInt (aCons (eBin oDiv (eVar 3) (eC (.int 2))) aNil)) (eBin oShl (eC (.int 1)) (eC (.int 6000)))))
    (sSeq (sSub (eVar 0) (eC (.int 2)) (eBin oDiv (eVar 2) (eVar 1)))
    (sRet (eBin oMod (eCB fInt (aCons (eVar 2) aNil)) (eVar 1))))) sNil)
    (sSeq (sSub (eVar 0) (eC (.int 3)) (eBin oMod (eCB fInt (aCons (eBin oAdd (eBin oAdd (eBin oAdd (eBin oMul (eBin oIx (eVar 0) (eC (.int 3))) (eC (.int 48271))) (eBin oMul (eBin oMod (eCB fInt (aCons (eVar 3) aNil)) (eC (.int 2147483629))) (eC (.int 16807)))) (eBin oMul (eBin oIx (eVar 0) (eC (.int 1))) (eC (.int 69621)))) (eC (.int 11))) aNil)) (eC (.int 2147483647))))
    (sRet (eBin oMod (eCB fInt (aCons (eBin oDiv (eBin oIx (eVar 0) (eC (.int 3))) (eC (.int 16))) aNil)) (eVar 1)))))))))
theorem ok__law_draw {P : Program} {w : World} {K : PySem.W.Frag} {mg : PySem.Str → Option Value} {base : Heap} {f : Addr} {fd : FuncData} (F : FnP K "_law_draw" s__law_draw f fd) (gx : mg "_law_draw" = some (.ref f)) (z_int : mg "int" = none) (z_len : mg "len" = none) (z_abs : mg "abs" = none) :
    Cal P w K mg base "_law_draw" 1 ["d", "many"] (runB 5 (m__law_draw)) :=
  cal_mk (k := 0) F sc__law_draw gx (fun _ _ _ _ _ _ us hl => match us, hl with | [_, _], _ => rfl) fun cdv A outer s H E hr tk hp =>
    (sx_cons (sx_if (et_cmp m_gt (ex_ix m_ix (xv 0) ex_int) ex_int (nomark _)) (sx_cons (sx_set sc__law_draw.nd (ex_ix m_ix (xv 0) ex_int))
    (sx_cons (sx_sub (ex_op m_div (xv 2) (xv 1)) (xv 0) ex_int)
    (sx_one (sx_ret (ex_op m_mod (ex_callT c_int (by rfl) z_int bt_int (ea_cons (xv 2) ea_nil)) (xv 1)))))) sx_nil)
    (sx_cons (sx_set sc__law_draw.nd ex_int)
    (sx_cons (sx_if (et_cmp m_lt (ex_ix m_ix (xv 0) ex_int) (ex_callB c_len (by rfl) z_len bt_len (ea_cons (ex_ix m_ix (xv 0) ex_int) ea_nil)) (nomark _)) (sx_cons (sx_set sc__law_draw.nd (ex_ix m_ix (ex_ix m_ix (xv 0) ex_int) (ex_ix m_ix (xv 0) ex_int)))
    (sx_one (sx_set sc__law_draw.nd (ex_op m_add (ex_op m_mul ex_int (ex_callB c_abs (by rfl) z_abs bt_abs (ea_cons (xv 4) ea_nil))) (ex_callT c_int (by rfl) z_int bt_int (ea_cons (ex_cmp m_lt (xv 4) ex_int (nomark _)) ea_nil)))))) sx_nil)
    (sx_cons (sx_augS (xv 0) ex_int ex_int mi_add)
    (sx_cons (sx_if (et_cmp m_ge (xv 3) (ex_op m_mul ex_int (ex_op m_pow ex_int ex_int)) (nomark _)) (sx_cons (sx_set sc__law_draw.nd (ex_op m_mod (ex_callT c_int (by rfl) z_int bt_int (ea_cons (ex_op m_div (xv 3) ex_int) ea_nil)) (ex_op m_shl ex_int ex_int)))
    (sx_cons (sx_sub (ex_op m_div (xv 2) (xv 1)) (xv 0) ex_int)
    (sx_one (sx_ret (ex_op m_mod (ex_callT c_int (by rfl) z_int bt_int (ea_cons (xv 2) ea_nil)) (xv 1)))))) sx_nil)
    (sx_cons (sx_sub (ex_op m_mod (ex_callT c_int (by rfl) z_int bt_int (ea_cons (ex_op m_add (ex_op m_add (ex_op m_add (ex_op m_mul (ex_ix m_ix (xv 0) ex_int) ex_int) (ex_op m_mul (ex_op m_mod (ex_callT c_int (by rfl) z_int bt_int (ea_cons (xv 3) ea_nil)) ex_int) ex_int)) (ex_op m_mul (ex_ix m_ix (xv 0) ex_int) ex_int)) ex_int) ea_nil)) ex_int) (xv 0) ex_int)
    (sx_one (sx_ret (ex_op m_mod (ex_callT c_int (by rfl) z_int bt_int (ea_cons (ex_op m_div (ex_ix m_ix (xv 0) ex_int) ex_int) ea_nil)) (xv 1))))))))))
def N__law_pick : List PySem.Str := ["d", "row"]
theorem sc__law_pick : FnScope N__law_pick ["d", "row"] (defScope s__law_pick) := ⟨rfl, rfl, rfl, by decide +kernel, rfl, by decide +kernel, by decide +kernel⟩
def m__law_pick (f__law_draw : FM) : SM := (sRet (eBin oIx (eVar 1) (eCall 2 f__law_draw (aCons (eVar 0) (aCons (eCB fLen (aCons (eVar 1) aNil)) aNil)))))
theorem ok__law_pick {P : Program} {w : World} {K : PySem.W.Frag} {mg : PySem.Str → Option Value} {base : Heap} {f : Addr} {fd : FuncData} {f__law_draw : FM} (F : FnP K "_law_pick" s__law_pick f fd) (gx : mg "_law_pick" = some (.ref f)) (c__law_draw : Cal P w K mg base "_law_draw" 1 ["d", "many"] f__law_draw) (z_len : mg "len" = none) :
    Cal P w K mg base "_law_pick" 2 ["d", "row"] (runB 2 (m__law_pick f__law_draw)) :=
  cal_mk (k := 1) F sc__law_pick gx (fun _ _ _ _ _ _ us hl => match us, hl with | [_, _], _ => rfl) fun cdv A outer s H E hr tk hp =>
    (sx_one (sx_ret (ex_ix m_ix (xv 1) (ex_c1 c__law_draw tk hr (by decide) (ea_cons (xv 0) (ea_cons (ex_callB c_len (by rfl) z_len bt_len (ea_cons (xv 1) ea_nil)) ea_nil))))))
def N__law_shuffled : List PySem.Str := ["d", "row", "left", "found", "k"]
theorem sc__law_shuffled : FnScope N__law_shuffled ["d", "row"] (defScope s__law_shuffled) := ⟨rfl, rfl, rfl, by decide +kernel, rfl, by decide +kernel, by decide +kernel⟩
def m__law_shuffled (f__law_draw : FM) : SM := (sSeq (sSet 2 (eCB fList (aCons (eVar 1) aNil)))
    (sSeq (sSet 3 (eLst aNil))
    (sSeq (sFor (iRg1 (eCB fLen (aCons (eVar 2) aNil))) (gN 4) (sExpr (eM "list" mAppend (eVar 3) (aCons (eM "list" mPopAt (eVar 2) (aCons (eCall 2 f__law_draw (aCons (eVar 0) (aCons (eCB fLen (aCons (eVar 2) aNil)) aNil))) aNil)) aNil))))
    (sRet (eVar 3)))))
theorem ok__law_shuffled {P : Program} {w : World} {K : PySem.W.Frag} {mg : PySem.Str → Option Value} {base : Heap} {f : Addr} {fd : FuncData} {f__law_draw : FM} (F : FnP K "_law_shuffled" s__law_shuffled f fd) (gx : mg "_law_shuffled" = some (.ref f)) (c__law_draw : Cal P w K mg base "_law_draw" 1 ["d", "many"] f__law_draw) (z_list : mg "list" = none) (z_range : mg "range" = none) (z_len : mg "len" = none) :
    Cal P w K mg base "_law_shuffled" 2 ["d", "row"] (runB 5 (m__law_shuffled f__law_draw)) :=
  cal_mk (k := 1) F sc__law_shuffled gx (fun _ _ _ _ _ _ us hl => match us, hl with | [_, _], _ => rfl) fun cdv A outer s H E hr tk hp =>
    (sx_cons (sx_set sc__law_shuffled.nd (ex_callT c_list (by rfl) z_list bt_list (ea_cons (xv 1) ea_nil)))
    (sx_cons (sx_set sc__law_shuffled.nd (ex_lst ea_nil))
    (sx_cons (sx_for hp (by rfl) (ei_range1 (by rfl) z_range (ex_callB c_len (by rfl) z_len bt_len (ea_cons (xv 2) ea_nil))) (eg_name sc__law_shuffled.nd) (sx_one (sx_expr (ex_m PySem.F.plainAttrs_list PySem.F.slot_list_append PySem.F.type_list_append me_append (xv 3) (ea_cons (ex_m PySem.F.plainAttrs_list PySem.F.slot_list_pop PySem.F.type_list_pop me_popAt (xv 2) (ea_cons (ex_c1 c__law_draw tk hr (by decide) (ea_cons (xv 0) (ea_cons (ex_callB c_len (by rfl) z_len bt_len (ea_cons (xv 2) ea_nil)) ea_nil))) ea_nil)) ea_nil)))))
    (sx_one (sx_ret (xv 3))))))
def N__law_is_int : List PySem.Str := ["thing"]
theorem sc__law_is_int : FnScope N__law_is_int ["thing"] (defScope s__law_is_int) := ⟨rfl, rfl, rfl, by decide +kernel, rfl, by decide +kernel, by decide +kernel⟩
def m__law_is_int : SM := (sRet (eAnd (eCB fIsi (aCons (eVar 0) (aCons (eC (.ty "int")) aNil))) (eNot (eCB fIsi (aCons (eVar 0) (aCons (eC (.ty "bool")) aNil))))))
theorem ok__law_is_int {P : Program} {w : World} {K : PySem.W.Frag} {mg : PySem.Str → Option Value} {base : Heap} {f : Addr} {fd : FuncData} (F : FnP K "_law_is_int" s__law_is_int f fd) (gx : mg "_law_is_int" = some (.ref f)) (z_int : mg "int" = none) (z_isinstance : mg "isinstance" = none) (z_bool : mg "bool" = none) :
    Cal P w K mg base "_law_is_int" 1 ["thing"] (runB 1 (m__law_is_int)) :=
  cal_mk (k := 0) F sc__law_is_int gx (fun _ _ _ _ _ _ us hl => match us, hl with | [_], _ => rfl) fun cdv A outer s H E hr tk hp =>
    (sx_one (sx_ret (ex_and (ex_callB c_isi (by rfl) z_isinstance bt_isinstance (ea_cons (xv 0) (ea_cons (ex_bltn (by rfl) z_int bt_int (by rfl) (fun _ _ => .ty _)) ea_nil))) (ex_one (ex_not (ex_callB c_isi (by rfl) z_isinstance bt_isinstance (ea_cons (xv 0) (ea_cons (ex_bltn (by rfl) z_bool bt_bool (by rfl) (fun _ _ => .ty _)) ea_nil))))))))
def N__law_gcd : List PySem.Str := ["left", "right", "a", "b", "c"]
theorem sc__law_gcd : FnScope N__law_gcd ["left", "right"] (defScope s__law_gcd) := ⟨rfl, rfl, rfl, by decide +kernel, rfl, by decide +kernel, by decide +kernel⟩
def m__law_gcd : SM := (sSeq (sSet 2 (eCB fAbs (aCons (eVar 0) aNil)))
    (sSeq (sSet 3 (eCB fAbs (aCons (eVar 1) aNil)))
    (sSeq (whileN (tBl (eBin oGt (eVar 3) (eC (.int 0)))) (sSeq (sSet 4 (eBin oMod (eCB fInt (aCons (eVar 2) aNil)) (eVar 3)))
    (sSeq (sSet 2 (eVar 3))
    (sSet 3 (eVar 4)))) big)
    (sRet (eVar 2)))))
theorem ok__law_gcd {P : Program} {w : World} {K : PySem.W.Frag} {mg : PySem.Str → Option Value} {base : Heap} {f : Addr} {fd : FuncData} (F : FnP K "_law_gcd" s__law_gcd f fd) (gx : mg "_law_gcd" = some (.ref f)) (z_abs : mg "abs" = none) (z_int : mg "int" = none) :
    Cal P w K mg base "_law_gcd" 1 ["left", "right"] (runB 5 (m__law_gcd)) :=
  cal_mk (k := 0) F sc__law_gcd gx (fun _ _ _ _ _ _ us hl => match us, hl with | [_, _], _ => rfl) fun cdv A outer s H E hr tk hp =>
    (sx_cons (sx_set sc__law_gcd.nd (ex_callB c_abs (by rfl) z_abs bt_abs (ea_cons (xv 0) ea_nil)))
    (sx_cons (sx_set sc__law_gcd.nd (ex_callB c_abs (by rfl) z_abs bt_abs (ea_cons (xv 1) ea_nil)))
    (sx_cons (sx_while big hp (et_cmp m_gt (xv 3) ex_int (nomark _)) (sx_cons (sx_set sc__law_gcd.nd (ex_op m_mod (ex_callT c_int (by rfl) z_int bt_int (ea_cons (xv 2) ea_nil)) (xv 3)))
    (sx_cons (sx_set sc__law_gcd.nd (xv 3))
    (sx_one (sx_set sc__law_gcd.nd (xv 4))))))
    (sx_one (sx_ret (xv 2))))))
def N__law_f : List PySem.Str := ["n", "d", "common"]
theorem sc__law_f : FnScope N__law_f ["n", "d"] (defScope s__law_f) := ⟨rfl, rfl, rfl, by decide +kernel, rfl, by decide +kernel, by decide +kernel⟩
def m__law_f (f__law_gcd : FM) : SM := (sSeq (sSet 2 (eCall 2 f__law_gcd (aCons (eVar 0) (aCons (eVar 1) aNil))))
    (sSeq (sIf (tBl (eBin oLt (eVar 1) (eC (.int 0)))) (sSet 2 (eUn oNeg (eVar 2))) sNil)
    (sRet (eTup (aCons (eBin oDiv (eVar 0) (eVar 2)) (aCons (eBin oDiv (eVar 1) (eVar 2)) aNil))))))
theorem ok__law_f {P : Program} {w : World} {K : PySem.W.Frag} {mg : PySem.Str → Option Value} {base : Heap} {f : Addr} {fd : FuncData} {f__law_gcd : FM} (F : FnP K "_law_f" s__law_f f fd) (gx : mg "_law_f" = some (.ref f)) (c__law_gcd : Cal P w K mg base "_law_gcd" 1 ["left", "right"] f__law_gcd) :
    Cal P w K mg base "_law_f" 2 ["n", "d"] (runB 3 (m__law_f f__law_gcd)) :=
  cal_mk (k := 1) F sc__law_f gx (fun _ _ _ _ _ _ us hl => match us, hl with | [_, _], _ => rfl) fun cdv A outer s H E hr tk hp =>
    (sx_cons (sx_set sc__law_f.nd (ex_c1 c__law_gcd tk hr (by decide) (ea_cons (xv 0) (ea_cons (xv 1) ea_nil))))
    (sx_cons (sx_if (et_cmp m_lt (xv 1) ex_int (nomark _)) (sx_one (sx_set sc__law_f.nd (ex_un m_neg (xv 2)))) sx_nil)
    (sx_one (sx_ret (ex_tup (ea_cons (ex_op m_div (xv 0) (xv 2)) (ea_cons (ex_op m_div (xv 1) (xv 2)) ea_nil)))))))
def N__law_times : List PySem.Str := ["x", "y"]
theorem sc__law_times : FnScope N__law_times ["x", "y"] (defScope s__law_times) := ⟨rfl, rfl, rfl, by decide +kernel, rfl, by decide +kernel, by decide +kernel⟩
def m__law_times (f__law_f : FM) : SM := (sRet (eCall 2 f__law_f (aCons (eBin oMul (eBin oIx (eVar 0) (eC (.int 0))) (eBin oIx (eVar 1) (eC (.int 0)))) (aCons (eBin oMul (eBin oIx (eVar 0) (eC (.int 1))) (eBin oIx (eVar 1) (eC (.int 1)))) aNil))))
theorem ok__law_times {P : Program} {w : World} {K : PySem.W.Frag} {mg : PySem.Str → Option Value} {base : Heap} {f : Addr} {fd : FuncData} {f__law_f : FM} (F : FnP K "_law_times" s__law_times f fd) (gx : mg "_law_times" = some (.ref f)) (c__law_f : Cal P w K mg base "_law_f" 2 ["n", "d"] f__law_f) :
    Cal P w K mg base "_law_times" 3 ["x", "y"] (runB 2 (m__law_times f__law_f)) :=
  cal_mk (k := 2) F sc__law_times gx (fun _ _ _ _ _ _ us hl => match us, hl with | [_, _], _ => rfl) fun cdv A outer s H E hr tk hp =>
    (sx_one (sx_ret (ex_c1 c__law_f tk hr (by decide) (ea_cons (ex_op m_mul (ex_ix m_ix (xv 0) ex_int) (ex_ix m_ix (xv 1) ex_int)) (ea_cons (ex_op m_mul (ex_ix m_ix (xv 0) ex_int) (ex_ix m_ix (xv 1) ex_int)) ea_nil)))))
def N__law_over : List PySem.Str := ["x", "y"]
theorem sc__law_over : FnScope N__law_over ["x", "y"] (defScope s__law_over) := ⟨rfl, rfl, rfl, by decide +kernel, rfl, by decide +kernel, by decide +kernel⟩
def m__law_over (f__law_f : FM) : SM := (sRet (eCall 2 f__law_f (aCons (eBin oMul (eBin oIx (eVar 0) (eC (.int 0))) (eBin oIx (eVar 1) (eC (.int 1)))) (aCons (eBin oMul (eBin oIx (eVar 0) (eC (.int 1))) (eBin oIx (eVar 1) (eC (.int 0)))) aNil))))
theorem ok__law_over {P : Program} {w : World} {K : PySem.W.Frag} {mg : PySem.Str → Option Value} {base : Heap} {f : Addr} {fd : FuncData} {f__law_f : FM} (F : FnP K "_law_over" s__law_over f fd) (gx : mg "_law_over" = some (.ref f)) (c__law_f : Cal P w K mg base "_law_f" 2 ["n", "d"] f__law_f) :
    Cal P w K mg base "_law_over" 3 ["x", "y"] (runB 2 (m__law_over f__law_f)) :=
  cal_mk (k := 2) F sc__law_over gx (fun _ _ _ _ _ _ us hl => match us, hl with | [_, _], _ => rfl) fun cdv A outer s H E hr tk hp =>
    (sx_one (sx_ret (ex_c1 c__law_f tk hr (by decide) (ea_cons (ex_op m_mul (ex_ix m_ix (xv 0) ex_int) (ex_ix m_ix (xv 1) ex_int)) (ea_cons (ex_op m_mul (ex_ix m_ix (xv 0) ex_int) (ex_ix m_ix (xv 1) ex_int)) ea_nil)))))
def N__law_less : List PySem.Str := ["x", "y"]
theorem sc__law_less : FnScope N__law_less ["x", "y"] (defScope s__law_less) := ⟨rfl, rfl, rfl, by decide +kernel, rfl, by decide +kernel, by decide +kernel⟩
def m__law_less : SM := (sRet (eBin oLt (eBin oMul (eBin oIx (eVar 0) (eC (.int 0))) (eBin oIx (eVar 1) (eC (.int 1)))) (eBin oMul (eBin oIx (eVar 1) (eC (.int 0))) (eBin oIx (eVar 0) (eC (.int 1))))))
theorem ok__law_less {P : Program} {w : World} {K : PySem.W.Frag} {mg : PySem.Str → Option Value} {base : Heap} {f : Addr} {fd : FuncData} (F : FnP K "_law_less" s__law_less f fd) (gx : mg "_law_less" = some (.ref f))  :
    Cal P w K mg base "_law_less" 1 ["x", "y"] (runB 2 (m__law_less)) :=
  cal_mk (k := 0) F sc__law_less gx (fun _ _ _ _ _ _ us hl => match us, hl with | [_, _], _ => rfl) fun cdv A outer s H E hr tk hp =>
    (sx_one (sx_ret (ex_cmp m_lt (ex_op m_mul (ex_ix m_ix (xv 0) ex_int) (ex_ix m_ix (xv 1) ex_int)) (ex_op m_mul (ex_ix m_ix (xv 1) ex_int) (ex_ix m_ix (xv 0) ex_int)) (nomark _))))
def N__law_great : List PySem.Str := ["row", "found", "part"]
theorem sc__law_great : FnScope N__law_great ["row"] (defScope s__law_great) := ⟨rfl, rfl, rfl, by decide +kernel, rfl, by decide +kernel, by decide +kernel⟩
def m__law_great (f__law_less : FM) : SM := (sSeq (sSet 1 (eBin oIx (eVar 0) (eC (.int 0))))
    (sSeq (sFor (iEx (eVar 0)) (gN 2) (sIf (tVal (eCall 2 f__law_less (aCons (eVar 1) (aCons (eVar 2) aNil)))) (sSet 1 (eVar 2)) sNil))
    (sRet (eVar 1))))
theorem ok__law_great {P : Program} {w : World} {K : PySem.W.Frag} {mg : PySem.Str → Option Value} {base : Heap} {f : Addr} {fd : FuncData} {f__law_less : FM} (F : FnP K "_law_great" s__law_great f fd) (gx : mg "_law_great" = some (.ref f)) (c__law_less : Cal P w K mg base "_law_less" 1 ["x", "y"] f__law_less) :
    Cal P w K mg base "_law_great" 2 ["row"] (runB 3 (m__law_great f__law_less)) :=
  cal_mk (k := 1) F sc__law_great gx (fun _ _ _ _ _ _ us hl => match us, hl with | [_], _ => rfl) fun cdv A outer s H E hr tk hp =>
    (sx_cons (sx_set sc__law_great.nd (ex_ix m_ix (xv 0) ex_int))
    (sx_cons (sx_for hp (by rfl) (ei_ex (xv 0)) (eg_name sc__law_great.nd) (sx_one (sx_if (et_val (ex_c1 c__law_less tk hr (by decide) (ea_cons (xv 1) (ea_cons (xv 2) ea_nil)))) (sx_one (sx_set sc__law_great.nd (xv 2))) sx_nil)))
    (sx_one (sx_ret (xv 1)))))
def N__law_is_frac : List PySem.Str := ["thing"]
theorem sc__law_is_frac : FnScope N__law_is_frac ["thing"] (defScope s__law_is_frac) := ⟨rfl, rfl, rfl, by decide +kernel, rfl, by decide +kernel, by decide +kernel⟩
def m__law_is_frac (f__law_is_int : FM) (f__law_gcd : FM) : SM := (sSeq (sIf (tOr (HM.tNot (tVal (eCB fIsi (aCons (eVar 0) (aCons (eC (.ty "tuple")) aNil))))) (tBl (eBin oNe (eCB fLen (aCons (eVar 0) aNil)) (eC (.int 2))))) (sRet (eC (.bl false))) sNil)
    (sSeq (sIf (tOr (HM.tNot (tVal (eCall 1 f__law_is_int (aCons (eBin oIx (eVar 0) (eC (.int 0))) aNil)))) (HM.tNot (tVal (eCall 1 f__law_is_int (aCons (eBin oIx (eVar 0) (eC (.int 1))) aNil))))) (sRet (eC (.bl false))) sNil)
    (sRet (eAnd (eBin oGe (eBin oIx (eVar 0) (eC (.int 1))) (eC (.int 1))) (eBin oEq (eCall 2 f__law_gcd (aCons (eBin oIx (eVar 0) (eC (.int 0))) (aCons (eBin oIx (eVar 0) (eC (.int 1))) aNil))) (eC (.int 1)))))))
theorem ok__law_is_frac {P : Program} {w : World} {K : PySem.W.Frag} {mg : PySem.Str → Option Value} {base : Heap} {f : Addr} {fd : FuncData} {f__law_is_int f__law_gcd : FM} (F : FnP K "_law_is_frac" s__law_is_frac f fd) (gx : mg "_law_is_frac" = some (.ref f)) (c__law_is_int : Cal P w K mg base "_law_is_int" 1 ["thing"] f__law_is_int) (c__law_gcd : Cal P w K mg base "_law_gcd" 1 ["left", "right"] f__law_gcd) (z_tuple : mg "tuple" = none) (z_isinstance : mg "isinstance" = none) (z_len : mg "len" = none) :
    Cal P w K mg base "_law_is_frac" 2 ["thing"] (runB 1 (m__law_is_frac f__law_is_int f__law_gcd)) :=
  cal_mk (k := 1) F sc__law_is_frac gx (fun _ _ _ _ _ _ us hl => match us, hl with | [_], _ => rfl) fun cdv A outer s H E hr tk hp =>
    (sx_cons (sx_if (Ew.et (ew_or (et_not (et_val (ex_callB c_isi (by rfl) z_isinstance bt_isinstance (ea_cons (xv 0) (ea_cons (ex_bltn (by rfl) z_tuple bt_tuple (by rfl) (fun _ _ => .ty _)) ea_nil))))) (ew_or1 (et_cmp (m_ne hr.units) (ex_callB c_len (by rfl) z_len bt_len (ea_cons (xv 0) ea_nil)) ex_int (nomark _))))) (sx_one (sx_ret ex_bl)) sx_nil)
    (sx_cons (sx_if (Ew.et (ew_or (et_not (et_val (ex_c1 c__law_is_int tk hr (by decide) (ea_cons (ex_ix m_ix (xv 0) ex_int) ea_nil)))) (ew_or1 (et_not (et_val (ex_c1 c__law_is_int tk hr (by decide) (ea_cons (ex_ix m_ix (xv 0) ex_int) ea_nil))))))) (sx_one (sx_ret ex_bl)) sx_nil)
    (sx_one (sx_ret (ex_and (ex_cmp m_ge (ex_ix m_ix (xv 0) ex_int) ex_int (nomark _)) (ex_one (ex_cmp (m_eq hr.units) (ex_c1 c__law_gcd tk hr (by decide) (ea_cons (ex_ix m_ix (xv 0) ex_int) (ea_cons (ex_ix m_ix (xv 0) ex_int) ea_nil))) ex_int (nomark _))))))))
def N__law_is_ratio : List PySem.Str := ["thing"]
theorem sc__law_is_ratio : FnScope N__law_is_ratio ["thing"] (defScope s__law_is_ratio) := ⟨rfl, rfl, rfl, by decide +kernel, rfl, by decide +kernel, by decide +kernel⟩
def m__law_is_ratio (f__law_is_frac : FM) : SM := (sRet (eAnd (eCall 1 f__law_is_frac (aCons (eVar 0) aNil)) (eBin oGe (eBin oIx (eVar 0) (eC (.int 0))) (eC (.int 0)))))
theorem ok__law_is_ratio {P : Program} {w : World} {K : PySem.W.Frag} {mg : PySem.Str → Option Value} {base : Heap} {f : Addr} {fd : FuncData} {f__law_is_frac : FM} (F : FnP K "_law_is_ratio" s__law_is_ratio f fd) (gx : mg "_law_is_ratio" = some (.ref f)) (c__law_is_frac : Cal P w K mg base "_law_is_frac" 2 ["thing"] f__law_is_frac) :
    Cal P w K mg base "_law_is_ratio" 3 ["thing"] (runB 1 (m__law_is_ratio f__law_is_frac)) :=
  cal_mk (k := 2) F sc__law_is_ratio gx (fun _ _ _ _ _ _ us hl => match us, hl with | [_], _ => rfl) fun cdv A outer s H E hr tk hp =>
    (sx_one (sx_ret (ex_and (ex_c1 c__law_is_frac tk hr (by decide) (ea_cons (xv 0) ea_nil)) (ex_one (ex_cmp m_ge (ex_ix m_ix (xv 0) ex_int) ex_int (nomark _))))))
def N__law_row : List PySem.Str := ["d", "many", "most", "zeros", "found", "k"]
theorem sc__law_row : FnScope N__law_row ["d", "many", "most", "zeros"] (defScope s__law_row) := ⟨rfl, rfl, rfl, by decide +kernel, rfl, by decide +kernel, by decide +kernel⟩
def m__law_row (f__law_draw : FM) : SM := (sSeq (sSet 4 (eEl (lComp [5] (iRg1 (eVar 1)) (gN 5) tYes (eBin oAdd (eC (.int 1)) (eCall 2 f__law_draw (aCons (eVar 0) (aCons (eVar 2) aNil)))))))
    (sSeq (sIf (tVal (eVar 3)) (sFor (iRg1 (eVar 1)) (gN 5) (sIf (tBl (eBin oEq (eCall 2 f__law_draw (aCons (eVar 0) (aCons (eC (.int 4)) aNil))) (eC (.int 1)))) (sSub (eVar 4) (eVar 5) (eC (.int 0))) sNil)) sNil)
    (sSeq (sIf (tBl (eBin oEq (eCS gSum (sEx (eVar 4))) (eC (.int 0)))) (sSub (eVar 4) (eCall 2 f__law_draw (aCons (eVar 0) (aCons (eVar 1) aNil))) (eC (.int 1))) sNil)
    (sRet (eCB fTuple (aCons (eVar 4) aNil))))))
theorem ok__law_row {P : Program} {w : World} {K : PySem.W.Frag} {mg : PySem.Str → Option Value} {base : Heap} {f : Addr} {fd : FuncData} {f__law_draw : FM} (F : FnP K "_law_row" s__law_row f fd) (gx : mg "_law_row" = some (.ref f)) (c__law_draw : Cal P w K mg base "_law_draw" 1 ["d", "many"] f__law_draw) (z_range : mg "range" = none) (z_sum : mg "sum" = none) (z_tuple : mg "tuple" = none) :
    Cal P w K mg base "_law_row" 2 ["d", "many", "most", "zeros"] (runB 6 (m__law_row f__law_draw)) :=
  cal_mk (k := 1) F sc__law_row gx (fun _ _ _ _ _ _ us hl => match us, hl with | [_, _, _, _], _ => rfl) fun cdv A outer s H E hr tk hp =>
    (sx_cons (sx_setLc (own := [(("k" : PySem.Str), 5)]) (by rfl) sc__law_row.nd (ei_range1 (by rfl) z_range (xv 1)) (blkOk_by (N := N__law_row) (sc := (defScope s__law_row)) (by decide +kernel)) (fun _ _ _ _ _ => (eg_name sc__law_row.nd)) (fun _ _ _ _ _ => ets_nil) (fun _ _ _ _ _ => (ex_op m_add ex_int (ex_c1 c__law_draw tk0 hr (by decide) (ea_cons (xv 0) (ea_cons (xv 2) ea_nil))))))
    (sx_cons (sx_if (et_val (xv 3)) (sx_one (sx_for hp (by rfl) (ei_range1 (by rfl) z_range (xv 1)) (eg_name sc__law_row.nd) (sx_one (sx_if (et_cmp (m_eq hr.units) (ex_c1 c__law_draw tk hr (by decide) (ea_cons (xv 0) (ea_cons ex_int ea_nil))) ex_int (nomark _)) (sx_one (sx_sub ex_int (xv 4) (xv 5))) sx_nil)))) sx_nil)
    (sx_cons (sx_if (et_cmp (m_eq hr.units) (ex_callBs (s_sum (by rfl)) (by rfl) z_sum bt_sum (es_ex (xv 4))) ex_int (nomark _)) (sx_one (sx_sub ex_int (xv 4) (ex_c1 c__law_draw tk hr (by decide) (ea_cons (xv 0) (ea_cons (xv 1) ea_nil))))) sx_nil)
    (sx_one (sx_ret (ex_callT c_tuple (by rfl) z_tuple bt_tuple (ea_cons (xv 4) ea_nil)))))))
def N__law_chances : List PySem.Str := ["weights", "weight"]
theorem sc__law_chances : FnScope N__law_chances ["weights"] (defScope s__law_chances) := ⟨rfl, rfl, rfl, by decide +kernel, rfl, by decide +kernel, by decide +kernel⟩
def m__law_chances (f__law_f : FM) : SM := (sRet (eCS gTuple (lComp [1] (iEx (eVar 0)) (gN 1) tYes (eCall 2 f__law_f (aCons (eVar 1) (aCons (eCS gSum (sEx (eVar 0))) aNil))))))
theorem ok__law_chances {P : Program} {w : World} {K : PySem.W.Frag} {mg : PySem.Str → Option Value} {base : Heap} {f : Addr} {fd : FuncData} {f__law_f : FM} (F : FnP K "_law_chances" s__law_chances f fd) (gx : mg "_law_chances" = some (.ref f)) (c__law_f : Cal P w K mg base "_law_f" 2 ["n", "d"] f__law_f) (z_sum : mg "sum" = none) (z_tuple : mg "tuple" = none) :
    Cal P w K mg base "_law_chances" 3 ["weights"] (runB 2 (m__law_chances f__law_f)) :=
  cal_mk (k := 2) F sc__law_chances gx (fun _ _ _ _ _ _ us hl => match us, hl with | [_], _ => rfl) fun cdv A outer s H E hr tk hp =>
    (sx_one (sx_ret (ex_callTs s_tuple (by rfl) z_tuple bt_tuple (es_el (el_comp (own := [(("weight" : PySem.Str), 1)]) (by rfl) sc__law_chances.nd (ei_ex (xv 0)) (blkOk_by (N := N__law_chances) (sc := (defScope s__law_chances)) (by decide +kernel)) (fun _ _ _ _ _ => (eg_name sc__law_chances.nd)) (fun _ _ _ _ _ => ets_nil) (fun _ _ _ _ _ => (ex_c1 c__law_f tk0 hr (by decide) (ea_cons (xv 1) (ea_cons (ex_callBs (s_sum (by rfl)) (by rfl) z_sum bt_sum (es_ex (xv 0))) ea_nil)))))))))
def N__law_row_loss : List PySem.Str := ["row", "other", "found", "mine", "theirs"]
theorem sc__law_row_loss : FnScope N__law_row_loss ["row", "other"] (defScope s__law_row_loss) := ⟨rfl, rfl, rfl, by decide +kernel, rfl, by decide +kernel, by decide +kernel⟩
def m__law_row_loss (f__law_chances : FM) (f__law_great : FM) (f__law_over : FM) : SM := (sSeq (sSet 2 (eTup (aCons (eC (.int 1)) (aCons (eC (.int 1)) aNil))))
    (sSeq (sFor (iZip (eCall 1 f__law_chances (aCons (eVar 0) aNil)) (eCall 1 f__law_chances (aCons (eVar 1) aNil))) (gT 2 (gCs 3 (gCs 4 gNil0))) (sSeq (sIf (tAnd (tBl (eBin oGt (eBin oIx (eVar 3) (eC (.int 0))) (eC (.int 0)))) (tBl (eBin oEq (eBin oIx (eVar 4) (eC (.int 0))) (eC (.int 0))))) (sRet (eC .non)) sNil)
    (sIf (tBl (eBin oGt (eBin oIx (eVar 3) (eC (.int 0))) (eC (.int 0)))) (sSet 2 (eCall 1 f__law_great (aCons (eLst (aCons (eVar 2) (aCons (eCall 2 f__law_over (aCons (eVar 3) (aCons (eVar 4) aNil))) aNil))) aNil))) sNil)))
    (sRet (eVar 2))))
theorem ok__law_row_loss {P : Program} {w : World} {K : PySem.W.Frag} {mg : PySem.Str → Option Value} {base : Heap} {f : Addr} {fd : FuncData} {f__law_chances f__law_great f__law_over : FM} (F : FnP K "_law_row_loss" s__law_row_loss f fd) (gx : mg "_law_row_loss" = some (.ref f)) (c__law_chances : Cal P w K mg base "_law_chances" 3 ["weights"] f__law_chances) (c__law_great : Cal P w K mg base "_law_great" 2 ["row"] f__law_great) (c__law_over : Cal P w K mg base "_law_over" 3 ["x", "y"] f__law_over) (z_zip : mg "zip" = none) :
    Cal P w K mg base "_law_row_loss" 4 ["row", "other"] (runB 5 (m__law_row_loss f__law_chances f__law_great f__law_over)) :=
  cal_mk (k := 3) F sc__law_row_loss gx (fun _ _ _ _ _ _ us hl => match us, hl with | [_, _], _ => rfl) fun cdv A outer s H E hr tk hp =>
    (sx_cons (sx_set sc__law_row_loss.nd (ex_tup (ea_cons ex_int (ea_cons ex_int ea_nil))))
    (sx_cons (sx_for hp (by rfl) (ei_zip (by rfl) z_zip (ex_c1 c__law_chances tk hr (by decide) (ea_cons (xv 0) ea_nil)) (ex_c1 c__law_chances tk hr (by decide) (ea_cons (xv 1) ea_nil))) (eg_tup (by rfl) (egs_cons sc__law_row_loss.nd (egs_cons sc__law_row_loss.nd egs_nil))) (sx_cons (sx_if (Ew.et (ew_and (et_cmp m_gt (ex_ix m_ix (xv 3) ex_int) ex_int (nomark _)) (ew_and1 (et_cmp (m_eq hr.units) (ex_ix m_ix (xv 4) ex_int) ex_int (nomark _))))) (sx_one (sx_ret ex_non)) sx_nil)
    (sx_one (sx_if (et_cmp m_gt (ex_ix m_ix (xv 3) ex_int) ex_int (nomark _)) (sx_one (sx_set sc__law_row_loss.nd (ex_c1 c__law_great tk hr (by decide) (ea_cons (ex_lst (ea_cons (xv 2) (ea_cons (ex_c1 c__law_over tk hr (by decide) (ea_cons (xv 3) (ea_cons (xv 4) ea_nil))) ea_nil))) ea_nil)))) sx_nil))))
    (sx_one (sx_ret (xv 2)))))
def N__law_is_loss : List PySem.Str := ["found", "due"]
theorem sc__law_is_loss : FnScope N__law_is_loss ["found", "due"] (defScope s__law_is_loss) := ⟨rfl, rfl, rfl, by decide +kernel, rfl, by decide +kernel, by decide +kernel⟩
def m__law_is_loss (f__law_is_ratio : FM) : SM := (sSeq (sIf (tBl (eBin oIs (eVar 1) (eC .non))) (sRet (eBin oIs (eVar 0) (eC .non))) sNil)
    (sRet (eAnd (eCall 1 f__law_is_ratio (aCons (eVar 0) aNil)) (eBin oEq (eVar 0) (eVar 1)))))
theorem ok__law_is_loss {P : Program} {w : World} {K : PySem.W.Frag} {mg : PySem.Str → Option Value} {base : Heap} {f : Addr} {fd : FuncData} {f__law_is_ratio : FM} (F : FnP K "_law_is_loss" s__law_is_loss f fd) (gx : mg "_law_is_loss" = some (.ref f)) (c__law_is_ratio : Cal P w K mg base "_law_is_ratio" 3 ["thing"] f__law_is_ratio) :
    Cal P w K mg base "_law_is_loss" 4 ["found", "due"] (runB 2 (m__law_is_loss f__law_is_ratio)) :=
  cal_mk (k := 3) F sc__law_is_loss gx (fun _ _ _ _ _ _ us hl => match us, hl with | [_, _], _ => rfl) fun cdv A outer s H E hr tk hp =>
    (sx_cons (sx_if (et_cmp m_is (xv 1) ex_non (nomark _)) (sx_one (sx_ret (ex_cmp m_is (xv 0) ex_non (nomark _)))) sx_nil)
    (sx_one (sx_ret (ex_and (ex_c1 c__law_is_ratio tk hr (by decide) (ea_cons (xv 0) ea_nil)) (ex_one (ex_cmp (m_eq hr.units) (xv 0) (xv 1) (nomark _)))))))
def N__law_first_row : List PySem.Str := ["d", "many", "style", "found", "k"]
theorem sc__law_first_row : FnScope N__law_first_row ["d", "many"] (defScope s__law_first_row) := ⟨rfl, rfl, rfl, by decide +kernel, rfl, by decide +kernel, by decide +kernel⟩
def m__law_first_row (f__law_draw : FM) (f__law_row : FM) (f__law_pick : FM) : SM := (sSeq (sSet 2 (eCall 2 f__law_draw (aCons (eVar 0) (aCons (eC (.int 8)) aNil))))
    (sSeq (sIf (tBl (eBin oNe (eVar 2) (eC (.int 3)))) (sRet (eCall 4 f__law_row (aCons (eVar 0) (aCons (eVar 1) (aCons (eC (.int 12)) (aCons (eBin oLt (eVar 2) (eC (.int 4))) aNil)))))) sNil)
    (sSeq (sSet 3 (eEl (lComp [4] (iRg1 (eVar 1)) (gN 4) tYes (eCall 2 f__law_pick (aCons (eVar 0) (aCons (eLst (aCons (eBin oPow (eC (.int 10)) (eC (.int 40))) (aCons (eBin oSub (eBin oPow (eC (.int 10)) (eC (.int 40))) (eC (.int 1))) (aCons (eBin oPow (eC (.int 7)) (eC (.int 40))) (aCons (eC (.int 1)) (aCons (eC (.int 0)) aNil)))))) aNil))))))
    (sSeq (sIf (tBl (eBin oEq (eCS gSum (sEx (eVar 3))) (eC (.int 0)))) (sSub (eVar 3) (eCall 2 f__law_draw (aCons (eVar 0) (aCons (eVar 1) aNil))) (eBin oPow (eC (.int 10)) (eC (.int 40)))) sNil)
    (sRet (eCB fTuple (aCons (eVar 3) aNil)))))))
theorem ok__law_first_row {P : Program} {w : World} {K : PySem.W.Frag} {mg : PySem.Str → Option Value} {base : Heap} {f : Addr} {fd : FuncData} {f__law_draw f__law_row f__law_pick : FM} (F : FnP K "_law_first_row" s__law_first_row f fd) (gx : mg "_law_first_row" = some (.ref f)) (c__law_draw : Cal P w K mg base "_law_draw" 1 ["d", "many"] f__law_draw) (c__law_row : Cal P w K mg base "_law_row" 2 ["d", "many", "most", "zeros"] f__law_row) (c__law_pick : Cal P w K mg base "_law_pick" 2 ["d", "row"] f__law_pick) (z_range : mg "range" = none) (z_sum : mg "sum" = none) (z_tuple : mg "tuple" = none) :
    Cal P w K mg base "_law_first_row" 3 ["d", "many"] (runB 5 (m__law_first_row f__law_draw f__law_row f__law_pick)) :=
  cal_mk (k := 2) F sc__law_first_row gx (fun _ _ _ _ _ _ us hl => match us, hl with | [_, _], _ => rfl) fun cdv A outer s H E hr tk hp =>
    (sx_cons (sx_set sc__law_first_row.nd (ex_c1 c__law_draw tk hr (by decide) (ea_cons (xv 0) (ea_cons ex_int ea_nil))))
    (sx_cons (sx_if (et_cmp (m_ne hr.units) (xv 2) ex_int (nomark _)) (sx_one (sx_ret (ex_c1 c__law_row tk hr (by decide) (ea_cons (xv 0) (ea_cons (xv 1) (ea_cons ex_int (ea_cons (ex_cmp m_lt (xv 2) ex_int (nomark _)) ea_nil))))))) sx_nil)
    (sx_cons (sx_setLc (own := [(("k" : PySem.Str), 4)]) (by rfl) sc__law_first_row.nd (ei_range1 (by rfl) z_range (xv 1)) (blkOk_by (N := N__law_first_row) (sc := (defScope s__law_first_row)) (by decide +kernel)) (fun _ _ _ _ _ => (eg_name sc__law_first_row.nd)) (fun _ _ _ _ _ => ets_nil) (fun _ _ _ _ _ => (ex_c1 c__law_pick tk0 hr (by decide) (ea_cons (xv 0) (ea_cons (ex_lst (ea_cons (ex_op m_pow ex_int ex_int) (ea_cons (ex_op m_sub (ex_op m_pow ex_int ex_int) ex_int) (ea_cons (ex_op m_pow ex_int ex_int) (ea_cons ex_int (ea_cons ex_int ea_nil)))))) ea_nil)))))
    (sx_cons (sx_if (et_cmp (m_eq hr.units) (ex_callBs (s_sum (by rfl)) (by rfl) z_sum bt_sum (es_ex (xv 3))) ex_int (nomark _)) (sx_one (sx_sub (ex_op m_pow ex_int ex_int) (xv 3) (ex_c1 c__law_draw tk hr (by decide) (ea_cons (xv 0) (ea_cons (xv 1) ea_nil))))) sx_nil)
    (sx_one (sx_ret (ex_callT c_tuple (by rfl) z_tuple bt_tuple (ea_cons (xv 3) ea_nil))))))))
def N__law_other_row : List PySem.Str := ["d", "row", "many", "style", "factor", "found", "at", "weight"]
theorem sc__law_other_row : FnScope N__law_other_row ["d", "row"] (defScope s__law_other_row) := ⟨rfl, rfl, rfl, by decide +kernel, rfl, by decide +kernel, by decide +kernel⟩
def m__law_other_row (f__law_draw : FM) (f__law_shuffled : FM) (f__law_row : FM) : SM := (sSeq (sSet 2 (eCB fLen (aCons (eVar 1) aNil)))
    (sSeq (sSet 3 (eCall 2 f__law_draw (aCons (eVar 0) (aCons (eC (.int 7)) aNil))))
    (sSeq (sIf (tOr (tBl (eBin oGt (eCS gMax (sEx (eVar 1))) (eC (.int 1000)))) (tBl (eBin oEq (eVar 3) (eC (.int 0))))) (sRet (eIf (tBl (eBin oEq (eCall 2 f__law_draw (aCons (eVar 0) (aCons (eC (.int 2)) aNil))) (eC (.int 1)))) (eCB fTuple (aCons (eCall 2 f__law_shuffled (aCons (eVar 0) (aCons (eCB fList (aCons (eVar 1) aNil)) aNil))) aNil)) (eCall 4 f__law_row (aCons (eVar 0) (aCons (eVar 2) (aCons (eC (.int 12)) (aCons (eC (.bl true)) aNil))))))) sNil)
    (sSeq (sIf (tBl (eBin oEq (eVar 3) (eC (.int 1)))) (sSeq (sSet 4 (eBin oAdd (eC (.int 1)) (eCall 2 f__law_draw (aCons (eVar 0) (aCons (eC (.int 9)) aNil)))))
    (sRet (eCS gTuple (lComp [7] (iEx (eVar 1)) (gN 7) tYes (eBin oMul (eVar 7) (eVar 4)))))) sNil)
    (sSeq (sIf (tBl (eBin oGt (eVar 3) (eC (.int 3)))) (sRet (eCall 4 f__law_row (aCons (eVar 0) (aCons (eVar 2) (aCons (eC (.int 12)) (aCons (eBin oEq (eVar 3) (eC (.int 4))) aNil)))))) sNil)
    (sSeq (sSet 5 (eCB fList (aCons (eVar 1) aNil)))
    (sSeq (sSet 6 (eCall 2 f__law_draw (aCons (eVar 0) (aCons (eVar 2) aNil))))
    (sSeq (sSub (eVar 5) (eVar 6) (eIf (tBl (eBin oEq (eVar 3) (eC (.int 2)))) (eBin oAdd (eBin oIx (eVar 5) (eVar 6)) (eC (.int 1))) (eC (.int 0))))
    (sSeq (sIf (tBl (eBin oEq (eCS gSum (sEx (eVar 5))) (eC (.int 0)))) (sSub (eVar 5) (eVar 6) (eC (.int 1))) sNil)
    (sRet (eCB fTuple (aCons (eVar 5) aNil))))))))))))
theorem ok__law_other_row {P : Program} {w : World} {K : PySem.W.Frag} {mg : PySem.Str → Option Value} {base : Heap} {f : Addr} {fd : FuncData} {f__law_draw f__law_shuffled f__law_row : FM} (F : FnP K "_law_other_row" s__law_other_row f fd) (gx : mg "_law_other_row" = some (.ref f)) (c__law_draw : Cal P w K mg base "_law_draw" 1 ["d", "many"] f__law_draw) (c__law_shuffled : Cal P w K mg base "_law_shuffled" 2 ["d", "row"] f__law_shuffled) (c__law_row : Cal P w K mg base "_law_row" 2 ["d", "many", "most", "zeros"] f__law_row) (z_len : mg "len" = none) (z_max : mg "max" = none) (z_list : mg "list" = none) (z_tuple : mg "tuple" = none) (z_sum : mg "sum" = none) :
    Cal P w K mg base "_law_other_row" 3 ["d", "row"] (runB 8 (m__law_other_row f__law_draw f__law_shuffled f__law_row)) :=
  cal_mk (k := 2) F sc__law_other_row gx (fun _ _ _ _ _ _ us hl => match us, hl with | [_, _], _ => rfl) fun cdv A outer s H E hr tk hp =>
    (sx_cons (sx_set sc__law_other_row.nd (ex_callB c_len (by rfl) z_len bt_len (ea_cons (xv 1) ea_nil)))
    (sx_cons (sx_set sc__law_other_row.nd (ex_c1 c__law_draw tk hr (by decide) (ea_cons (xv 0) (ea_cons ex_int ea_nil))))
    (sx_cons (sx_if (Ew.et (ew_or (et_cmp m_gt (ex_callBs (sv_max (by rfl)) (by rfl) z_max bt_max (es_ex (xv 1))) ex_int (nomark _)) (ew_or1 (et_cmp (m_eq hr.units) (xv 3) ex_int (nomark _))))) (sx_one (sx_ret (ex_if (et_cmp (m_eq hr.units) (ex_c1 c__law_draw tk hr (by decide) (ea_cons (xv 0) (ea_cons ex_int ea_nil))) ex_int (nomark _)) (ex_callT c_tuple (by rfl) z_tuple bt_tuple (ea_cons (ex_c1 c__law_shuffled tk hr (by decide) (ea_cons (xv 0) (ea_cons (ex_callT c_list (by rfl) z_list bt_list (ea_cons (xv 1) ea_nil)) ea_nil))) ea_nil)) (ex_c1 c__law_row tk hr (by decide) (ea_cons (xv 0) (ea_cons (xv 2) (ea_cons ex_int (ea_cons ex_bl ea_nil)))))))) sx_nil)
    (sx_cons (sx_if (et_cmp (m_eq hr.units) (xv 3) ex_int (nomark _)) (sx_cons (sx_set sc__law_other_row.nd (ex_op m_add ex_int (ex_c1 c__law_draw tk hr (by decide) (ea_cons (xv 0) (ea_cons ex_int ea_nil)))))
    (sx_one (sx_ret (ex_callTs s_tuple (by rfl) z_tuple bt_tuple (es_el (el_comp (own := [(("weight" : PySem.Str), 7)]) (by rfl) sc__law_other_row.nd (ei_ex (xv 1)) (blkOk_by (N := N__law_other_row) (sc := (defScope s__law_other_row)) (by decide +kernel)) (fun _ _ _ _ _ => (eg_name sc__law_other_row.nd)) (fun _ _ _ _ _ => ets_nil) (fun _ _ _ _ _ => (ex_op m_mul (xv 7) (xv 4))))))))) sx_nil)
    (sx_cons (sx_if (et_cmp m_gt (xv 3) ex_int (nomark _)) (sx_one (sx_ret (ex_c1 c__law_row tk hr (by decide) (ea_cons (xv 0) (ea_cons (xv 2) (ea_cons ex_int (ea_cons (ex_cmp (m_eq hr.units) (xv 3) ex_int (nomark _)) ea_nil))))))) sx_nil)
    (sx_cons (sx_set sc__law_other_row.nd (ex_callT c_list (by rfl) z_list bt_list (ea_cons (xv 1) ea_nil)))
    (sx_cons (sx_set sc__law_other_row.nd (ex_c1 c__law_draw tk hr (by decide) (ea_cons (xv 0) (ea_cons (xv 2) ea_nil))))
    (sx_cons (sx_sub (ex_if (et_cmp (m_eq hr.units) (xv 3) ex_int (nomark _)) (ex_op m_add (ex_ix m_ix (xv 5) (xv 6)) ex_int) ex_int) (xv 5) (xv 6))
    (sx_cons (sx_if (et_cmp (m_eq hr.units) (ex_callBs (s_sum (by rfl)) (by rfl) z_sum bt_sum (es_ex (xv 5))) ex_int (nomark _)) (sx_one (sx_sub ex_int (xv 5) (xv 6))) sx_nil)
    (sx_one (sx_ret (ex_callT c_tuple (by rfl) z_tuple bt_tuple (ea_cons (xv 5) ea_nil)))))))))))))
def N__law_sets : List PySem.Str := ["d", "many", "found", "k", "mask", "a"]
theorem sc__law_sets : FnScope N__law_sets ["d", "many"] (defScope s__law_sets) := ⟨rfl, rfl, rfl, by decide +kernel, rfl, by decide +kernel, by decide +kernel⟩
def m__law_sets (f__law_draw : FM) : SM := (sSeq (sSet 2 (eEl (lComp [5] (iRg1 (eVar 1)) (gN 5) tYes (eLst (aCons (eVar 5) aNil)))))
    (sSeq (sIf (tBl (eBin oGt (eVar 1) (eC (.int 6)))) (sSeq (sFor (iRg1 (eC (.int 6))) (gN 3) (sExpr (eM "list" mAppend (eVar 2) (aCons (eEl (lComp [5] (iRg1 (eVar 1)) (gN 5) (tBl (eBin oEq (eCall 2 f__law_draw (aCons (eVar 0) (aCons (eC (.int 2)) aNil))) (eC (.int 1)))) (eVar 5))) aNil))))
    (sRet (eVar 2))) sNil)
    (sSeq (sFor (iRg1 (eBin oShl (eC (.int 1)) (eVar 1))) (gN 4) (sExpr (eM "list" mAppend (eVar 2) (aCons (eEl (lComp [5] (iRg1 (eVar 1)) (gN 5) (tBl (eBin oEq (eBin oAnd (eBin oShr (eVar 4) (eVar 5)) (eC (.int 1))) (eC (.int 1)))) (eVar 5))) aNil))))
    (sRet (eVar 2)))))
theorem ok__law_sets {P : Program} {w : World} {K : PySem.W.Frag} {mg : PySem.Str → Option Value} {base : Heap} {f : Addr} {fd : FuncData} {f__law_draw : FM} (F : FnP K "_law_sets" s__law_sets f fd) (gx : mg "_law_sets" = some (.ref f)) (c__law_draw : Cal P w K mg base "_law_draw" 1 ["d", "many"] f__law_draw) (z_range : mg "range" = none) :
    Cal P w K mg base "_law_sets" 2 ["d", "many"] (runB 6 (m__law_sets f__law_draw)) :=
  cal_mk (k := 1) F sc__law_sets gx (fun _ _ _ _ _ _ us hl => match us, hl with | [_, _], _ => rfl) fun cdv A outer s H E hr tk hp =>
    (sx_cons (sx_setLc (own := [(("a" : PySem.Str), 5)]) (by rfl) sc__law_sets.nd (ei_range1 (by rfl) z_range (xv 1)) (blkOk_by (N := N__law_sets) (sc := (defScope s__law_sets)) (by decide +kernel)) (fun _ _ _ _ _ => (eg_name sc__law_sets.nd)) (fun _ _ _ _ _ => ets_nil) (fun _ _ _ _ _ => (ex_lst (ea_cons (xv 5) ea_nil))))
    (sx_cons (sx_if (et_cmp m_gt (xv 1) ex_int (nomark _)) (sx_cons (sx_for hp (by rfl) (ei_range1 (by rfl) z_range ex_int) (eg_name sc__law_sets.nd) (sx_one (sx_expr (ex_m PySem.F.plainAttrs_list PySem.F.slot_list_append PySem.F.type_list_append me_append (xv 2) (ea_cons (ex_el (el_comp (own := [(("a" : PySem.Str), 5)]) (by rfl) sc__law_sets.nd (ei_range1 (by rfl) z_range (xv 1)) (blkOk_by (N := N__law_sets) (sc := (defScope s__law_sets)) (by decide +kernel)) (fun _ _ _ _ _ => (eg_name sc__law_sets.nd)) (fun _ _ _ _ _ => (ets_one (et_cmp (m_eq hr.units) (ex_c1 c__law_draw tk0 hr (by decide) (ea_cons (xv 0) (ea_cons ex_int ea_nil))) ex_int (nomark _)))) (fun _ _ _ _ _ => (xv 5)))) ea_nil)))))
    (sx_one (sx_ret (xv 2)))) sx_nil)
    (sx_cons (sx_for hp (by rfl) (ei_range1 (by rfl) z_range (ex_op m_shl ex_int (xv 1))) (eg_name sc__law_sets.nd) (sx_one (sx_expr (ex_m PySem.F.plainAttrs_list PySem.F.slot_list_append PySem.F.type_list_append me_append (xv 2) (ea_cons (ex_el (el_comp (own := [(("a" : PySem.Str), 5)]) (by rfl) sc__law_sets.nd (ei_range1 (by rfl) z_range (xv 1)) (blkOk_by (N := N__law_sets) (sc := (defScope s__law_sets)) (by decide +kernel)) (fun _ _ _ _ _ => (eg_name sc__law_sets.nd)) (fun _ _ _ _ _ => (ets_one (et_cmp (m_eq hr.units) (ex_op m_and (ex_op m_shr (xv 4) (xv 5)) ex_int) ex_int (nomark _)))) (fun _ _ _ _ _ => (xv 5)))) ea_nil)))))
    (sx_one (sx_ret (xv 2))))))
def N__law_are_equal : List PySem.Str := ["row", "other", "mine", "theirs"]
theorem sc__law_are_equal : FnScope N__law_are_equal ["row", "other"] (defScope s__law_are_equal) := ⟨rfl, rfl, rfl, by decide +kernel, rfl, by decide +kernel, by decide +kernel⟩
def m__law_are_equal : SM := (sRet (eCS gAllB (lComp [2, 3] (iZip (eVar 0) (eVar 1)) (gT 2 (gCs 2 (gCs 3 gNil0))) tYes (eBin oEq (eBin oMul (eVar 2) (eCS gSum (sEx (eVar 1)))) (eBin oMul (eVar 3) (eCS gSum (sEx (eVar 0))))))))
theorem ok__law_are_equal {P : Program} {w : World} {K : PySem.W.Frag} {mg : PySem.Str → Option Value} {base : Heap} {f : Addr} {fd : FuncData} (F : FnP K "_law_are_equal" s__law_are_equal f fd) (gx : mg "_law_are_equal" = some (.ref f)) (z_zip : mg "zip" = none) (z_sum : mg "sum" = none) (z_all : mg "all" = none) :
    Cal P w K mg base "_law_are_equal" 1 ["row", "other"] (runB 4 (m__law_are_equal)) :=
  cal_mk (k := 0) F sc__law_are_equal gx (fun _ _ _ _ _ _ us hl => match us, hl with | [_, _], _ => rfl) fun cdv A outer s H E hr tk hp =>
    (sx_one (sx_ret (ex_callBl (s_all (by rfl)) (by rfl) z_all bt_all (esl_el (el_comp (own := [(("mine" : PySem.Str), 2), (("theirs" : PySem.Str), 3)]) (by rfl) sc__law_are_equal.nd (ei_zip (by rfl) z_zip (xv 0) (xv 1)) (blkOk_by (N := N__law_are_equal) (sc := (defScope s__law_are_equal)) (by decide +kernel)) (fun _ _ _ _ _ => (eg_tup (by rfl) (egs_cons sc__law_are_equal.nd (egs_cons sc__law_are_equal.nd egs_nil)))) (fun _ _ _ _ _ => ets_nil) (fun _ _ _ _ _ => (ex_cmp (m_eq hr.units) (ex_op m_mul (xv 2) (ex_callBs (s_sum (by rfl)) (by rfl) z_sum bt_sum (es_ex (xv 1)))) (ex_op m_mul (xv 3) (ex_callBs (s_sum (by rfl)) (by rfl) z_sum bt_sum (es_ex (xv 0)))) (nomark _))))))))
def N__law_are_sets_kept : List PySem.Str := ["d", "row", "other", "loss", "whole", "wholes", "reached", "chosen", "left", "right", "a"]
theorem sc__law_are_sets_kept : FnScope N__law_are_sets_kept ["d", "row", "other", "loss"] (defScope s__law_are_sets_kept) := ⟨rfl, rfl, rfl, by decide +kernel, rfl, by decide +kernel, by decide +kernel⟩
def m__law_are_sets_kept (f__law_sets : FM) : SM := (sSeq (sSet 4 (eCS gSum (sEx (eVar 1))))
    (sSeq (sSet 5 (eCS gSum (sEx (eVar 2))))
    (sSeq (sSet 6 (eC (.bl false)))
    (sSeq (sFor (iEx (eCall 2 f__law_sets (aCons (eVar 0) (aCons (eCB fLen (aCons (eVar 1) aNil)) aNil)))) (gN 7) (sSeq (sSet 8 (eBin oMul (eCS gSum (lComp [10] (iEx (eVar 7)) (gN 10) tYes (eBin oIx (eVar 1) (eVar 10)))) (eVar 5)))
    (sSeq (sSet 9 (eBin oMul (eCS gSum (lComp [10] (iEx (eVar 7)) (gN 10) tYes (eBin oIx (eVar 2) (eVar 10)))) (eVar 4)))
    (sIf (tBl (eBin oIs (eVar 3) (eC .non))) (sSet 6 (eOr (eVar 6) (eAnd (eBin oGt (eVar 8) (eC (.int 0))) (eBin oEq (eVar 9) (eC (.int 0)))))) (sIf (tBl (eBin oGt (eBin oMul (eVar 8) (eBin oIx (eVar 3) (eC (.int 1)))) (eBin oMul (eBin oIx (eVar 3) (eC (.int 0))) (eVar 9)))) (sRet (eC (.bl false))) (sSet 6 (eOr (eVar 6) (eAnd (eBin oGt (eVar 8) (eC (.int 0))) (eBin oEq (eBin oMul (eVar 8) (eBin oIx (eVar 3) (eC (.int 1)))) (eBin oMul (eBin oIx (eVar 3) (eC (.int 0))) (eVar 9)))))))))))
    (sRet (eVar 6))))))
theorem ok__law_are_sets_kept {P : Program} {w : World} {K : PySem.W.Frag} {mg : PySem.Str → Option Value} {base : Heap} {f : Addr} {fd : FuncData} {f__law_sets : FM} (F : FnP K "_law_are_sets_kept" s__law_are_sets_kept f fd) (gx : mg "_law_are_sets_kept" = some (.ref f)) (c__law_sets : Cal P w K mg base "_law_sets" 2 ["d", "many"] f__law_sets) (z_sum : mg "sum" = none) (z_len : mg "len" = none) :
    Cal P w K mg base "_law_are_sets_kept" 3 ["d", "row", "other", "loss"] (runB 11 (m__law_are_sets_kept f__law_sets)) :=
  cal_mk (k := 2) F sc__law_are_sets_kept gx (fun _ _ _ _ _ _ us hl => match us, hl with | [_, _, _, _], _ => rfl) fun cdv A outer s H E hr tk hp =>
    (sx_cons (sx_set sc__law_are_sets_kept.nd (ex_callBs (s_sum (by rfl)) (by rfl) z_sum bt_sum (es_ex (xv 1))))
    (sx_cons (sx_set sc__law_are_sets_kept.nd (ex_callBs (s_sum (by rfl)) (by rfl) z_sum bt_sum (es_ex (xv 2))))
    (sx_cons (sx_set sc__law_are_sets_kept.nd ex_bl)
    (sx_cons (sx_for hp (by rfl) (ei_ex (ex_c1 c__law_sets tk hr (by decide) (ea_cons (xv 0) (ea_cons (ex_callB c_len (by rfl) z_len bt_len (ea_cons (xv 1) ea_nil)) ea_nil)))) (eg_name sc__law_are_sets_kept.nd) (sx_cons (sx_set sc__law_are_sets_kept.nd (ex_op m_mul (ex_callBs (s_sum (by rfl)) (by rfl) z_sum bt_sum (es_el (el_comp (own := [(("a" : PySem.Str), 10)]) (by rfl) sc__law_are_sets_kept.nd (ei_ex (xv 7)) (blkOk_by (N := N__law_are_sets_kept) (sc := (defScope s__law_are_sets_kept)) (by decide +kernel)) (fun _ _ _ _ _ => (eg_name sc__law_are_sets_kept.nd)) (fun _ _ _ _ _ => ets_nil) (fun _ _ _ _ _ => (ex_ix m_ix (xv 1) (xv 10)))))) (xv 5)))
    (sx_cons (sx_set sc__law_are_sets_kept.nd (ex_op m_mul (ex_callBs (s_sum (by rfl)) (by rfl) z_sum bt_sum (es_el (el_comp (own := [(("a" : PySem.Str), 10)]) (by rfl) sc__law_are_sets_kept.nd (ei_ex (xv 7)) (blkOk_by (N := N__law_are_sets_kept) (sc := (defScope s__law_are_sets_kept)) (by decide +kernel)) (fun _ _ _ _ _ => (eg_name sc__law_are_sets_kept.nd)) (fun _ _ _ _ _ => ets_nil) (fun _ _ _ _ _ => (ex_ix m_ix (xv 2) (xv 10)))))) (xv 4)))
    (sx_one (sx_if (et_cmp m_is (xv 3) ex_non (nomark _)) (sx_one (sx_set sc__law_are_sets_kept.nd (ex_or (xv 6) (ex_one (ex_and (ex_cmp m_gt (xv 8) ex_int (nomark _)) (ex_one (ex_cmp (m_eq hr.units) (xv 9) ex_int (nomark _)))))))) (sx_one (sx_if (et_cmp m_gt (ex_op m_mul (xv 8) (ex_ix m_ix (xv 3) ex_int)) (ex_op m_mul (ex_ix m_ix (xv 3) ex_int) (xv 9)) (nomark _)) (sx_one (sx_ret ex_bl)) (sx_one (sx_set sc__law_are_sets_kept.nd (ex_or (xv 6) (ex_one (ex_and (ex_cmp m_gt (xv 8) ex_int (nomark _)) (ex_one (ex_cmp (m_eq hr.units) (ex_op m_mul (xv 8) (ex_ix m_ix (xv 3) ex_int)) (ex_op m_mul (ex_ix m_ix (xv 3) ex_int) (xv 9)) (nomark _)))))))))))))))
    (sx_one (sx_ret (xv 6)))))))
def N__law_is_pair_right : List PySem.Str := ["d", "row", "other", "loss"]
theorem sc__law_is_pair_right : FnScope N__law_is_pair_right ["d", "row", "other"] (defScope s__law_is_pair_right) := ⟨rfl, rfl, rfl, by decide +kernel, rfl, by decide +kernel, by decide +kernel⟩
def m__law_is_pair_right (f_row_loss : FM) (f__law_is_loss : FM) (f__law_row_loss : FM) (f__law_are_equal : FM) (f__law_are_sets_kept : FM) : SM := (sSeq (sSet 3 (eCall 2 f_row_loss (aCons (eVar 1) (aCons (eVar 2) aNil))))
    (sSeq (sIf (HM.tNot (tVal (eCall 2 f__law_is_loss (aCons (eVar 3) (aCons (eCall 2 f__law_row_loss (aCons (eVar 1) (aCons (eVar 2) aNil))) aNil))))) (sRet (eC (.bl false))) sNil)
    (sSeq (sIf (HM.tNot (tVal (eCall 2 f__law_is_loss (aCons (eCall 2 f_row_loss (aCons (eVar 2) (aCons (eVar 1) aNil))) (aCons (eCall 2 f__law_row_loss (aCons (eVar 2) (aCons (eVar 1) aNil))) aNil))))) (sRet (eC (.bl false))) sNil)
    (sSeq (sIf (tBl (eBin oNe (eBin oEq (eVar 3) (eTup (aCons (eC (.int 1)) (aCons (eC (.int 1)) aNil)))) (eCall 2 f__law_are_equal (aCons (eVar 1) (aCons (eVar 2) aNil))))) (sRet (eC (.bl false))) sNil)
    (sRet (eCall 4 f__law_are_sets_kept (aCons (eVar 0) (aCons (eVar 1) (aCons (eVar 2) (aCons (eVar 3) aNil))))))))))
theorem ok__law_is_pair_right {P : Program} {w : World} {K : PySem.W.Frag} {mg : PySem.Str → Option Value} {base : Heap} {f : Addr} {fd : FuncData} {f_row_loss f__law_is_loss f__law_row_loss f__law_are_equal f__law_are_sets_kept : FM} (F : FnP K "_law_is_pair_right" s__law_is_pair_right f fd) (gx : mg "_law_is_pair_right" = some (.ref f)) (c_row_loss : Cal P w K mg base "row_loss" 4 ["row", "other"] f_row_loss) (c__law_is_loss : Cal P w K mg base "_law_is_loss" 4 ["found", "due"] f__law_is_loss) (c__law_row_loss : Cal P w K mg base "_law_row_loss" 4 ["row", "other"] f__law_row_loss) (c__law_are_equal : Cal P w K mg base "_law_are_equal" 1 ["row", "other"] f__law_are_equal) (c__law_are_sets_kept : Cal P w K mg base "_law_are_sets_kept" 3 ["d", "row", "other", "loss"] f__law_are_sets_kept) :
    Cal P w K mg base "_law_is_pair_right" 5 ["d", "row", "other"] (runB 4 (m__law_is_pair_right f_row_loss f__law_is_loss f__law_row_loss f__law_are_equal f__law_are_sets_kept)) :=
  cal_mk (k := 4) F sc__law_is_pair_right gx (fun _ _ _ _ _ _ us hl => match us, hl with | [_, _, _], _ => rfl) fun cdv A outer s H E hr tk hp =>
    (sx_cons (sx_set sc__law_is_pair_right.nd (ex_c1 c_row_loss tk hr (by decide) (ea_cons (xv 1) (ea_cons (xv 2) ea_nil))))
    (sx_cons (sx_if (et_not (et_val (ex_c1 c__law_is_loss tk hr (by decide) (ea_cons (xv 3) (ea_cons (ex_c1 c__law_row_loss tk hr (by decide) (ea_cons (xv 1) (ea_cons (xv 2) ea_nil))) ea_nil))))) (sx_one (sx_ret ex_bl)) sx_nil)
    (sx_cons (sx_if (et_not (et_val (ex_c1 c__law_is_loss tk hr (by decide) (ea_cons (ex_c1 c_row_loss tk hr (by decide) (ea_cons (xv 2) (ea_cons (xv 1) ea_nil))) (ea_cons (ex_c1 c__law_row_loss tk hr (by decide) (ea_cons (xv 2) (ea_cons (xv 1) ea_nil))) ea_nil))))) (sx_one (sx_ret ex_bl)) sx_nil)
    (sx_cons (sx_if (et_cmp (m_ne hr.units) (ex_cmp (m_eq hr.units) (xv 3) (ex_tup (ea_cons ex_int (ea_cons ex_int ea_nil))) (nomark _)) (ex_c1 c__law_are_equal tk hr (by decide) (ea_cons (xv 1) (ea_cons (xv 2) ea_nil))) (nomark _)) (sx_one (sx_ret ex_bl)) sx_nil)
    (sx_one (sx_ret (ex_c1 c__law_are_sets_kept tk hr (by decide) (ea_cons (xv 0) (ea_cons (xv 1) (ea_cons (xv 2) (ea_cons (xv 3) ea_nil)))))))))))
def N__law_is_three_right : List PySem.Str := ["row", "other", "third", "losses", "left", "right"]
theorem sc__law_is_three_right : FnScope N__law_is_three_right ["row", "other", "third"] (defScope s__law_is_three_right) := ⟨rfl, rfl, rfl, by decide +kernel, rfl, by decide +kernel, by decide +kernel⟩
def m__law_is_three_right (f_row_loss : FM) (f__law_is_loss : FM) (f__law_row_loss : FM) (f__law_less : FM) (f__law_times : FM) : SM := (sSeq (sSet 3 (eLst aNil))
    (sSeq (sFor (iEx (eLst (aCons (eTup (aCons (eVar 0) (aCons (eVar 1) aNil))) (aCons (eTup (aCons (eVar 1) (aCons (eVar 2) aNil))) (aCons (eTup (aCons (eVar 0) (aCons (eVar 2) aNil))) aNil))))) (gT 2 (gCs 4 (gCs 5 gNil0))) (sSeq (sExpr (eM "list" mAppend (eVar 3) (aCons (eCall 2 f_row_loss (aCons (eVar 4) (aCons (eVar 5) aNil))) aNil)))
    (sIf (HM.tNot (tVal (eCall 2 f__law_is_loss (aCons (eBin oIx (eVar 3) (eUn oNeg (eC (.int 1)))) (aCons (eCall 2 f__law_row_loss (aCons (eVar 4) (aCons (eVar 5) aNil))) aNil))))) (sRet (eC (.bl false))) sNil)))
    (sSeq (sIf (tOr (tBl (eBin oIs (eBin oIx (eVar 3) (eC (.int 0))) (eC .non))) (tBl (eBin oIs (eBin oIx (eVar 3) (eC (.int 1))) (eC .non)))) (sRet (eC (.bl true))) sNil)
    (sRet (eAnd (eBin oIsNot (eBin oIx (eVar 3) (eC (.int 2))) (eC .non)) (eNot (eCall 2 f__law_less (aCons (eCall 2 f__law_times (aCons (eBin oIx (eVar 3) (eC (.int 0))) (aCons (eBin oIx (eVar 3) (eC (.int 1))) aNil))) (aCons (eBin oIx (eVar 3) (eC (.int 2))) aNil)))))))))
theorem ok__law_is_three_right {P : Program} {w : World} {K : PySem.W.Frag} {mg : PySem.Str → Option Value} {base : Heap} {f : Addr} {fd : FuncData} {f_row_loss f__law_is_loss f__law_row_loss f__law_less f__law_times : FM} (F : FnP K "_law_is_three_right" s__law_is_three_right f fd) (gx : mg "_law_is_three_right" = some (.ref f)) (c_row_loss : Cal P w K mg base "row_loss" 4 ["row", "other"] f_row_loss) (c__law_is_loss : Cal P w K mg base "_law_is_loss" 4 ["found", "due"] f__law_is_loss) (c__law_row_loss : Cal P w K mg base "_law_row_loss" 4 ["row", "other"] f__law_row_loss) (c__law_less : Cal P w K mg base "_law_less" 1 ["x", "y"] f__law_less) (c__law_times : Cal P w K mg base "_law_times" 3 ["x", "y"] f__law_times) :
    Cal P w K mg base "_law_is_three_right" 5 ["row", "other", "third"] (runB 6 (m__law_is_three_right f_row_loss f__law_is_loss f__law_row_loss f__law_less f__law_times)) :=
  cal_mk (k := 4) F sc__law_is_three_right gx (fun _ _ _ _ _ _ us hl => match us, hl with | [_, _, _], _ => rfl) fun cdv A outer s H E hr tk hp =>
    (sx_cons (sx_set sc__law_is_three_right.nd (ex_lst ea_nil))
    (sx_cons (sx_for hp (by rfl) (ei_ex (ex_lst (ea_cons (ex_tup (ea_cons (xv 0) (ea_cons (xv 1) ea_nil))) (ea_cons (ex_tup (ea_cons (xv 1) (ea_cons (xv 2) ea_nil))) (ea_cons (ex_tup (ea_cons (xv 0) (ea_cons (xv 2) ea_nil))) ea_nil))))) (eg_tup (by rfl) (egs_cons sc__law_is_three_right.nd (egs_cons sc__law_is_three_right.nd egs_nil))) (sx_cons (sx_expr (ex_m PySem.F.plainAttrs_list PySem.F.slot_list_append PySem.F.type_list_append me_append (xv 3) (ea_cons (ex_c1 c_row_loss tk hr (by decide) (ea_cons (xv 4) (ea_cons (xv 5) ea_nil))) ea_nil)))
    (sx_one (sx_if (et_not (et_val (ex_c1 c__law_is_loss tk hr (by decide) (ea_cons (ex_ix m_ix (xv 3) (ex_un m_neg ex_int)) (ea_cons (ex_c1 c__law_row_loss tk hr (by decide) (ea_cons (xv 4) (ea_cons (xv 5) ea_nil))) ea_nil))))) (sx_one (sx_ret ex_bl)) sx_nil))))
    (sx_cons (sx_if (Ew.et (ew_or (et_cmp m_is (ex_ix m_ix (xv 3) ex_int) ex_non (nomark _)) (ew_or1 (et_cmp m_is (ex_ix m_ix (xv 3) ex_int) ex_non (nomark _))))) (sx_one (sx_ret ex_bl)) sx_nil)
    (sx_one (sx_ret (ex_and (ex_cmp m_isnot (ex_ix m_ix (xv 3) ex_int) ex_non (nomark _)) (ex_one (ex_not (ex_c1 c__law_less tk hr (by decide) (ea_cons (ex_c1 c__law_times tk hr (by decide) (ea_cons (ex_ix m_ix (xv 3) ex_int) (ea_cons (ex_ix m_ix (xv 3) ex_int) ea_nil))) (ea_cons (ex_ix m_ix (xv 3) ex_int) ea_nil)))))))))))
def N__law_multiplied : List PySem.Str := ["row", "factor", "weight"]
theorem sc__law_multiplied : FnScope N__law_multiplied ["row", "factor"] (defScope s__law_multiplied) := ⟨rfl, rfl, rfl, by decide +kernel, rfl, by decide +kernel, by decide +kernel⟩
def m__law_multiplied : SM := (sRet (eCS gTuple (lComp [2] (iEx (eVar 0)) (gN 2) tYes (eBin oMul (eVar 2) (eVar 1)))))
theorem ok__law_multiplied {P : Program} {w : World} {K : PySem.W.Frag} {mg : PySem.Str → Option Value} {base : Heap} {f : Addr} {fd : FuncData} (F : FnP K "_law_multiplied" s__law_multiplied f fd) (gx : mg "_law_multiplied" = some (.ref f)) (z_tuple : mg "tuple" = none) :
    Cal P w K mg base "_law_multiplied" 1 ["row", "factor"] (runB 3 (m__law_multiplied)) :=
  cal_mk (k := 0) F sc__law_multiplied gx (fun _ _ _ _ _ _ us hl => match us, hl with | [_, _], _ => rfl) fun cdv A outer s H E hr tk hp =>
    (sx_one (sx_ret (ex_callTs s_tuple (by rfl) z_tuple bt_tuple (es_el (el_comp (own := [(("weight" : PySem.Str), 2)]) (by rfl) sc__law_multiplied.nd (ei_ex (xv 0)) (blkOk_by (N := N__law_multiplied) (sc := (defScope s__law_multiplied)) (by decide +kernel)) (fun _ _ _ _ _ => (eg_name sc__law_multiplied.nd)) (fun _ _ _ _ _ => ets_nil) (fun _ _ _ _ _ => (ex_op m_mul (xv 2) (xv 1))))))))
def N__law_product : List PySem.Str := ["row", "other", "found", "mine", "theirs"]
theorem sc__law_product : FnScope N__law_product ["row", "other"] (defScope s__law_product) := ⟨rfl, rfl, rfl, by decide +kernel, rfl, by decide +kernel, by decide +kernel⟩
def m__law_product : SM := (sSeq (sSet 2 (eLst aNil))
    (sSeq (sFor (iEx (eVar 0)) (gN 3) (sExpr (eM "list" mExtend (eVar 2) (aCons (eEl (lComp [4] (iEx (eVar 1)) (gN 4) tYes (eBin oMul (eVar 3) (eVar 4)))) aNil))))
    (sRet (eCB fTuple (aCons (eVar 2) aNil)))))
theorem ok__law_product {P : Program} {w : World} {K : PySem.W.Frag} {mg : PySem.Str → Option Value} {base : Heap} {f : Addr} {fd : FuncData} (F : FnP K "_law_product" s__law_product f fd) (gx : mg "_law_product" = some (.ref f)) (z_tuple : mg "tuple" = none) :
    Cal P w K mg base "_law_product" 1 ["row", "other"] (runB 5 (m__law_product)) :=
  cal_mk (k := 0) F sc__law_product gx (fun _ _ _ _ _ _ us hl => match us, hl with | [_, _], _ => rfl) fun cdv A outer s H E hr tk hp =>
    (sx_cons (sx_set sc__law_product.nd (ex_lst ea_nil))
    (sx_cons (sx_for hp (by rfl) (ei_ex (xv 0)) (eg_name sc__law_product.nd) (sx_one (sx_expr (ex_m PySem.F.plainAttrs_list PySem.F.slot_list_extend PySem.F.type_list_extend me_extend (xv 2) (ea_cons (ex_el (el_comp (own := [(("theirs" : PySem.Str), 4)]) (by rfl) sc__law_product.nd (ei_ex (xv 1)) (blkOk_by (N := N__law_product) (sc := (defScope s__law_product)) (by decide +kernel)) (fun _ _ _ _ _ => (eg_name sc__law_product.nd)) (fun _ _ _ _ _ => ets_nil) (fun _ _ _ _ _ => (ex_op m_mul (xv 3) (xv 4))))) ea_nil)))))
    (sx_one (sx_ret (ex_callT c_tuple (by rfl) z_tuple bt_tuple (ea_cons (xv 2) ea_nil))))))
def N__law_is_product_right : List PySem.Str := ["row", "other", "left", "right", "found", "first", "second"]
theorem sc__law_is_product_right : FnScope N__law_is_product_right ["row", "other", "left", "right"] (defScope s__law_is_product_right) := ⟨rfl, rfl, rfl, by decide +kernel, rfl, by decide +kernel, by decide +kernel⟩
def m__law_is_product_right (f_row_loss : FM) (f__law_product : FM) (f__law_is_loss : FM) (f__law_row_loss : FM) (f__law_times : FM) : SM := (sSeq (sSet 4 (eCall 2 f_row_loss (aCons (eCall 2 f__law_product (aCons (eVar 0) (aCons (eVar 2) aNil))) (aCons (eCall 2 f__law_product (aCons (eVar 1) (aCons (eVar 3) aNil))) aNil))))
    (sSeq (sSet 5 (eCall 2 f_row_loss (aCons (eVar 0) (aCons (eVar 1) aNil))))
    (sSeq (sSet 6 (eCall 2 f_row_loss (aCons (eVar 2) (aCons (eVar 3) aNil))))
    (sSeq (sIf (tOr (HM.tNot (tVal (eCall 2 f__law_is_loss (aCons (eVar 5) (aCons (eCall 2 f__law_row_loss (aCons (eVar 0) (aCons (eVar 1) aNil))) aNil))))) (HM.tNot (tVal (eCall 2 f__law_is_loss (aCons (eVar 6) (aCons (eCall 2 f__law_row_loss (aCons (eVar 2) (aCons (eVar 3) aNil))) aNil)))))) (sRet (eC (.bl false))) sNil)
    (sSeq (sIf (tOr (tBl (eBin oIs (eVar 5) (eC .non))) (tBl (eBin oIs (eVar 6) (eC .non)))) (sRet (eBin oIs (eVar 4) (eC .non))) sNil)
    (sRet (eCall 2 f__law_is_loss (aCons (eVar 4) (aCons (eCall 2 f__law_times (aCons (eVar 5) (aCons (eVar 6) aNil))) aNil)))))))))
theorem ok__law_is_product_right {P : Program} {w : World} {K : PySem.W.Frag} {mg : PySem.Str → Option Value} {base : Heap} {f : Addr} {fd : FuncData} {f_row_loss f__law_product f__law_is_loss f__law_row_loss f__law_times : FM} (F : FnP K "_law_is_product_right" s__law_is_product_right f fd) (gx : mg "_law_is_product_right" = some (.ref f)) (c_row_loss : Cal P w K mg base "row_loss" 4 ["row", "other"] f_row_loss) (c__law_product : Cal P w K mg base "_law_product" 1 ["row", "other"] f__law_product) (c__law_is_loss : Cal P w K mg base "_law_is_loss" 4 ["found", "due"] f__law_is_loss) (c__law_row_loss : Cal P w K mg base "_law_row_loss" 4 ["row", "other"] f__law_row_loss) (c__law_times : Cal P w K mg base "_law_times" 3 ["x", "y"] f__law_times) :
    Cal P w K mg base "_law_is_product_right" 5 ["row", "other", "left", "right"] (runB 7 (m__law_is_product_right f_row_loss f__law_product f__law_is_loss f__law_row_loss f__law_times)) :=
  cal_mk (k := 4) F sc__law_is_product_right gx (fun _ _ _ _ _ _ us hl => match us, hl with | [_, _, _, _], _ => rfl) fun cdv A outer s H E hr tk hp =>
    (sx_cons (sx_set sc__law_is_product_right.nd (ex_c1 c_row_loss tk hr (by decide) (ea_cons (ex_c1 c__law_product tk hr (by decide) (ea_cons (xv 0) (ea_cons (xv 2) ea_nil))) (ea_cons (ex_c1 c__law_product tk hr (by decide) (ea_cons (xv 1) (ea_cons (xv 3) ea_nil))) ea_nil))))
    (sx_cons (sx_set sc__law_is_product_right.nd (ex_c1 c_row_loss tk hr (by decide) (ea_cons (xv 0) (ea_cons (xv 1) ea_nil))))
    (sx_cons (sx_set sc__law_is_product_right.nd (ex_c1 c_row_loss tk hr (by decide) (ea_cons (xv 2) (ea_cons (xv 3) ea_nil))))
    (sx_cons (sx_if (Ew.et (ew_or (et_not (et_val (ex_c1 c__law_is_loss tk hr (by decide) (ea_cons (xv 5) (ea_cons (ex_c1 c__law_row_loss tk hr (by decide) (ea_cons (xv 0) (ea_cons (xv 1) ea_nil))) ea_nil))))) (ew_or1 (et_not (et_val (ex_c1 c__law_is_loss tk hr (by decide) (ea_cons (xv 6) (ea_cons (ex_c1 c__law_row_loss tk hr (by decide) (ea_cons (xv 2) (ea_cons (xv 3) ea_nil))) ea_nil)))))))) (sx_one (sx_ret ex_bl)) sx_nil)
    (sx_cons (sx_if (Ew.et (ew_or (et_cmp m_is (xv 5) ex_non (nomark _)) (ew_or1 (et_cmp m_is (xv 6) ex_non (nomark _))))) (sx_one (sx_ret (ex_cmp m_is (xv 4) ex_non (nomark _)))) sx_nil)
    (sx_one (sx_ret (ex_c1 c__law_is_loss tk hr (by decide) (ea_cons (xv 4) (ea_cons (ex_c1 c__law_times tk hr (by decide) (ea_cons (xv 5) (ea_cons (xv 6) ea_nil))) ea_nil))))))))))
def N__law_shares_of_six : List PySem.Str := ["d", "many", "parts", "found", "is_whole", "a", "line", "at", "k", "part"]
theorem sc__law_shares_of_six : FnScope N__law_shares_of_six ["d", "many", "parts"] (defScope s__law_shares_of_six) := ⟨rfl, rfl, rfl, by decide +kernel, rfl, by decide +kernel, by decide +kernel⟩
def m__law_shares_of_six (f__law_draw : FM) : SM := (sSeq (sSet 3 (eLst aNil))
    (sSeq (sSet 4 (eBin oEq (eCall 2 f__law_draw (aCons (eVar 0) (aCons (eC (.int 3)) aNil))) (eC (.int 1))))
    (sSeq (sFor (iRg1 (eVar 1)) (gN 5) (sSeq (sSet 6 (eEl (lComp [9] (iRg1 (eVar 2)) (gN 9) tYes (eC (.int 0)))))
    (sSeq (sSet 7 (eCall 2 f__law_draw (aCons (eVar 0) (aCons (eVar 2) aNil))))
    (sSeq (sFor (iRg1 (eC (.int 6))) (gN 8) (sSeq (sIf (HM.tNot (tVal (eVar 4))) (sSet 7 (eCall 2 f__law_draw (aCons (eVar 0) (aCons (eVar 2) aNil)))) sNil)
    (sAugS oIAdd (eVar 6) (eVar 7) (eC (.int 1)))))
    (sExpr (eM "list" mAppend (eVar 3) (aCons (eVar 6) aNil)))))))
    (sRet (eVar 3)))))
theorem ok__law_shares_of_six {P : Program} {w : World} {K : PySem.W.Frag} {mg : PySem.Str → Option Value} {base : Heap} {f : Addr} {fd : FuncData} {f__law_draw : FM} (F : FnP K "_law_shares_of_six" s__law_shares_of_six f fd) (gx : mg "_law_shares_of_six" = some (.ref f)) (c__law_draw : Cal P w K mg base "_law_draw" 1 ["d", "many"] f__law_draw) (z_range : mg "range" = none) :
    Cal P w K mg base "_law_shares_of_six" 2 ["d", "many", "parts"] (runB 10 (m__law_shares_of_six f__law_draw)) :=
  cal_mk (k := 1) F sc__law_shares_of_six gx (fun _ _ _ _ _ _ us hl => match us, hl with | [_, _, _], _ => rfl) fun cdv A outer s H E hr tk hp =>
    (sx_cons (sx_set sc__law_shares_of_six.nd (ex_lst ea_nil))
    (sx_cons (sx_set sc__law_shares_of_six.nd (ex_cmp (m_eq hr.units) (ex_c1 c__law_draw tk hr (by decide) (ea_cons (xv 0) (ea_cons ex_int ea_nil))) ex_int (nomark _)))
    (sx_cons (sx_for hp (by rfl) (ei_range1 (by rfl) z_range (xv 1)) (eg_name sc__law_shares_of_six.nd) (sx_cons (sx_setLc (own := [(("part" : PySem.Str), 9)]) (by rfl) sc__law_shares_of_six.nd (ei_range1 (by rfl) z_range (xv 2)) (blkOk_by (N := N__law_shares_of_six) (sc := (defScope s__law_shares_of_six)) (by decide +kernel)) (fun _ _ _ _ _ => (eg_name sc__law_shares_of_six.nd)) (fun _ _ _ _ _ => ets_nil) (fun _ _ _ _ _ => ex_int))
    (sx_cons (sx_set sc__law_shares_of_six.nd (ex_c1 c__law_draw tk hr (by decide) (ea_cons (xv 0) (ea_cons (xv 2) ea_nil))))
    (sx_cons (sx_for hp (by rfl) (ei_range1 (by rfl) z_range ex_int) (eg_name sc__law_shares_of_six.nd) (sx_cons (sx_if (et_not (et_val (xv 4))) (sx_one (sx_set sc__law_shares_of_six.nd (ex_c1 c__law_draw tk hr (by decide) (ea_cons (xv 0) (ea_cons (xv 2) ea_nil))))) sx_nil)
    (sx_one (sx_augS (xv 6) (xv 7) ex_int mi_add))))
    (sx_one (sx_expr (ex_m PySem.F.plainAttrs_list PySem.F.slot_list_append PySem.F.type_list_append me_append (xv 3) (ea_cons (xv 6) ea_nil))))))))
    (sx_one (sx_ret (xv 3))))))
def N__law_sent_on : List PySem.Str := ["row", "shares", "found", "part", "a"]
theorem sc__law_sent_on : FnScope N__law_sent_on ["row", "shares"] (defScope s__law_sent_on) := ⟨rfl, rfl, rfl, by decide +kernel, rfl, by decide +kernel, by decide +kernel⟩
def m__law_sent_on : SM := (sSeq (sSet 2 (eLst aNil))
    (sSeq (sFor (iRg1 (eCB fLen (aCons (eBin oIx (eVar 1) (eC (.int 0))) aNil))) (gN 3) (sExpr (eM "list" mAppend (eVar 2) (aCons (eCS gSum (lComp [4] (iRg1 (eCB fLen (aCons (eVar 0) aNil))) (gN 4) tYes (eBin oMul (eBin oIx (eVar 0) (eVar 4)) (eBin oIx (eBin oIx (eVar 1) (eVar 4)) (eVar 3))))) aNil))))
    (sRet (eCB fTuple (aCons (eVar 2) aNil)))))
theorem ok__law_sent_on {P : Program} {w : World} {K : PySem.W.Frag} {mg : PySem.Str → Option Value} {base : Heap} {f : Addr} {fd : FuncData} (F : FnP K "_law_sent_on" s__law_sent_on f fd) (gx : mg "_law_sent_on" = some (.ref f)) (z_range : mg "range" = none) (z_len : mg "len" = none) (z_sum : mg "sum" = none) (z_tuple : mg "tuple" = none) :
    Cal P w K mg base "_law_sent_on" 1 ["row", "shares"] (runB 5 (m__law_sent_on)) :=
  cal_mk (k := 0) F sc__law_sent_on gx (fun _ _ _ _ _ _ us hl => match us, hl with | [_, _], _ => rfl) fun cdv A outer s H E hr tk hp =>
    (sx_cons (sx_set sc__law_sent_on.nd (ex_lst ea_nil))
    (sx_cons (sx_for hp (by rfl) (ei_range1 (by rfl) z_range (ex_callB c_len (by rfl) z_len bt_len (ea_cons (ex_ix m_ix (xv 1) ex_int) ea_nil))) (eg_name sc__law_sent_on.nd) (sx_one (sx_expr (ex_m PySem.F.plainAttrs_list PySem.F.slot_list_append PySem.F.type_list_append me_append (xv 2) (ea_cons (ex_callBs (s_sum (by rfl)) (by rfl) z_sum bt_sum (es_el (el_comp (own := [(("a" : PySem.Str), 4)]) (by rfl) sc__law_sent_on.nd (ei_range1 (by rfl) z_range (ex_callB c_len (by rfl) z_len bt_len (ea_cons (xv 0) ea_nil))) (blkOk_by (N := N__law_sent_on) (sc := (defScope s__law_sent_on)) (by decide +kernel)) (fun _ _ _ _ _ => (eg_name sc__law_sent_on.nd)) (fun _ _ _ _ _ => ets_nil) (fun _ _ _ _ _ => (ex_op m_mul (ex_ix m_ix (xv 0) (xv 4)) (ex_ix m_ix (ex_ix m_ix (xv 1) (xv 4)) (xv 3))))))) ea_nil)))))
    (sx_one (sx_ret (ex_callT c_tuple (by rfl) z_tuple bt_tuple (ea_cons (xv 2) ea_nil))))))
def N__law_is_mill_right : List PySem.Str := ["row", "other", "shares", "left", "right", "found", "loss"]
theorem sc__law_is_mill_right : FnScope N__law_is_mill_right ["row", "other", "shares"] (defScope s__law_is_mill_right) := ⟨rfl, rfl, rfl, by decide +kernel, rfl, by decide +kernel, by decide +kernel⟩
def m__law_is_mill_right (f__law_sent_on : FM) (f_row_loss : FM) (f__law_is_loss : FM) (f__law_row_loss : FM) (f__law_less : FM) : SM := (sSeq (sSet 3 (eCall 2 f__law_sent_on (aCons (eVar 0) (aCons (eVar 2) aNil))))
    (sSeq (sSet 4 (eCall 2 f__law_sent_on (aCons (eVar 1) (aCons (eVar 2) aNil))))
    (sSeq (sSet 5 (eCall 2 f_row_loss (aCons (eVar 3) (aCons (eVar 4) aNil))))
    (sSeq (sSet 6 (eCall 2 f_row_loss (aCons (eVar 0) (aCons (eVar 1) aNil))))
    (sSeq (sIf (tOr (HM.tNot (tVal (eCall 2 f__law_is_loss (aCons (eVar 5) (aCons (eCall 2 f__law_row_loss (aCons (eVar 3) (aCons (eVar 4) aNil))) aNil))))) (HM.tNot (tVal (eCall 2 f__law_is_loss (aCons (eVar 6) (aCons (eCall 2 f__law_row_loss (aCons (eVar 0) (aCons (eVar 1) aNil))) aNil)))))) (sRet (eC (.bl false))) sNil)
    (sSeq (sIf (tBl (eBin oIs (eVar 6) (eC .non))) (sRet (eC (.bl true))) sNil)
    (sRet (eAnd (eBin oIsNot (eVar 5) (eC .non)) (eNot (eCall 2 f__law_less (aCons (eVar 6) (aCons (eVar 5) aNil))))))))))))
theorem ok__law_is_mill_right {P : Program} {w : World} {K : PySem.W.Frag} {mg : PySem.Str → Option Value} {base : Heap} {f : Addr} {fd : FuncData} {f__law_sent_on f_row_loss f__law_is_loss f__law_row_loss f__law_less : FM} (F : FnP K "_law_is_mill_right" s__law_is_mill_right f fd) (gx : mg "_law_is_mill_right" = some (.ref f)) (c__law_sent_on : Cal P w K mg base "_law_sent_on" 1 ["row", "shares"] f__law_sent_on) (c_row_loss : Cal P w K mg base "row_loss" 4 ["row", "other"] f_row_loss) (c__law_is_loss : Cal P w K mg base "_law_is_loss" 4 ["found", "due"] f__law_is_loss) (c__law_row_loss : Cal P w K mg base "_law_row_loss" 4 ["row", "other"] f__law_row_loss) (c__law_less : Cal P w K mg base "_law_less" 1 ["x", "y"] f__law_less) :
    Cal P w K mg base "_law_is_mill_right" 5 ["row", "other", "shares"] (runB 7 (m__law_is_mill_right f__law_sent_on f_row_loss f__law_is_loss f__law_row_loss f__law_less)) :=
  cal_mk (k := 4) F sc__law_is_mill_right gx (fun _ _ _ _ _ _ us hl => match us, hl with | [_, _, _], _ => rfl) fun cdv A outer s H E hr tk hp =>
    (sx_cons (sx_set sc__law_is_mill_right.nd (ex_c1 c__law_sent_on tk hr (by decide) (ea_cons (xv 0) (ea_cons (xv 2) ea_nil))))
    (sx_cons (sx_set sc__law_is_mill_right.nd (ex_c1 c__law_sent_on tk hr (by decide) (ea_cons (xv 1) (ea_cons (xv 2) ea_nil))))
    (sx_cons (sx_set sc__law_is_mill_right.nd (ex_c1 c_row_loss tk hr (by decide) (ea_cons (xv 3) (ea_cons (xv 4) ea_nil))))
    (sx_cons (sx_set sc__law_is_mill_right.nd (ex_c1 c_row_loss tk hr (by decide) (ea_cons (xv 0) (ea_cons (xv 1) ea_nil))))
    (sx_cons (sx_if (Ew.et (ew_or (et_not (et_val (ex_c1 c__law_is_loss tk hr (by decide) (ea_cons (xv 5) (ea_cons (ex_c1 c__law_row_loss tk hr (by decide) (ea_cons (xv 3) (ea_cons (xv 4) ea_nil))) ea_nil))))) (ew_or1 (et_not (et_val (ex_c1 c__law_is_loss tk hr (by decide) (ea_cons (xv 6) (ea_cons (ex_c1 c__law_row_loss tk hr (by decide) (ea_cons (xv 0) (ea_cons (xv 1) ea_nil))) ea_nil)))))))) (sx_one (sx_ret ex_bl)) sx_nil)
    (sx_cons (sx_if (et_cmp m_is (xv 6) ex_non (nomark _)) (sx_one (sx_ret ex_bl)) sx_nil)
    (sx_one (sx_ret (ex_and (ex_cmp m_isnot (xv 5) ex_non (nomark _)) (ex_one (ex_not (ex_c1 c__law_less tk hr (by decide) (ea_cons (xv 6) (ea_cons (xv 5) ea_nil))))))))))))))
def N__law_are_small_right : List PySem.Str := ["d", "many", "row", "other", "third", "mine", "theirs", "left"]
theorem sc__law_are_small_right : FnScope N__law_are_small_right ["d"] (defScope s__law_are_small_right) := ⟨rfl, rfl, rfl, by decide +kernel, rfl, by decide +kernel, by decide +kernel⟩
def m__law_are_small_right (f__law_draw : FM) (f__law_row : FM) (f__law_other_row : FM) (f__law_is_three_right : FM) (f__law_multiplied : FM) (f__law_is_loss : FM) (f_row_loss : FM) (f__law_row_loss : FM) (f__law_is_product_right : FM) (f__law_is_mill_right : FM) (f__law_shares_of_six : FM) : SM := (sSeq (sSet 1 (eBin oAdd (eC (.int 1)) (eCall 2 f__law_draw (aCons (eVar 0) (aCons (eC (.int 5)) aNil)))))
    (sSeq (sSet 2 (eCall 4 f__law_row (aCons (eVar 0) (aCons (eVar 1) (aCons (eC (.int 12)) (aCons (eBin oEq (eCall 2 f__law_draw (aCons (eVar 0) (aCons (eC (.int 2)) aNil))) (eC (.int 1))) aNil))))))
    (sSeq (sSet 3 (eCall 2 f__law_other_row (aCons (eVar 0) (aCons (eVar 2) aNil))))
    (sSeq (sSet 4 (eCall 2 f__law_other_row (aCons (eVar 0) (aCons (eVar 3) aNil))))
    (sSeq (sIf (HM.tNot (tVal (eCall 3 f__law_is_three_right (aCons (eVar 2) (aCons (eVar 3) (aCons (eVar 4) aNil)))))) (sRet (eC (.bl false))) sNil)
    (sSeq (sSet 5 (eCall 2 f__law_multiplied (aCons (eVar 2) (aCons (eBin oAdd (eC (.int 1)) (eCall 2 f__law_draw (aCons (eVar 0) (aCons (eC (.int 9)) aNil)))) aNil))))
    (sSeq (sSet 6 (eCall 2 f__law_multiplied (aCons (eVar 3) (aCons (eBin oAdd (eC (.int 1)) (eCall 2 f__law_draw (aCons (eVar 0) (aCons (eC (.int 9)) aNil)))) aNil))))
    (sSeq (sIf (HM.tNot (tVal (eCall 2 f__law_is_loss (aCons (eCall 2 f_row_loss (aCons (eVar 5) (aCons (eVar 6) aNil))) (aCons (eCall 2 f__law_row_loss (aCons (eVar 2) (aCons (eVar 3) aNil))) aNil))))) (sRet (eC (.bl false))) sNil)
    (sSeq (sSet 7 (eCall 4 f__law_row (aCons (eVar 0) (aCons (eBin oAdd (eC (.int 1)) (eCall 2 f__law_draw (aCons (eVar 0) (aCons (eC (.int 3)) aNil)))) (aCons (eC (.int 12)) (aCons (eBin oEq (eCall 2 f__law_draw (aCons (eVar 0) (aCons (eC (.int 3)) aNil))) (eC (.int 1))) aNil))))))
    (sSeq (sIf (HM.tNot (tVal (eCall 4 f__law_is_product_right (aCons (eVar 2) (aCons (eVar 3) (aCons (eVar 7) (aCons (eCall 2 f__law_other_row (aCons (eVar 0) (aCons (eVar 7) aNil))) aNil))))))) (sRet (eC (.bl false))) sNil)
    (sRet (eCall 3 f__law_is_mill_right (aCons (eVar 2) (aCons (eVar 3) (aCons (eCall 3 f__law_shares_of_six (aCons (eVar 0) (aCons (eVar 1) (aCons (eBin oAdd (eC (.int 1)) (eCall 2 f__law_draw (aCons (eVar 0) (aCons (eC (.int 4)) aNil)))) aNil)))) aNil)))))))))))))))
theorem ok__law_are_small_right {P : Program} {w : World} {K : PySem.W.Frag} {mg : PySem.Str → Option Value} {base : Heap} {f : Addr} {fd : FuncData} {f__law_draw f__law_row f__law_other_row f__law_is_three_right f__law_multiplied f__law_is_loss f_row_loss f__law_row_loss f__law_is_product_right f__law_is_mill_right f__law_shares_of_six : FM} (F : FnP K "_law_are_small_right" s__law_are_small_right f fd) (gx : mg "_law_are_small_right" = some (.ref f)) (c__law_draw : Cal P w K mg base "_law_draw" 1 ["d", "many"] f__law_draw) (c__law_row : Cal P w K mg base "_law_row" 2 ["d", "many", "most", "zeros"] f__law_row) (c__law_other_row : Cal P w K mg base "_law_other_row" 3 ["d", "row"] f__law_other_row) (c__law_is_three_right : Cal P w K mg base "_law_is_three_right" 5 ["row", "other", "third"] f__law_is_three_right) (c__law_multiplied : Cal P w K mg base "_law_multiplied" 1 ["row", "factor"] f__law_multiplied) (c__law_is_loss : Cal P w K mg base "_law_is_loss" 4 ["found", "due"] f__law_is_loss) (c_row_loss : Cal P w K mg base "row_loss" 4 ["row", "other"] f_row_loss) (c__law_row_loss : Cal P w K mg base "_law_row_loss" 4 ["row", "other"] f__law_row_loss) (c__law_is_product_right : Cal P w K mg base "_law_is_product_right" 5 ["row", "other", "left", "right"] f__law_is_product_right) (c__law_is_mill_right : Cal P w K mg base "_law_is_mill_right" 5 ["row", "other", "shares"] f__law_is_mill_right) (c__law_shares_of_six : Cal P w K mg base "_law_shares_of_six" 2 ["d", "many", "parts"] f__law_shares_of_six) :
    Cal P w K mg base "_law_are_small_right" 6 ["d"] (runB 8 (m__law_are_small_right f__law_draw f__law_row f__law_other_row f__law_is_three_right f__law_multiplied f__law_is_loss f_row_loss f__law_row_loss f__law_is_product_right f__law_is_mill_right f__law_shares_of_six)) :=
  cal_mk (k := 5) F sc__law_are_small_right gx (fun _ _ _ _ _ _ us hl => match us, hl with | [_], _ => rfl) fun cdv A outer s H E hr tk hp =>
    (sx_cons (sx_set sc__law_are_small_right.nd (ex_op m_add ex_int (ex_c1 c__law_draw tk hr (by decide) (ea_cons (xv 0) (ea_cons ex_int ea_nil)))))
    (sx_cons (sx_set sc__law_are_small_right.nd (ex_c1 c__law_row tk hr (by decide) (ea_cons (xv 0) (ea_cons (xv 1) (ea_cons ex_int (ea_cons (ex_cmp (m_eq hr.units) (ex_c1 c__law_draw tk hr (by decide) (ea_cons (xv 0) (ea_cons ex_int ea_nil))) ex_int (nomark _)) ea_nil))))))
    (sx_cons (sx_set sc__law_are_small_right.nd (ex_c1 c__law_other_row tk hr (by decide) (ea_cons (xv 0) (ea_cons (xv 2) ea_nil))))
    (sx_cons (sx_set sc__law_are_small_right.nd (ex_c1 c__law_other_row tk hr (by decide) (ea_cons (xv 0) (ea_cons (xv 3) ea_nil))))
    (sx_cons (sx_if (et_not (et_val (ex_c1 c__law_is_three_right tk hr (by decide) (ea_cons (xv 2) (ea_cons (xv 3) (ea_cons (xv 4) ea_nil)))))) (sx_one (sx_ret ex_bl)) sx_nil)
    (sx_cons (sx_set sc__law_are_small_right.nd (ex_c1 c__law_multiplied tk hr (by decide) (ea_cons (xv 2) (ea_cons (ex_op m_add ex_int (ex_c1 c__law_draw tk hr (by decide) (ea_cons (xv 0) (ea_cons ex_int ea_nil)))) ea_nil))))
    (sx_cons (sx_set sc__law_are_small_right.nd (ex_c1 c__law_multiplied tk hr (by decide) (ea_cons (xv 3) (ea_cons (ex_op m_add ex_int (ex_c1 c__law_draw tk hr (by decide) (ea_cons (xv 0) (ea_cons ex_int ea_nil)))) ea_nil))))
    (sx_cons (sx_if (et_not (et_val (ex_c1 c__law_is_loss tk hr (by decide) (ea_cons (ex_c1 c_row_loss tk hr (by decide) (ea_cons (xv 5) (ea_cons (xv 6) ea_nil))) (ea_cons (ex_c1 c__law_row_loss tk hr (by decide) (ea_cons (xv 2) (ea_cons (xv 3) ea_nil))) ea_nil))))) (sx_one (sx_ret ex_bl)) sx_nil)
    (sx_cons (sx_set sc__law_are_small_right.nd (ex_c1 c__law_row tk hr (by decide) (ea_cons (xv 0) (ea_cons (ex_op m_add ex_int (ex_c1 c__law_draw tk hr (by decide) (ea_cons (xv 0) (ea_cons ex_int ea_nil)))) (ea_cons ex_int (ea_cons (ex_cmp (m_eq hr.units) (ex_c1 c__law_draw tk hr (by decide) (ea_cons (xv 0) (ea_cons ex_int ea_nil))) ex_int (nomark _)) ea_nil))))))
    (sx_cons (sx_if (et_not (et_val (ex_c1 c__law_is_product_right tk hr (by decide) (ea_cons (xv 2) (ea_cons (xv 3) (ea_cons (xv 7) (ea_cons (ex_c1 c__law_other_row tk hr (by decide) (ea_cons (xv 0) (ea_cons (xv 7) ea_nil))) ea_nil))))))) (sx_one (sx_ret ex_bl)) sx_nil)
    (sx_one (sx_ret (ex_c1 c__law_is_mill_right tk hr (by decide) (ea_cons (xv 2) (ea_cons (xv 3) (ea_cons (ex_c1 c__law_shares_of_six tk hr (by decide) (ea_cons (xv 0) (ea_cons (xv 1) (ea_cons (ex_op m_add ex_int (ex_c1 c__law_draw tk hr (by decide) (ea_cons (xv 0) (ea_cons ex_int ea_nil)))) ea_nil)))) ea_nil))))))))))))))))
def N__law_are_pairs_right : List PySem.Str := ["d", "many", "rows", "k", "count", "both", "due", "v", "w", "loss"]
theorem sc__law_are_pairs_right : FnScope N__law_are_pairs_right ["d"] (defScope s__law_are_pairs_right) := ⟨rfl, rfl, rfl, by decide +kernel, rfl, by decide +kernel, by decide +kernel⟩
def m__law_are_pairs_right (f__law_draw : FM) (f__law_row : FM) (f__law_other_row : FM) (f__law_pick : FM) (f__law_row_loss : FM) (f__law_great : FM) (f__law_is_loss : FM) (f_rows_loss : FM) : SM := (sSeq (sSet 1 (eBin oAdd (eC (.int 1)) (eCall 2 f__law_draw (aCons (eVar 0) (aCons (eC (.int 4)) aNil)))))
    (sSeq (sSet 2 (eLst (aCons (eCall 4 f__law_row (aCons (eVar 0) (aCons (eVar 1) (aCons (eC (.int 12)) (aCons (eBin oEq (eCall 2 f__law_draw (aCons (eVar 0) (aCons (eC (.int 3)) aNil))) (eC (.int 1))) aNil))))) aNil)))
    (sSeq (sFor (iRg1 (eCall 2 f__law_draw (aCons (eVar 0) (aCons (eC (.int 5)) aNil)))) (gN 3) (sExpr (eM "list" mAppend (eVar 2) (aCons (eCall 2 f__law_other_row (aCons (eVar 0) (aCons (eCall 2 f__law_pick (aCons (eVar 0) (aCons (eVar 2) aNil))) aNil))) aNil))))
    (sSeq (sSet 4 (eIf (tBl (eBin oEq (eCall 2 f__law_draw (aCons (eVar 0) (aCons (eC (.int 8)) aNil))) (eC (.int 3)))) (eC (.int 60)) (eCall 2 f__law_draw (aCons (eVar 0) (aCons (eC (.int 9)) aNil)))))
    (sSeq (sSet 5 (eLst aNil))
    (sSeq (sSet 6 (eTup (aCons (eC (.int 1)) (aCons (eC (.int 1)) aNil))))
    (sSeq (sFor (iRg1 (eVar 4)) (gN 3) (sSeq (sSet 7 (eCall 2 f__law_draw (aCons (eVar 0) (aCons (eCB fLen (aCons (eVar 2) aNil)) aNil))))
    (sSeq (sSet 8 (eCall 2 f__law_draw (aCons (eVar 0) (aCons (eCB fLen (aCons (eVar 2) aNil)) aNil))))
    (sSeq (sExpr (eM "list" mAppend (eVar 5) (aCons (eTup (aCons (eVar 7) (aCons (eVar 8) aNil))) aNil)))
    (sSeq (sSet 9 (eCall 2 f__law_row_loss (aCons (eBin oIx (eVar 2) (eVar 7)) (aCons (eBin oIx (eVar 2) (eVar 8)) aNil))))
    (sSet 6 (eIf (tOr (tBl (eBin oIs (eVar 6) (eC .non))) (tBl (eBin oIs (eVar 9) (eC .non)))) (eC .non) (eCall 1 f__law_great (aCons (eLst (aCons (eVar 6) (aCons (eVar 9) aNil))) aNil)))))))))
    (sRet (eCall 2 f__law_is_loss (aCons (eCall 2 f_rows_loss (aCons (eCB fTuple (aCons (eVar 2) aNil)) (aCons (eCB fTuple (aCons (eVar 5) aNil)) aNil))) (aCons (eVar 6) aNil)))))))))))
theorem ok__law_are_pairs_right {P : Program} {w : World} {K : PySem.W.Frag} {mg : PySem.Str → Option Value} {base : Heap} {f : Addr} {fd : FuncData} {f__law_draw f__law_row f__law_other_row f__law_pick f__law_row_loss f__law_great f__law_is_loss f_rows_loss : FM} (F : FnP K "_law_are_pairs_right" s__law_are_pairs_right f fd) (gx : mg "_law_are_pairs_right" = some (.ref f)) (c__law_draw : Cal P w K mg base "_law_draw" 1 ["d", "many"] f__law_draw) (c__law_row : Cal P w K mg base "_law_row" 2 ["d", "many", "most", "zeros"] f__law_row) (c__law_other_row : Cal P w K mg base "_law_other_row" 3 ["d", "row"] f__law_other_row) (c__law_pick : Cal P w K mg base "_law_pick" 2 ["d", "row"] f__law_pick) (c__law_row_loss : Cal P w K mg base "_law_row_loss" 4 ["row", "other"] f__law_row_loss) (c__law_great : Cal P w K mg base "_law_great" 2 ["row"] f__law_great) (c__law_is_loss : Cal P w K mg base "_law_is_loss" 4 ["found", "due"] f__law_is_loss) (c_rows_loss : Cal P w K mg base "rows_loss" 5 ["rows", "pairs"] f_rows_loss) (z_range : mg "range" = none) (z_len : mg "len" = none) (z_tuple : mg "tuple" = none) :
    Cal P w K mg base "_law_are_pairs_right" 6 ["d"] (runB 10 (m__law_are_pairs_right f__law_draw f__law_row f__law_other_row f__law_pick f__law_row_loss f__law_great f__law_is_loss f_rows_loss)) :=
  cal_mk (k := 5) F sc__law_are_pairs_right gx (fun _ _ _ _ _ _ us hl => match us, hl with | [_], _ => rfl) fun cdv A outer s H E hr tk hp =>
    (sx_cons (sx_set sc__law_are_pairs_right.nd (ex_op m_add ex_int (ex_c1 c__law_draw tk hr (by decide) (ea_cons (xv 0) (ea_cons ex_int ea_nil)))))
    (sx_cons (sx_set sc__law_are_pairs_right.nd (ex_lst (ea_cons (ex_c1 c__law_row tk hr (by decide) (ea_cons (xv 0) (ea_cons (xv 1) (ea_cons ex_int (ea_cons (ex_cmp (m_eq hr.units) (ex_c1 c__law_draw tk hr (by decide) (ea_cons (xv 0) (ea_cons ex_int ea_nil))) ex_int (nomark _)) ea_nil))))) ea_nil)))
    (sx_cons (sx_for hp (by rfl) (ei_range1 (by rfl) z_range (ex_c1 c__law_draw tk hr (by decide) (ea_cons (xv 0) (ea_cons ex_int ea_nil)))) (eg_name sc__law_are_pairs_right.nd) (sx_one (sx_expr (ex_m PySem.F.plainAttrs_list PySem.F.slot_list_append PySem.F.type_list_append me_append (xv 2) (ea_cons (ex_c1 c__law_other_row tk hr (by decide) (ea_cons (xv 0) (ea_cons (ex_c1 c__law_pick tk hr (by decide) (ea_cons (xv 0) (ea_cons (xv 2) ea_nil))) ea_nil))) ea_nil)))))
    (sx_cons (sx_set sc__law_are_pairs_right.nd (ex_if (et_cmp (m_eq hr.units) (ex_c1 c__law_draw tk hr (by decide) (ea_cons (xv 0) (ea_cons ex_int ea_nil))) ex_int (nomark _)) ex_int (ex_c1 c__law_draw tk hr (by decide) (ea_cons (xv 0) (ea_cons ex_int ea_nil)))))
    (sx_cons (sx_set sc__law_are_pairs_right.nd (ex_lst ea_nil))
    (sx_cons (sx_set sc__law_are_pairs_right.nd (ex_tup (ea_cons ex_int (ea_cons ex_int ea_nil))))
    (sx_cons (sx_for hp (by rfl) (ei_range1 (by rfl) z_range (xv 4)) (eg_name sc__law_are_pairs_right.nd) (sx_cons (sx_set sc__law_are_pairs_right.nd (ex_c1 c__law_draw tk hr (by decide) (ea_cons (xv 0) (ea_cons (ex_callB c_len (by rfl) z_len bt_len (ea_cons (xv 2) ea_nil)) ea_nil))))
    (sx_cons (sx_set sc__law_are_pairs_right.nd (ex_c1 c__law_draw tk hr (by decide) (ea_cons (xv 0) (ea_cons (ex_callB c_len (by rfl) z_len bt_len (ea_cons (xv 2) ea_nil)) ea_nil))))
    (sx_cons (sx_expr (ex_m PySem.F.plainAttrs_list PySem.F.slot_list_append PySem.F.type_list_append me_append (xv 5) (ea_cons (ex_tup (ea_cons (xv 7) (ea_cons (xv 8) ea_nil))) ea_nil)))
    (sx_cons (sx_set sc__law_are_pairs_right.nd (ex_c1 c__law_row_loss tk hr (by decide) (ea_cons (ex_ix m_ix (xv 2) (xv 7)) (ea_cons (ex_ix m_ix (xv 2) (xv 8)) ea_nil))))
    (sx_one (sx_set sc__law_are_pairs_right.nd (ex_if (Ew.et (ew_or (et_cmp m_is (xv 6) ex_non (nomark _)) (ew_or1 (et_cmp m_is (xv 9) ex_non (nomark _))))) ex_non (ex_c1 c__law_great tk hr (by decide) (ea_cons (ex_lst (ea_cons (xv 6) (ea_cons (xv 9) ea_nil))) ea_nil))))))))))
    (sx_one (sx_ret (ex_c1 c__law_is_loss tk hr (by decide) (ea_cons (ex_c1 c_rows_loss tk hr (by decide) (ea_cons (ex_callT c_tuple (by rfl) z_tuple bt_tuple (ea_cons (xv 2) ea_nil)) (ea_cons (ex_callT c_tuple (by rfl) z_tuple bt_tuple (ea_cons (xv 5) ea_nil)) ea_nil))) (ea_cons (xv 6) ea_nil))))))))))))
def N_law : List PySem.Str := ["script", "d", "many", "row", "other"]
theorem sc_law : FnScope N_law ["script"] (defScope s_law) := ⟨rfl, rfl, rfl, by decide +kernel, rfl, by decide +kernel, by decide +kernel⟩
def m_law (f__law_begin : FM) (f__law_draw : FM) (f__law_first_row : FM) (f__law_other_row : FM) (f__law_is_pair_right : FM) (f__law_are_small_right : FM) (f__law_are_pairs_right : FM) : SM := (sSeq (sSet 1 (eCall 1 f__law_begin (aCons (eVar 0) aNil)))
    (sSeq (sSet 2 (eBin oAdd (eC (.int 1)) (eCall 2 f__law_draw (aCons (eVar 1) (aCons (eC (.int 6)) aNil)))))
    (sSeq (sIf (tBl (eBin oEq (eCall 2 f__law_draw (aCons (eVar 1) (aCons (eC (.int 6)) aNil))) (eC (.int 3)))) (sSet 2 (eBin oAdd (eC (.int 7)) (eCall 2 f__law_draw (aCons (eVar 1) (aCons (eC (.int 64)) aNil))))) sNil)
    (sSeq (sSet 3 (eCall 2 f__law_first_row (aCons (eVar 1) (aCons (eVar 2) aNil))))
    (sSeq (sSet 4 (eCall 2 f__law_other_row (aCons (eVar 1) (aCons (eVar 3) aNil))))
    (sRet (eAnd (eCall 3 f__law_is_pair_right (aCons (eVar 1) (aCons (eVar 3) (aCons (eVar 4) aNil)))) (eAnd (eCall 1 f__law_are_small_right (aCons (eVar 1) aNil)) (eCall 1 f__law_are_pairs_right (aCons (eVar 1) aNil))))))))))
theorem ok_law {P : Program} {w : World} {K : PySem.W.Frag} {mg : PySem.Str → Option Value} {base : Heap} {f : Addr} {fd : FuncData} {f__law_begin f__law_draw f__law_first_row f__law_other_row f__law_is_pair_right f__law_are_small_right f__law_are_pairs_right : FM} (F : FnP K "law" s_law f fd) (c__law_begin : Cal P w K mg base "_law_begin" 1 ["script"] f__law_begin) (c__law_draw : Cal P w K mg base "_law_draw" 1 ["d", "many"] f__law_draw) (c__law_first_row : Cal P w K mg base "_law_first_row" 3 ["d", "many"] f__law_first_row) (c__law_other_row : Cal P w K mg base "_law_other_row" 3 ["d", "row"] f__law_other_row) (c__law_is_pair_right : Cal P w K mg base "_law_is_pair_right" 5 ["d", "row", "other"] f__law_is_pair_right) (c__law_are_small_right : Cal P w K mg base "_law_are_small_right" 6 ["d"] f__law_are_small_right) (c__law_are_pairs_right : Cal P w K mg base "_law_are_pairs_right" 6 ["d"] f__law_are_pairs_right) :
    FnM P w K mg base 7 f fd ["script"] (runB 5 (m_law f__law_begin f__law_draw f__law_first_row f__law_other_row f__law_is_pair_right f__law_are_small_right f__law_are_pairs_right)) :=
  fn_def (k := 6) F sc_law fun cdv A outer s H E hr tk hp =>
    (sx_cons (sx_set sc_law.nd (ex_c1 c__law_begin tk hr (by decide) (ea_cons (xv 0) ea_nil)))
    (sx_cons (sx_set sc_law.nd (ex_op m_add ex_int (ex_c1 c__law_draw tk hr (by decide) (ea_cons (xv 1) (ea_cons ex_int ea_nil)))))
    (sx_cons (sx_if (et_cmp (m_eq hr.units) (ex_c1 c__law_draw tk hr (by decide) (ea_cons (xv 1) (ea_cons ex_int ea_nil))) ex_int (nomark _)) (sx_one (sx_set sc_law.nd (ex_op m_add ex_int (ex_c1 c__law_draw tk hr (by decide) (ea_cons (xv 1) (ea_cons ex_int ea_nil)))))) sx_nil)
    (sx_cons (sx_set sc_law.nd (ex_c1 c__law_first_row tk hr (by decide) (ea_cons (xv 1) (ea_cons (xv 2) ea_nil))))
    (sx_cons (sx_set sc_law.nd (ex_c1 c__law_other_row tk hr (by decide) (ea_cons (xv 1) (ea_cons (xv 3) ea_nil))))
    (sx_one (sx_ret (ex_and (ex_c1 c__law_is_pair_right tk hr (by decide) (ea_cons (xv 1) (ea_cons (xv 3) (ea_cons (xv 4) ea_nil)))) (ex_and (ex_c1 c__law_are_small_right tk hr (by decide) (ea_cons (xv 1) ea_nil)) (ex_one (ex_c1 c__law_are_pairs_right tk hr (by decide) (ea_cons (xv 1) ea_nil))))))))))))
end K27

/-! fractions in lowest terms -/
namespace HM
open PySem PySem.Spec L2
/-- the sign that makes a denominator positive, times the greatest common divisor -/
def com (n d : Int) : Int := if d < 0 then -((Nat.gcd n.natAbs d.natAbs : Nat) : Int) else (Nat.gcd n.natAbs d.natAbs : Nat)
def rn (n d : Int) : Int := n.fdiv (com n d)
def rd (n d : Int) : Int := d.fdiv (com n d)
abbrev fr (a b : Int) : D := .tup [.int a, .int b]
abbrev rat (n d : Int) : D := fr (rn n d) (rd n d)
theorem com_abs {n d : Int} : (com n d).natAbs = Nat.gcd n.natAbs d.natAbs := by
  unfold com
  split <;> omega
theorem com_ne {n d : Int} (h : d ≠ 0) : com n d ≠ 0 := by
  have := Nat.gcd_pos_of_pos_right n.natAbs (Int.natAbs_pos.mpr h)
  have := com_abs (n := n) (d := d)
  omega
theorem com_le {n d : Int} (h : d ≠ 0) : (com n d).natAbs ≤ d.natAbs := by
  rw [com_abs]
  exact Nat.le_of_dvd (Int.natAbs_pos.mpr h) (Nat.gcd_dvd_right _ _)
theorem rat_n {n d : Int} (h : d ≠ 0) : n = com n d * rn n d := by
  have z : com n d ∣ n := by
    rw [← Int.natAbs_dvd_natAbs, com_abs]
    exact Nat.gcd_dvd_left _ _
  obtain ⟨k, hk⟩ := z
  have e : rn n d = k := by
    unfold rn
    rw [hk]
    have hc : com n d ≠ 0 := com_ne h
    rw [← hk]
    rw (occs := .pos [1]) [hk]
    exact Int.mul_fdiv_cancel_left k hc
  rw [e]
  exact hk
theorem rat_d {n d : Int} (h : d ≠ 0) : d = com n d * rd n d := by
  have z : com n d ∣ d := by
    rw [← Int.natAbs_dvd_natAbs, com_abs]
    exact Nat.gcd_dvd_right _ _
  obtain ⟨k, hk⟩ := z
  have e : rd n d = k := by
    unfold rd
    have hc : com n d ≠ 0 := com_ne h
    rw (occs := .pos [1]) [hk]
    exact Int.mul_fdiv_cancel_left k hc
  rw [e]
  exact hk
theorem rat_pos {n d : Int} (h : d ≠ 0) : 0 < rd n d := by
  have e := rat_d (n := n) h
  have hg := com_ne (n := n) h
  by_cases hd : d < 0
  · have hc : com n d < 0 := by
      have : com n d = -((Nat.gcd n.natAbs d.natAbs : Nat) : Int) := by unfold com; rw [if_pos hd]
      omega
    rcases Int.lt_trichotomy 0 (rd n d) with z | z | z
    · exact z
    · rw [← z] at e
      simp at e
      exact absurd e h
    · have := Int.mul_pos_of_neg_of_neg hc z
      omega
  · have hc : 0 < com n d := by
      have : com n d = ((Nat.gcd n.natAbs d.natAbs : Nat) : Int) := by unfold com; rw [if_neg hd]
      omega
    rcases Int.lt_trichotomy 0 (rd n d) with z | z | z
    · exact z
    · rw [← z] at e
      simp at e
      exact absurd e h
    · have := Int.mul_neg_of_pos_of_neg hc z
      omega
theorem rat_cop {n d : Int} (h : d ≠ 0) : Nat.gcd (rn n d).natAbs (rd n d).natAbs = 1 := by
  have e1 := congrArg Int.natAbs (rat_n (n := n) h)
  have e2 := congrArg Int.natAbs (rat_d (n := n) h)
  rw [Int.natAbs_mul] at e1 e2
  have z : Nat.gcd n.natAbs d.natAbs = (com n d).natAbs * Nat.gcd (rn n d).natAbs (rd n d).natAbs := by
    rw [← Nat.gcd_mul_left, ← e1, ← e2]
  rw [← com_abs] at z
  have hc : 0 < (com n d).natAbs := Int.natAbs_pos.mpr (com_ne h)
  have : (com n d).natAbs * 1 = (com n d).natAbs * Nat.gcd (rn n d).natAbs (rd n d).natAbs := by omega
  exact (Nat.eq_of_mul_eq_mul_left hc this).symm
theorem rat_cross {n d : Int} (h : d ≠ 0) : rn n d * d = n * rd n d := by
  have e1 := rat_n (n := n) h
  have e2 := rat_d (n := n) h
  calc rn n d * d = rn n d * (com n d * rd n d) := by rw [← e2]
    _ = com n d * rn n d * rd n d := by rw [← Int.mul_assoc, Int.mul_comm (rn n d)]
    _ = n * rd n d := by rw [← e1]
theorem rn_le {n d : Int} (h : d ≠ 0) : (rn n d).natAbs ≤ n.natAbs := by
  have e1 := congrArg Int.natAbs (rat_n (n := n) h)
  rw [Int.natAbs_mul] at e1
  have hc : 0 < (com n d).natAbs := Int.natAbs_pos.mpr (com_ne h)
  rw [e1]
  exact Nat.le_mul_of_pos_left _ hc
theorem rd_le {n d : Int} (h : d ≠ 0) : (rd n d).natAbs ≤ d.natAbs := by
  have e1 := congrArg Int.natAbs (rat_d (n := n) h)
  rw [Int.natAbs_mul] at e1
  have hc : 0 < (com n d).natAbs := Int.natAbs_pos.mpr (com_ne h)
  rw [e1]
  exact Nat.le_mul_of_pos_left _ hc
/-- two pairs in lowest terms that are equal crosswise are equal -/
theorem low_eq {a b c d : Int} (hb : 0 < b) (hd : 0 < d) (h1 : Nat.gcd a.natAbs b.natAbs = 1) (h2 : Nat.gcd c.natAbs d.natAbs = 1) (e : a * d = c * b) : a = c ∧ b = d := by
  have e' := congrArg Int.natAbs e
  rw [Int.natAbs_mul, Int.natAbs_mul] at e'
  have bd : b.natAbs ∣ d.natAbs := by
    have z : b.natAbs ∣ a.natAbs * d.natAbs := ⟨c.natAbs, by rw [e', Nat.mul_comm]⟩
    exact Nat.Coprime.dvd_of_dvd_mul_left ((Nat.gcd_comm _ _).trans h1 : Nat.Coprime _ _) z
  have db : d.natAbs ∣ b.natAbs := by
    have z : d.natAbs ∣ c.natAbs * b.natAbs := ⟨a.natAbs, by rw [← e', Nat.mul_comm]⟩
    exact Nat.Coprime.dvd_of_dvd_mul_left ((Nat.gcd_comm _ _).trans h2 : Nat.Coprime _ _) z
  have ebd : b = d := by
    have := Nat.dvd_antisymm bd db
    omega
  subst ebd
  exact ⟨Int.eq_of_mul_eq_mul_right (by omega) e, rfl⟩
theorem rat_eq {n d m e : Int} (hd : d ≠ 0) (he : e ≠ 0) (h : n * e = m * d) : rn n d = rn m e ∧ rd n d = rd m e := by
  refine low_eq (rat_pos hd) (rat_pos he) (rat_cop hd) (rat_cop he) ?_
  have c1 := rat_cross (n := n) hd
  have c2 := rat_cross (n := m) he
  -- (rn n d * rd m e) * (d * e) = (rn m e * rd n d) * (d * e)
  refine Int.eq_of_mul_eq_mul_right (show d * e ≠ 0 from Int.mul_ne_zero hd he) ?_
  calc rn n d * rd m e * (d * e) = (rn n d * d) * (rd m e * e) := by simp only [Int.mul_assoc, Int.mul_comm, Int.mul_left_comm]
    _ = (n * rd n d) * (rd m e * e) := by rw [c1]
    _ = (n * e) * (rd n d * rd m e) := by simp only [Int.mul_assoc, Int.mul_comm, Int.mul_left_comm]
    _ = (m * d) * (rd n d * rd m e) := by rw [h]
    _ = (m * rd m e) * (rd n d * d) := by simp only [Int.mul_assoc, Int.mul_comm, Int.mul_left_comm]
    _ = (rn m e * e) * (rd n d * d) := by rw [c2]
    _ = rn m e * rd n d * (d * e) := by simp only [Int.mul_assoc, Int.mul_comm, Int.mul_left_comm]
/-- a fraction in lowest terms is its own -/
theorem rat_self {a b : Int} (hb : 0 < b) (h : Nat.gcd a.natAbs b.natAbs = 1) : rn a b = a ∧ rd a b = b :=
  low_eq (rat_pos (by omega)) hb (rat_cop (by omega)) h (rat_cross (by omega))
/-! sizes -/
theorem okMul_of {i j : Int} {k l : Nat} (hi : i.natAbs < 2 ^ k) (hj : j.natAbs < 2 ^ l) (h : k + l < 1000000) : okMul i j = true := by
  refine decide_eq_true (.inr ?_)
  have a : ∀ {x k : Nat}, x < 2 ^ k → x.log2 ≤ k := fun {x k} h => by
    by_cases z : x = 0
    · subst z
      exact Nat.zero_le _
    · exact Nat.le_of_lt ((Nat.log2_lt z).mpr h)
  have := a hi
  have := a hj
  omega
theorem mul_lt {i j : Int} {k l : Nat} (hi : i.natAbs < 2 ^ k) (hj : j.natAbs < 2 ^ l) : (i * j).natAbs < 2 ^ (k + l) := by
  rw [Int.natAbs_mul, Nat.pow_add]
  exact Nat.mul_lt_mul'' hi hj
theorem add_lt {i j : Int} {k : Nat} (hi : i.natAbs < 2 ^ k) (hj : j.natAbs < 2 ^ k) : (i + j).natAbs < 2 ^ (k + 1) := by
  rw [Nat.pow_succ]
  omega
theorem sub_lt {i j : Int} {k : Nat} (hi : i.natAbs < 2 ^ k) (hj : j.natAbs < 2 ^ k) : (i - j).natAbs < 2 ^ (k + 1) := by
  rw [Nat.pow_succ]
  omega
theorem lt_up {x k l : Nat} (h : x < 2 ^ k) (hl : k ≤ l) : x < 2 ^ l := Nat.lt_of_lt_of_le h (Nat.pow_le_pow_right (by decide) hl)
theorem okDiv_com {n d i : Int} {k : Nat} (h : d ≠ 0) (hd : d.natAbs < 2 ^ k) (hk : k ≤ 9000) : okDiv i (com n d) = true := by
  have hc := com_ne (n := n) h
  refine decide_eq_true ⟨hc, ?_⟩
  have hl := com_le (n := n) h
  have : (com n d).natAbs ≠ 0 := by omega
  rw [Nat.log2_lt this]
  exact Nat.lt_of_le_of_lt hl (lt_up hd hk)
end HM

namespace K27
open PySem PySem.Spec PyProof.Rows L2 HM

def f_ratio : FM := runB 3 (m_ratio)
theorem le_ratio : ∀ ds st, Le st (runB 3 (m_ratio) ds st) (f_ratio ds st) := fun _ _ => .refl _
def f_over : FM := runB 2 (m_over f_ratio)
theorem le_over : ∀ ds st, Le st (runB 2 (m_over f_ratio) ds st) (f_over ds st) := fun _ _ => .refl _
def f_is_below : FM := runB 2 (m_is_below)
theorem le_is_below : ∀ ds st, Le st (runB 2 (m_is_below) ds st) (f_is_below ds st) := fun _ _ => .refl _
def f_chances : FM := runB 3 (m_chances f_ratio)
theorem le_chances : ∀ ds st, Le st (runB 3 (m_chances f_ratio) ds st) (f_chances ds st) := fun _ _ => .refl _
def f_factor_of : FM := runB 2 (m_factor_of f_over)
theorem le_factor_of : ∀ ds st, Le st (runB 2 (m_factor_of f_over) ds st) (f_factor_of ds st) := fun _ _ => .refl _
def f_greater_loss : FM := runB 2 (m_greater_loss f_is_below)
theorem le_greater_loss : ∀ ds st, Le st (runB 2 (m_greater_loss f_is_below) ds st) (f_greater_loss ds st) := fun _ _ => .refl _
def f_row_loss : FM := runB 5 (m_row_loss f_chances f_greater_loss f_factor_of)
theorem le_row_loss : ∀ ds st, Le st (runB 5 (m_row_loss f_chances f_greater_loss f_factor_of) ds st) (f_row_loss ds st) := fun _ _ => .refl _
def f_rows_loss : FM := runB 5 (m_rows_loss f_greater_loss f_row_loss)
theorem le_rows_loss : ∀ ds st, Le st (runB 5 (m_rows_loss f_greater_loss f_row_loss) ds st) (f_rows_loss ds st) := fun _ _ => .refl _
def f__law_begin : FM := runB 2 (m__law_begin)
theorem le__law_begin : ∀ ds st, Le st (runB 2 (m__law_begin) ds st) (f__law_begin ds st) := fun _ _ => .refl _
def f__law_draw : FM := runB 5 (m__law_draw)
theorem le__law_draw : ∀ ds st, Le st (runB 5 (m__law_draw) ds st) (f__law_draw ds st) := fun _ _ => .refl _
def f__law_pick : FM := runB 2 (m__law_pick f__law_draw)
theorem le__law_pick : ∀ ds st, Le st (runB 2 (m__law_pick f__law_draw) ds st) (f__law_pick ds st) := fun _ _ => .refl _
def f__law_shuffled : FM := runB 5 (m__law_shuffled f__law_draw)
theorem le__law_shuffled : ∀ ds st, Le st (runB 5 (m__law_shuffled f__law_draw) ds st) (f__law_shuffled ds st) := fun _ _ => .refl _
def f__law_is_int : FM := runB 1 (m__law_is_int)
theorem le__law_is_int : ∀ ds st, Le st (runB 1 (m__law_is_int) ds st) (f__law_is_int ds st) := fun _ _ => .refl _
def f__law_gcd : FM := runB 5 (m__law_gcd)
theorem le__law_gcd : ∀ ds st, Le st (runB 5 (m__law_gcd) ds st) (f__law_gcd ds st) := fun _ _ => .refl _
def f__law_f : FM := runB 3 (m__law_f f__law_gcd)
theorem le__law_f : ∀ ds st, Le st (runB 3 (m__law_f f__law_gcd) ds st) (f__law_f ds st) := fun _ _ => .refl _
def f__law_times : FM := runB 2 (m__law_times f__law_f)
theorem le__law_times : ∀ ds st, Le st (runB 2 (m__law_times f__law_f) ds st) (f__law_times ds st) := fun _ _ => .refl _
def f__law_over : FM := runB 2 (m__law_over f__law_f)
theorem le__law_over : ∀ ds st, Le st (runB 2 (m__law_over f__law_f) ds st) (f__law_over ds st) := fun _ _ => .refl _
def f__law_less : FM := runB 2 (m__law_less)
theorem le__law_less : ∀ ds st, Le st (runB 2 (m__law_less) ds st) (f__law_less ds st) := fun _ _ => .refl _
def f__law_great : FM := runB 3 (m__law_great f__law_less)
theorem le__law_great : ∀ ds st, Le st (runB 3 (m__law_great f__law_less) ds st) (f__law_great ds st) := fun _ _ => .refl _
def f__law_is_frac : FM := runB 1 (m__law_is_frac f__law_is_int f__law_gcd)
theorem le__law_is_frac : ∀ ds st, Le st (runB 1 (m__law_is_frac f__law_is_int f__law_gcd) ds st) (f__law_is_frac ds st) := fun _ _ => .refl _
def f__law_is_ratio : FM := runB 1 (m__law_is_ratio f__law_is_frac)
theorem le__law_is_ratio : ∀ ds st, Le st (runB 1 (m__law_is_ratio f__law_is_frac) ds st) (f__law_is_ratio ds st) := fun _ _ => .refl _
def f__law_row : FM := runB 6 (m__law_row f__law_draw)
theorem le__law_row : ∀ ds st, Le st (runB 6 (m__law_row f__law_draw) ds st) (f__law_row ds st) := fun _ _ => .refl _
def f__law_chances : FM := runB 2 (m__law_chances f__law_f)
theorem le__law_chances : ∀ ds st, Le st (runB 2 (m__law_chances f__law_f) ds st) (f__law_chances ds st) := fun _ _ => .refl _
def f__law_row_loss : FM := runB 5 (m__law_row_loss f__law_chances f__law_great f__law_over)
theorem le__law_row_loss : ∀ ds st, Le st (runB 5 (m__law_row_loss f__law_chances f__law_great f__law_over) ds st) (f__law_row_loss ds st) := fun _ _ => .refl _
def f__law_is_loss : FM := runB 2 (m__law_is_loss f__law_is_ratio)
theorem le__law_is_loss : ∀ ds st, Le st (runB 2 (m__law_is_loss f__law_is_ratio) ds st) (f__law_is_loss ds st) := fun _ _ => .refl _
def f__law_first_row : FM := runB 5 (m__law_first_row f__law_draw f__law_row f__law_pick)
theorem le__law_first_row : ∀ ds st, Le st (runB 5 (m__law_first_row f__law_draw f__law_row f__law_pick) ds st) (f__law_first_row ds st) := fun _ _ => .refl _
def f__law_other_row : FM := runB 8 (m__law_other_row f__law_draw f__law_shuffled f__law_row)
theorem le__law_other_row : ∀ ds st, Le st (runB 8 (m__law_other_row f__law_draw f__law_shuffled f__law_row) ds st) (f__law_other_row ds st) := fun _ _ => .refl _
def f__law_sets : FM := runB 6 (m__law_sets f__law_draw)
theorem le__law_sets : ∀ ds st, Le st (runB 6 (m__law_sets f__law_draw) ds st) (f__law_sets ds st) := fun _ _ => .refl _
def f__law_are_equal : FM := runB 4 (m__law_are_equal)
theorem le__law_are_equal : ∀ ds st, Le st (runB 4 (m__law_are_equal) ds st) (f__law_are_equal ds st) := fun _ _ => .refl _
def f__law_are_sets_kept : FM := runB 11 (m__law_are_sets_kept f__law_sets)
theorem le__law_are_sets_kept : ∀ ds st, Le st (runB 11 (m__law_are_sets_kept f__law_sets) ds st) (f__law_are_sets_kept ds st) := fun _ _ => .refl _
def f__law_is_pair_right : FM := runB 4 (m__law_is_pair_right f_row_loss f__law_is_loss f__law_row_loss f__law_are_equal f__law_are_sets_kept)
theorem le__law_is_pair_right : ∀ ds st, Le st (runB 4 (m__law_is_pair_right f_row_loss f__law_is_loss f__law_row_loss f__law_are_equal f__law_are_sets_kept) ds st) (f__law_is_pair_right ds st) := fun _ _ => .refl _
def f__law_is_three_right : FM := runB 6 (m__law_is_three_right f_row_loss f__law_is_loss f__law_row_loss f__law_less f__law_times)
theorem le__law_is_three_right : ∀ ds st, Le st (runB 6 (m__law_is_three_right f_row_loss f__law_is_loss f__law_row_loss f__law_less f__law_times) ds st) (f__law_is_three_right ds st) := fun _ _ => .refl _
def f__law_multiplied : FM := runB 3 (m__law_multiplied)
theorem le__law_multiplied : ∀ ds st, Le st (runB 3 (m__law_multiplied) ds st) (f__law_multiplied ds st) := fun _ _ => .refl _
def f__law_product : FM := runB 5 (m__law_product)
theorem le__law_product : ∀ ds st, Le st (runB 5 (m__law_product) ds st) (f__law_product ds st) := fun _ _ => .refl _
def f__law_is_product_right : FM := runB 7 (m__law_is_product_right f_row_loss f__law_product f__law_is_loss f__law_row_loss f__law_times)
theorem le__law_is_product_right : ∀ ds st, Le st (runB 7 (m__law_is_product_right f_row_loss f__law_product f__law_is_loss f__law_row_loss f__law_times) ds st) (f__law_is_product_right ds st) := fun _ _ => .refl _
def f__law_shares_of_six : FM := runB 10 (m__law_shares_of_six f__law_draw)
theorem le__law_shares_of_six : ∀ ds st, Le st (runB 10 (m__law_shares_of_six f__law_draw) ds st) (f__law_shares_of_six ds st) := fun _ _ => .refl _
def f__law_sent_on : FM := runB 5 (m__law_sent_on)
theorem le__law_sent_on : ∀ ds st, Le st (runB 5 (m__law_sent_on) ds st) (f__law_sent_on ds st) := fun _ _ => .refl _
def f__law_is_mill_right : FM := runB 7 (m__law_is_mill_right f__law_sent_on f_row_loss f__law_is_loss f__law_row_loss f__law_less)
theorem le__law_is_mill_right : ∀ ds st, Le st (runB 7 (m__law_is_mill_right f__law_sent_on f_row_loss f__law_is_loss f__law_row_loss f__law_less) ds st) (f__law_is_mill_right ds st) := fun _ _ => .refl _
def f__law_are_small_right : FM := runB 8 (m__law_are_small_right f__law_draw f__law_row f__law_other_row f__law_is_three_right f__law_multiplied f__law_is_loss f_row_loss f__law_row_loss f__law_is_product_right f__law_is_mill_right f__law_shares_of_six)
theorem le__law_are_small_right : ∀ ds st, Le st (runB 8 (m__law_are_small_right f__law_draw f__law_row f__law_other_row f__law_is_three_right f__law_multiplied f__law_is_loss f_row_loss f__law_row_loss f__law_is_product_right f__law_is_mill_right f__law_shares_of_six) ds st) (f__law_are_small_right ds st) := fun _ _ => .refl _
def f__law_are_pairs_right : FM := runB 10 (m__law_are_pairs_right f__law_draw f__law_row f__law_other_row f__law_pick f__law_row_loss f__law_great f__law_is_loss f_rows_loss)
theorem le__law_are_pairs_right : ∀ ds st, Le st (runB 10 (m__law_are_pairs_right f__law_draw f__law_row f__law_other_row f__law_pick f__law_row_loss f__law_great f__law_is_loss f_rows_loss) ds st) (f__law_are_pairs_right ds st) := fun _ _ => .refl _
def f_law : FM := runB 5 (m_law f__law_begin f__law_draw f__law_first_row f__law_other_row f__law_is_pair_right f__law_are_small_right f__law_are_pairs_right)
theorem le_law : ∀ ds st, Le st (runB 5 (m_law f__law_begin f__law_draw f__law_first_row f__law_other_row f__law_is_pair_right f__law_are_small_right f__law_are_pairs_right) ds st) (f_law ds st) := fun _ _ => .refl _

theorem gcd_loop {st : Store} {g : EM Bool} {u : SM} {x y : Option D}
    (hg : ∀ (a b : Nat) c, g [x, y, some (.int a), some (.int b), c] st = .ok (decide (0 < b)) st)
    (hu : ∀ (a b : Nat) c, 0 < b → u [x, y, some (.int a), some (.int b), c] st = .nx [x, y, some (.int b), some (.int (a % b : Nat)), some (.int (a % b : Nat))] st) :
    ∀ (n a b : Nat) (c : Option D), b < n → ∃ c', whileN g u n [x, y, some (.int a), some (.int b), c] st = .nx [x, y, some (.int (Nat.gcd a b : Nat)), some (.int 0), c'] st
  | 0, a, b, c, h => absurd h (Nat.not_lt_zero _)
  | n + 1, a, b, c, h => by
    unfold whileN
    rw [hg, bindE_ok]
    by_cases hb : 0 < b
    · rw [decide_eq_true hb, if_pos rfl, hu a b c hb]
      obtain ⟨c', e⟩ := gcd_loop hg hu n b (a % b) (some (.int (a % b : Nat))) (Nat.lt_of_lt_of_le (Nat.mod_lt a hb) (by omega))
      refine ⟨c', ?_⟩
      rw [Nat.gcd_comm a b, Nat.gcd_rec b a, Nat.gcd_comm]
      exact e
    · have : b = 0 := by omega
      subst this
      rw [if_neg (by simp)]
      exact ⟨c, by rw [Nat.gcd_zero_right]; rfl⟩
theorem r_gcd {st : Store} {i j : Int} (h : j.natAbs < 2 ^ 9000) : f__law_gcd [.int i, .int j] st = .ok (.int (Nat.gcd i.natAbs j.natAbs : Nat)) st := by
  unfold f__law_gcd
  rw [runB_e]
  unfold m__law_gcd
  have hw : ∃ c', whileN (tBl (eBin oGt (eVar 3) (eC (.int 0)))) (sSeq (sSet 4 (eBin oMod (eCB fInt (aCons (eVar 2) aNil)) (eVar 3))) (sSeq (sSet 2 (eVar 3)) (sSet 3 (eVar 4)))) big [some (.int i), some (.int j), some (.int (i.natAbs : Nat)), some (.int (j.natAbs : Nat)), none] st = .nx [some (.int i), some (.int j), some (.int (Nat.gcd i.natAbs j.natAbs : Nat)), some (.int 0), c'] st := by
    refine gcd_loop (fun a b c => ?_) (fun a b c hb => ?_) big _ _ none (Nat.lt_of_lt_of_le h (le_big (k := 9000) (by decide) (Nat.le_refl _)))
    · simp
    · have om : okMod (a : Int) (b : Int) = true := okMod_of (by omega)
      have e : (a : Int).fmod (b : Int) = (a % b : Nat) := by
        rw [Int.fmod_eq_emod_of_nonneg _ (by omega)]
        rfl
      simp [om, e]
  obtain ⟨c', hw⟩ := hw
  simp [hw]

theorem r_is_int {st : Store} {i : Int} : f__law_is_int [.int i] st = .ok (.bl true) st := by
  simp [f__law_is_int, runB_e, m__law_is_int]

/-! draws -/
theorem r_begin {ns : List Int} (hl : ns.length ≤ 63) : ∃ st', f__law_begin [.rol (ns.map D.int)] [] = .ok (.ref 1) st' ∧ DS ns st' ∧ st'.length = 2 := by
  obtain ⟨ys, st1, e, ⟨h1, h2⟩, hl2⟩ := comp_inv (q := .fix (ns.map D.int)) (set := gN 1) (fe := eCB fInt (aCons (eVar 1) aNil)) (τ := [some (.rol (ns.map D.int)), none]) (fun acc s => acc = (ns.map D.int).take acc.length ∧ s = ([] : Store)) (fun _ _ _ => rfl) (ns.map D.int) [] [] ⟨rfl, rfl⟩ fun i d acc s hi ha hp => by
    obtain ⟨h1, rfl⟩ := hp
    refine ⟨_, rfl, d, [], ?_, ?_, rfl⟩
    · have : ∃ k, d = .int k := by
        rw [List.getElem?_map] at hi
        cases hz : ns[i]? with
        | none => simp [hz] at hi
        | some k => exact ⟨k, by simpa [hz] using hi.symm⟩
      obtain ⟨k, rfl⟩ := this
      simp [gN]
    · simp only [List.length_nil, Nat.zero_add] at ha
      rw [List.length_append, List.length_singleton, ha, List.take_succ, hi, ← ha, ← h1]
      rfl
  have hy : ys = ns.map D.int := by
    rw [h1, List.take_of_length_le]
    simp at hl2
    simp [hl2]
  subst hy h2
  refine ⟨[.lst (ns.map D.int), .lst [.ref 0, .int 0, .int 0, .int 7]], ?_, ⟨rfl, 0, 0, 7, by decide, rfl⟩, rfl⟩
  have e : compL (.fix (ns.map D.int)) (gN 1) tYes (eCB fInt (aCons (eVar 1) aNil)) (wipeD [some (.rol (ns.map D.int)), none] [1]) (ns.map D.int) [] [] = .ok (ns.map D.int) [] := e
  have hs : ns.length ≤ 16777216 := by omega
  simp [f__law_begin, runB_e, m__law_begin, lComp_e, lc1, hs, e]
theorem r_draw {ns : List Int} {st : Store} {many : Int} (H : DS ns st) (h0 : 0 < many) (h1 : many.natAbs.log2 < 9000) :
    ∃ v st', f__law_draw [.ref 1, .int many] st = .ok (.int v) st' ∧ 0 ≤ v ∧ v < many ∧ DS ns st' ∧ Fr st st' := by
  obtain ⟨c0, p, h, q, hp, c1⟩ := H
  have set1 : ∀ p' h' q' : Int, 0 ≤ p' → ∀ s, s = st ∨ (∃ ys, s = st.set 1 (.lst ys)) ∨ (∃ ys zs, s = (st.set 1 (.lst ys)).set 1 (.lst zs)) → DS ns (s.set 1 (.lst [.ref 0, .int p', .int h', .int q'])) ∧ Fr st (s.set 1 (.lst [.ref 0, .int p', .int h', .int q'])) := by
    intro p' h' q' hp' s hs
    have e : s.set 1 (.lst [.ref 0, .int p', .int h', .int q']) = st.set 1 (.lst [.ref 0, .int p', .int h', .int q']) := by
      rcases hs with rfl | ⟨ys, rfl⟩ | ⟨ys, zs, rfl⟩ <;> simp [List.set_set]
    rw [e]
    refine ⟨⟨by rw [lstAt_ne (by decide)]; exact c0, p', h', q', hp', lstAt_set c1⟩, by simp, fun n hn _ => ?_⟩
    rw [List.getElem?_set_ne (Ne.symm hn)]
  have od : ∀ i, okDiv i many = true := fun i => okDiv_of (by omega) h1
  have om : ∀ i, okMod i many = true := fun i => okMod_of (by omega)
  have b0 : ∀ i : Int, 0 ≤ i.fmod many := fun i => Int.fmod_nonneg_of_pos i h0
  have b1 : ∀ i : Int, i.fmod many < many := fun i => Int.fmod_lt_of_pos i h0
  unfold f__law_draw
  rw [runB_e]
  unfold m__law_draw
  by_cases hh : 0 < h
  · obtain ⟨d1, d2⟩ := set1 p (h.fdiv many) q hp st (.inl rfl)
    refine ⟨h.fmod many, _, ?_, b0 _, b1 _, d1, d2⟩
    have x2 : ixN 4 2 = some 2 := rfl
    simp [oIx_ref c1, hh, od, om, oSet_ref c1, x2]
  · -- the size of the script's number here
    have main : ∀ (size : Int) (c : Option D), (0 ≤ size) → ∃ v st', ((sSeq (sAugS oIAdd (eVar 0) (eC (.int 1)) (eC (.int 1)))
        (sSeq (sIf (tBl (eBin oGe (eVar 3) (eBin oMul (eC (.int 2)) (eBin oPow (eC (.int 10)) (eC (.int 18)))))) (sSeq (sSet 2 (eBin oMod (eCB fInt (aCons (eBin oDiv (eVar 3) (eC (.int 2))) aNil)) (eBin oShl (eC (.int 1)) (eC (.int 6000)))))
        (sSeq (sSub (eVar 0) (eC (.int 2)) (eBin oDiv (eVar 2) (eVar 1)))
        (sRet (eBin oMod (eCB fInt (aCons (eVar 2) aNil)) (eVar 1))))) sNil)
        (sSeq (sSub (eVar 0) (eC (.int 3)) (eBin oMod (eCB fInt (aCons (eBin oAdd (eBin oAdd (eBin oAdd (eBin oMul (eBin oIx (eVar 0) (eC (.int 3))) (eC (.int 48271))) (eBin oMul (eBin oMod (eCB fInt (aCons (eVar 3) aNil)) (eC (.int 2147483629))) (eC (.int 16807)))) (eBin oMul (eBin oIx (eVar 0) (eC (.int 1))) (eC (.int 69621)))) (eC (.int 11))) aNil)) (eC (.int 2147483647))))
        (sRet (eBin oMod (eCB fInt (aCons (eBin oDiv (eBin oIx (eVar 0) (eC (.int 3))) (eC (.int 16))) aNil)) (eVar 1)))))) [some (.ref 1), some (.int many), none, some (.int size), c] st).fin = .ok (.int v) st' ∧ 0 ≤ v ∧ v < many ∧ DS ns st' ∧ Fr st st' := by
      intro size c hs
      have x1 : ixN 4 1 = some 1 := rfl
      have x2 : ixN 4 2 = some 2 := rfl
      have x3 : ixN 4 3 = some 3 := rfl
      obtain ⟨st1, e1⟩ : ∃ st1, st1 = st.set 1 (.lst [.ref 0, .int (p + 1), .int h, .int q]) := ⟨_, rfl⟩
      have l1 : lstAt st1 1 = some [.ref 0, .int (p + 1), .int h, .int q] := by
        rw [e1]
        exact lstAt_set c1
      have d48 : okMul q 48271 = true := okMul_r (by decide)
      have d16 : ∀ i, okMul i 16807 = true := fun i => okMul_r (by decide)
      have d69 : ∀ i, okMul i 69621 = true := fun i => okMul_r (by decide)
      have m1 : ∀ i, okMod i 2147483629 = true := fun i => okMod_of (by decide)
      have m2 : ∀ i, okMod i 2147483647 = true := fun i => okMod_of (by decide)
      have v16 : ∀ i, okDiv i 16 = true := fun i => okDiv_of (by decide) (by decide)
      have v2 : ∀ i, okDiv i 2 = true := fun i => okDiv_of (by decide) (by decide)
      by_cases hz : 2000000000000000000 ≤ size
      · have p1 : okPow 10 18 = true := by decide
        have p2 : okMul 2 1000000000000000000 = true := okMul_r (by decide)
        have p3 : okPow 1 6000 = true := by decide
        obtain ⟨M, eM⟩ : ∃ M : Int, M = 2 ^ 6000 := ⟨_, rfl⟩
        have hM : M ≠ 0 := by
          have : (0 : Int) < 2 ^ 6000 := Int.pow_pos (by decide)
          omega
        have om2 : ∀ i, okMod i M = true := fun i => okMod_of hM
        obtain ⟨d1, d2⟩ := set1 (p + 1) (((size.fdiv 2).fmod M).fdiv many) q (by omega) st1 (.inr (.inl ⟨_, e1⟩))
        refine ⟨((size.fdiv 2).fmod M).fmod many, _, ?_, b0 _, b1 _, d1, d2⟩
        simp [oGetL_ref c1, oSet_ref c1, x1, x2, ← e1, hz, p1, p2, p3, v2, od, om, ← eM, om2, oSet_ref l1]
      · have p1 : okPow 10 18 = true := by decide
        have p2 : okMul 2 1000000000000000000 = true := okMul_r (by decide)
        obtain ⟨q', eq'⟩ : ∃ q', q' = (q * 48271 + size.fmod 2147483629 * 16807 + (p + 1) * 69621 + 11).fmod 2147483647 := ⟨_, rfl⟩
        obtain ⟨d1, d2⟩ := set1 (p + 1) h q' (by omega) st1 (.inr (.inl ⟨_, e1⟩))
        have l2 : lstAt (st1.set 1 (.lst [.ref 0, .int (p + 1), .int h, .int q'])) 1 = some [.ref 0, .int (p + 1), .int h, .int q'] := lstAt_set l1
        refine ⟨(q'.fdiv 16).fmod many, _, ?_, b0 _, b1 _, d1, d2⟩
        simp [oGetL_ref c1, oSet_ref c1, x1, x2, x3, ← e1, hz, p1, p2, v2, v16, od, om, m1, m2, d48, d16, d69, oIx_ref l1, oSet_ref l1, oIx_ref l2, ← eq']
    by_cases hp2 : p < ns.length
    · have hc : ∃ c : Int, atI (ns.map D.int) p = some (.int c) := by
        have hp3 : p.toNat < ns.length := by omega
        refine ⟨ns[p.toNat], ?_⟩
        have := atI_nat (xs := ns.map D.int) (j := p.toNat) (v := D.int ns[p.toNat]) (by simp [hp3])
        rwa [Int.toNat_of_nonneg hp] at this
      obtain ⟨c, hc⟩ := hc
      obtain ⟨v, st', e, r⟩ := main (2 * (c.natAbs : Nat) + (if c < 0 then 1 else 0)) (some (.int c)) (by split <;> omega)
      refine ⟨v, st', ?_, r⟩
      rw [← e]
      have k2 : okMul 2 (c.natAbs : Nat) = true := okMul_l (by decide)
      simp [oIx_ref c1, hh, oIx_ref c0, fLen_ref c0, hp2, hc, k2]
    · obtain ⟨v, st', e, r⟩ := main 0 none (by omega)
      refine ⟨v, st', ?_, r⟩
      rw [← e]
      simp [oIx_ref c1, hh, oIx_ref c0, fLen_ref c0, hp2]

theorem r_pick {ns : List Int} {st : Store} {m : Nat} {xs : List D} (H : DS ns st) (hx : lstAt st m = some xs) (hm : m ≠ 1) (h0 : 0 < xs.length) (h1 : xs.length < 2 ^ 60) :
    ∃ v st', f__law_pick [.ref 1, .ref m] st = .ok v st' ∧ v ∈ xs ∧ DS ns st' ∧ Fr st st' := by
  obtain ⟨v, s1, e, v0, v1, D1, F1⟩ := r_draw (many := (xs.length : Nat)) H (by omega) (by
    rw [Int.natAbs_natCast]
    have := log2_le h1
    omega)
  have hv : v.toNat < xs.length := by omega
  refine ⟨xs[v.toNat], s1, ?_, List.getElem_mem _, D1, F1⟩
  have ha : atI xs v = some xs[v.toNat] := by
    have := atI_nat (xs := xs) (j := v.toNat) (v := xs[v.toNat]) (by simp [hv])
    rwa [Int.toNat_of_nonneg v0] at this
  simp [f__law_pick, runB_e, m__law_pick, fLen_ref hx, e, oIx_ref (F1.lst hx hm), ha]

/-- a fraction in lowest terms, of at most so many bits -/
structure FQ (k : Nat) (a b : Int) : Prop where
  pos : 0 < b
  cop : Nat.gcd a.natAbs b.natAbs = 1
  an : a.natAbs < 2 ^ k
  bn : b.natAbs < 2 ^ k
theorem FQ.up {k l : Nat} {a b : Int} (h : FQ k a b) (hl : k ≤ l) : FQ l a b := ⟨h.pos, h.cop, lt_up h.an hl, lt_up h.bn hl⟩
theorem FQ.rat {k : Nat} {n d : Int} (h : d ≠ 0) (hn : n.natAbs < 2 ^ k) (hd : d.natAbs < 2 ^ k) : FQ k (rn n d) (rd n d) :=
  ⟨rat_pos h, rat_cop h, Nat.lt_of_le_of_lt (rn_le h) hn, Nat.lt_of_le_of_lt (rd_le h) hd⟩
theorem r_ratio {n d : Int} {st : Store} {k : Nat} (h : d ≠ 0) (hb : d.natAbs < 2 ^ k) (hk : k ≤ 9000) : f_ratio [.int n, .int d] st = .ok (rat n d) st := by
  have o : ∀ i, okDiv i (com n d) = true := fun i => okDiv_com h hb hk
  unfold rat fr rn rd
  by_cases hd : d < 0
  · have e : com n d = -((Nat.gcd n.natAbs d.natAbs : Nat) : Int) := by unfold com; rw [if_pos hd]
    rw [e] at o
    simp [f_ratio, runB_e, m_ratio, h, hd, e, o]
  · have e : com n d = ((Nat.gcd n.natAbs d.natAbs : Nat) : Int) := by unfold com; rw [if_neg hd]
    rw [e] at o
    simp [f_ratio, runB_e, m_ratio, h, hd, e, o]
theorem r_f {n d : Int} {st : Store} {k : Nat} (h : d ≠ 0) (hb : d.natAbs < 2 ^ k) (hk : k ≤ 9000) : f__law_f [.int n, .int d] st = .ok (rat n d) st := by
  have o : ∀ i, okDiv i (com n d) = true := fun i => okDiv_com h hb hk
  have g : f__law_gcd [.int n, .int d] st = _ := r_gcd (lt_up hb hk)
  unfold rat fr rn rd
  by_cases hd : d < 0
  · have e : com n d = -((Nat.gcd n.natAbs d.natAbs : Nat) : Int) := by unfold com; rw [if_pos hd]
    rw [e] at o
    simp [f__law_f, runB_e, m__law_f, h, hd, e, o, g]
  · have e : com n d = ((Nat.gcd n.natAbs d.natAbs : Nat) : Int) := by unfold com; rw [if_neg hd]
    rw [e] at o
    simp [f__law_f, runB_e, m__law_f, h, hd, e, o, g]
section
variable {k l : Nat} {a b c e : Int} {st : Store}
theorem om {i j : Int} (h1 : i.natAbs < 2 ^ k) (h2 : j.natAbs < 2 ^ l) (h : k + l ≤ 9000) : okMul i j = true := okMul_of h1 h2 (by omega)
theorem ne2 {b e : Int} (hb : 0 < b) (he : 0 < e) : b * e ≠ 0 := Int.ne_of_gt (Int.mul_pos hb he)
end

/-! fractions as rational numbers -/
def qd (q : Rat) : D := fr q.num (q.den : Nat)
theorem den_ne {q : Rat} : ((q.den : Nat) : Int) ≠ 0 := by have := q.den_pos; omega
theorem qd_inj {x y : Rat} (h : qd x = qd y) : x = y := by
  unfold qd fr at h
  have h1 := D.tup.inj h
  have h2 := D.int.inj (List.cons.inj h1).1
  have h3 := D.int.inj (List.cons.inj (List.cons.inj h1).2).1
  exact Rat.ext h2 (by omega)
theorem rat_qd {n d : Int} (h : d ≠ 0) : rat n d = qd (Rat.divInt n d) := by
  obtain ⟨q, eq⟩ : ∃ q, q = Rat.divInt n d := ⟨_, rfl⟩
  have e := Rat.num_divInt_den q
  rw [eq, ← eq] at e
  have e2 : q.num * d = n * (q.den : Nat) := (Rat.divInt_eq_divInt_iff den_ne h).mp (by rw [Rat.num_divInt_den]; exact eq)
  have e3 := rat_cross (n := n) (d := d) h
  have e4 : rn n d * (q.den : Nat) = q.num * rd n d := by
    refine Int.eq_of_mul_eq_mul_right h ?_
    calc rn n d * (q.den : Nat) * d = (rn n d * d) * (q.den : Nat) := by ac_rfl
      _ = (n * rd n d) * (q.den : Nat) := by rw [e3]
      _ = (n * (q.den : Nat)) * rd n d := by ac_rfl
      _ = (q.num * d) * rd n d := by rw [e2]
      _ = _ := by ac_rfl
  have := low_eq (rat_pos h) (by have := q.den_pos; omega : (0 : Int) < (q.den : Nat)) (rat_cop h) (by rw [Int.natAbs_natCast]; exact q.reduced) e4
  unfold rat qd
  rw [← eq, this.1, this.2]
/-- of so many bits -/
structure QB (k : Nat) (q : Rat) : Prop where
  an : q.num.natAbs < 2 ^ k
  bn : q.den < 2 ^ k
theorem QB.up {k l : Nat} {q : Rat} (h : QB k q) (hl : k ≤ l) : QB l q := ⟨lt_up h.an hl, lt_up h.bn hl⟩
theorem QB.fq {k : Nat} {q : Rat} (h : QB k q) : FQ k q.num (q.den : Nat) := ⟨by have := q.den_pos; omega, by rw [Int.natAbs_natCast]; exact q.reduced, h.an, by rw [Int.natAbs_natCast]; exact h.bn⟩
theorem QB.bi {k : Nat} {q : Rat} (h : QB k q) : ((q.den : Nat) : Int).natAbs < 2 ^ k := by rw [Int.natAbs_natCast]; exact h.bn
theorem QB.of {k : Nat} {n d : Int} (h : d ≠ 0) (hn : n.natAbs < 2 ^ k) (hd : d.natAbs < 2 ^ k) : QB k (Rat.divInt n d) := by
  have e := rat_qd (n := n) h
  unfold rat qd fr at e
  have h1 := D.tup.inj e
  have h2 := D.int.inj (List.cons.inj h1).1
  have h3 := D.int.inj (List.cons.inj (List.cons.inj h1).2).1
  refine ⟨by rw [← h2]; exact Nat.lt_of_le_of_lt (rn_le h) hn, ?_⟩
  have := Nat.lt_of_le_of_lt (rd_le (n := n) h) hd
  rw [h3, Int.natAbs_natCast] at this
  exact this
theorem QB.sub {k l : Nat} {x y : Rat} (hx : QB k x) (hy : QB l y) : QB (k + l + 1) (x - y) := by
  rw [Rat.sub_def', ← Rat.divInt_ofNat]
  refine .of (by have := x.den_pos; have := y.den_pos; have := Nat.mul_pos x.den_pos y.den_pos; omega) (sub_lt (mul_lt hx.an hy.bi) (by rw [Nat.add_comm k l]; exact mul_lt hy.an hx.bi)) (lt_up (k := k + l) ?_ (by omega))
  rw [Int.natAbs_natCast, Nat.pow_add]
  exact Nat.mul_lt_mul'' hx.bn hy.bn
theorem QB.add {k l : Nat} {x y : Rat} (hx : QB k x) (hy : QB l y) : QB (k + l + 1) (x + y) := by
  rw [Rat.add_def', ← Rat.divInt_ofNat]
  refine .of (by have := x.den_pos; have := y.den_pos; have := Nat.mul_pos x.den_pos y.den_pos; omega) (add_lt (mul_lt hx.an hy.bi) (by rw [Nat.add_comm k l]; exact mul_lt hy.an hx.bi)) (lt_up (k := k + l) ?_ (by omega))
  rw [Int.natAbs_natCast, Nat.pow_add]
  exact Nat.mul_lt_mul'' hx.bn hy.bn
theorem QB.mul {k l : Nat} {x y : Rat} (hx : QB k x) (hy : QB l y) : QB (k + l) (x * y) := by
  rw [Rat.mul_def', ← Rat.divInt_ofNat]
  refine .of (by have := x.den_pos; have := y.den_pos; have := Nat.mul_pos x.den_pos y.den_pos; omega) (mul_lt hx.an hy.an) ?_
  rw [Int.natAbs_natCast, Nat.pow_add]
  exact Nat.mul_lt_mul'' hx.bn hy.bn
theorem num_ne {y : Rat} (h : y ≠ 0) : y.num ≠ 0 := fun e => h (Rat.num_eq_zero.mp e)
theorem div_eq {x y : Rat} : x / y = Rat.divInt (x.num * (y.den : Nat)) ((x.den : Nat) * y.num) := by
  rw [Rat.div_def, Rat.inv_def]
  have := Rat.num_divInt_den x
  conv => lhs; lhs; rw [← this]
  rw [Rat.divInt_mul_divInt]
theorem QB.div {k l : Nat} {x y : Rat} (hx : QB k x) (hy : QB l y) (h : y ≠ 0) : QB (k + l) (x / y) := by
  rw [div_eq]
  exact .of (Int.mul_ne_zero den_ne (num_ne h)) (mul_lt hx.an hy.bi) (mul_lt hx.bi hy.an)
theorem r_ratioQ {n d : Int} {st : Store} {k : Nat} (h : d ≠ 0) (hb : d.natAbs < 2 ^ k) (hk : k ≤ 9000) : f_ratio [.int n, .int d] st = .ok (qd (Rat.divInt n d)) st := by
  rw [← rat_qd h]
  exact r_ratio h hb hk
theorem r_fQ {n d : Int} {st : Store} {k : Nat} (h : d ≠ 0) (hb : d.natAbs < 2 ^ k) (hk : k ≤ 9000) : f__law_f [.int n, .int d] st = .ok (qd (Rat.divInt n d)) st := by
  rw [← rat_qd h]
  exact r_f h hb hk
theorem lt_dec {x y : Rat} : decide (x.num * (y.den : Nat) < y.num * (x.den : Nat)) = decide (x < y) := by
  have := Rat.lt_iff x y
  exact decide_eq_decide.mpr this.symm
theorem qd_tup {x : Rat} : qd x = .tup [.int x.num, .int (x.den : Nat)] := rfl
theorem eq_qd {x y : Rat} {st : Store} : oEq (qd x) (qd y) st = .ok (.bl (decide (x = y))) st := by
  have e : ([D.int x.num, D.int (x.den : Nat)] = [D.int y.num, D.int (y.den : Nat)]) = (x = y) := propext ⟨fun h => qd_inj (congrArg D.tup h), fun h => by rw [h]⟩
  rw [qd_tup, qd_tup, oEq_tup (by simp) (by simp)]
  simp only [e]
theorem ne_qd {x y : Rat} {st : Store} : oNe (qd x) (qd y) st = .ok (.bl (!(decide (x = y)))) st := by
  have e : ([D.int x.num, D.int (x.den : Nat)] = [D.int y.num, D.int (y.den : Nat)]) = (x = y) := propext ⟨fun h => qd_inj (congrArg D.tup h), fun h => by rw [h]⟩
  rw [qd_tup, qd_tup, oNe_tup (by simp) (by simp)]
  simp only [e]
theorem one_qd : D.tup [.int 1, .int 1] = qd 1 := rfl
theorem zero_qd : D.tup [.int 0, .int 1] = qd 0 := rfl

theorem r_overQ {k l : Nat} {x y : Rat} {st : Store} (hx : QB k x) (hy : QB l y) (h : y ≠ 0) (hk : k + l ≤ 9000) : f_over [qd x, qd y] st = .ok (qd (x / y)) st := by
  have o1 := om hx.an hy.bi (by omega)
  have o2 := om hx.bi hy.an (by omega)
  have z := r_ratioQ (st := st) (n := x.num * (y.den : Nat)) (Int.mul_ne_zero den_ne (num_ne h)) (mul_lt hx.bi hy.an) hk
  rw [← div_eq] at z
  rw [qd_tup] at z
  simp [f_over, runB_e, m_over, qd_tup, o1, o2, z]

theorem r_belowQ {k l : Nat} {x y : Rat} {st : Store} (hx : QB k x) (hy : QB l y) (hk : k + l ≤ 9000) : f_is_below [qd x, qd y] st = .ok (.bl (decide (x < y))) st := by
  have o1 := om hx.an hy.bi (by omega)
  have o2 := om hy.an hx.bi (by omega)
  rw [← lt_dec]
  simp [f_is_below, runB_e, m_is_below, qd_tup, o1, o2]

theorem r_llessQ {k l : Nat} {x y : Rat} {st : Store} (hx : QB k x) (hy : QB l y) (hk : k + l ≤ 9000) : f__law_less [qd x, qd y] st = .ok (.bl (decide (x < y))) st := by
  have o1 := om hx.an hy.bi (by omega)
  have o2 := om hy.an hx.bi (by omega)
  rw [← lt_dec]
  simp [f__law_less, runB_e, m__law_less, qd_tup, o1, o2]
theorem r_is_fracQ {k : Nat} {x : Rat} {st : Store} (hx : QB k x) (hk : k ≤ 8000) : f__law_is_frac [qd x] st = .ok (.bl true) st := by
  have g : f__law_gcd [.int x.num, .int (x.den : Nat)] st = _ := r_gcd (lt_up hx.bi (by omega))
  rw [Int.natAbs_natCast, show x.num.natAbs.gcd x.den = 1 from x.reduced] at g
  have h1 : (1 : Int) ≤ (x.den : Nat) := by have := x.den_pos; omega
  simp [f__law_is_frac, runB_e, m__law_is_frac, qd_tup, r_is_int, g, h1]
/-- the greatest -/
def gmax (x : Rat) (l : List Rat) : Rat := l.foldl (fun m p => if m < p then p else m) x
theorem r_lgreatQ {k m : Nat} {x : Rat} {l : List Rat} {st : Store} (hm : lstAt st m = some ((x :: l).map qd)) (hx : ∀ p ∈ x :: l, QB k p) (hk : k ≤ 4000) : f__law_great [.ref m] st = .ok (qd (gmax x (x :: l))) st := by
  have main := for_fold (q := .cell m ((x :: l).map qd)) (set := gN 2) (u := sIf (tVal (eCall 2 f__law_less (aCons (eVar 1) (aCons (eVar 2) aNil)))) (sSet 1 (eVar 2)) sNil) (st := st) (by simp [Sq.chk, hm]) qd (fun m p => if m < p then p else m) (fun b t => [some (.ref m), some (qd b), t]) (fun b => QB k b) (x :: l) x none (hx x (List.mem_cons_self ..)) (fun b t a ha hb => by
    have h1 := hx a ha
    refine ⟨by split <;> assumption, [some (.ref m), some (qd b), some (qd a)], rfl, ?_⟩
    have h2 := r_llessQ (st := st) hb h1 (by omega)
    by_cases h : b < a
    · rw [decide_eq_true h] at h2; simp [h2, if_pos h]
    · rw [decide_eq_false h] at h2; simp [h2, if_neg h])
  obtain ⟨⟨t', e⟩, _⟩ := main
  obtain ⟨L, eL⟩ : ∃ L, L = (x :: l).map qd := ⟨_, rfl⟩
  have h0 : atI L 0 = some (qd x) := by rw [eL, List.map_cons, atI_0]
  rw [← eL] at e hm
  unfold f__law_great
  rw [runB_e]
  unfold m__law_great
  simp [sFor_e, oIx_ref hm, h0, dSq_ref hm, List.replicate, e]
  simp [gmax]

def itup (cs : List Int) : D := .tup (cs.map D.int)

/-! chances, losses -/
/-- a row of weights -/
structure Wt (B : Nat) (ws : List Int) : Prop where
  nn : ∀ w ∈ ws, 0 ≤ w
  pos : 0 < ws.sum
  bd : ws.sum.natAbs < 2 ^ B
  len : ws.length ≤ 16777216
theorem sum_ge : ∀ {ws : List Int} {w : Int}, (∀ w ∈ ws, 0 ≤ w) → w ∈ ws → w ≤ ws.sum ∧ 0 ≤ ws.sum - w
  | v :: ws, w, h, hw => by
    have hs : 0 ≤ ws.sum := by
      have : ∀ l : List Int, (∀ w ∈ l, 0 ≤ w) → 0 ≤ l.sum := fun l => by
        induction l with
        | nil => simp
        | cons a l ih =>
          intro h
          have := ih fun w hw => h w (List.mem_cons_of_mem _ hw)
          have := h a (List.mem_cons_self ..)
          rw [List.sum_cons]
          omega
      exact this ws fun w hw => h w (List.mem_cons_of_mem _ hw)
    rw [List.sum_cons]
    have hv := h v (List.mem_cons_self ..)
    rcases List.mem_cons.mp hw with rfl | hw
    · omega
    · have := sum_ge (fun w hw => h w (List.mem_cons_of_mem _ hw)) hw
      omega
def ch (ws : List Int) (w : Int) : Rat := Rat.divInt w ws.sum
theorem Wt.qb {B : Nat} {ws : List Int} (h : Wt B ws) {w : Int} (hw : w ∈ ws) : QB B (ch ws w) := by
  have := sum_ge h.nn hw
  have := h.nn w hw
  have h2 := h.bd
  have := h.pos
  exact .of (by omega) (by omega) h2
theorem r_chancesQ {B : Nat} {ws : List Int} {st : Store} (h : Wt B ws) (hB : B ≤ 9000) : f_chances [itup ws] st = .ok (.tup (ws.map fun w => qd (ch ws w))) st := by
  have hp := h.pos
  have z : ∀ w, f_ratio [.int w, .int ws.sum] st = .ok (qd (ch ws w)) st := fun w => r_ratioQ (by omega) h.bd hB
  have c := comp_map (q := .fix (ws.map D.int)) (set := gN 2) (fe := eCall 2 f_ratio (aCons (eVar 2) (aCons (eVar 1) aNil))) (τ := [some (itup ws), some (.int ws.sum), none]) (st := st) rfl D.int (fun w => qd (ch ws w)) ws [] (fun w _ => ⟨[some (itup ws), some (.int ws.sum), some (.int w)], rfl, by simp [z]⟩)
  rw [List.nil_append] at c
  obtain ⟨S, eS⟩ : ∃ S, S = ws.sum := ⟨_, rfl⟩
  have e1 : gSum (ws.map D.int) st = .ok (.int S) st := eS ▸ gSum_ints
  rw [← eS] at c
  obtain ⟨W, eW⟩ : ∃ W, W = ws.map D.int := ⟨_, rfl⟩
  have lW : W.length ≤ 16777216 := by rw [eW, List.length_map]; exact h.len
  have eI : itup ws = .tup W := by rw [eW]; rfl
  rw [eI] at c ⊢
  rw [← eW] at c e1
  unfold f_chances
  rw [runB_e]
  unfold m_chances
  simp [List.replicate, e1, lComp_e, lc1, wipeD, lW, c]
theorem zipD_map {α β : Type} {f : α → D} {g : β → D} : ∀ {xs : List α} {ys : List β}, zipD (xs.map f) (ys.map g) = (List.zip xs ys).map fun p => .tup [f p.1, g p.2] := by
  intro xs
  induction xs with
  | nil => intro ys; rfl
  | cons x xs ih =>
    intro ys
    cases ys with
    | nil => rfl
    | cons y ys =>
      have := @ih ys
      simp [zipD] at this ⊢
      try exact this
def od : Option Rat → D
  | none => .non
  | some q => qd q
/-- a factor, a greater loss -/
def fac (P Q : Rat) : Option Rat := if Q = 0 then none else some (P / Q)
def glo (a b : Option Rat) : Option Rat := match a, b with
  | some x, some y => some (if x < y then y else x)
  | _, _ => none
def OB (k : Nat) (a : Option Rat) : Prop := ∀ x, a = some x → QB k x
theorem r_factorQ {k l : Nat} {P Q : Rat} {st : Store} (hP : QB k P) (hQ : QB l Q) (hk : k + l ≤ 9000) : f_factor_of [qd P, qd Q] st = .ok (od (fac P Q)) st := by
  have e : atI [D.int Q.num, .int (Q.den : Nat)] 0 = some (.int Q.num) := atI_0
  unfold f_factor_of fac
  rw [runB_e]
  unfold m_factor_of
  by_cases h : Q = 0
  · subst h
    simp [qd_tup]
    rfl
  · have hn := num_ne h
    have z := r_overQ (st := st) hP hQ h hk
    rw [if_neg h]
    rw [qd_tup (x := Q)] at z ⊢
    simp [e, hn, z]
    rfl
theorem r_greaterQ {k l : Nat} {a b : Option Rat} {st : Store} (ha : OB k a) (hb : OB l b) (hk : k + l ≤ 9000) : f_greater_loss [od a, od b] st = .ok (od (glo a b)) st := by
  unfold f_greater_loss
  rw [runB_e]
  unfold m_greater_loss
  cases a with
  | none => simp [od, glo]
  | some x =>
    cases b with
    | none => simp [od, glo, qd_tup]
    | some y =>
      have z := r_belowQ (st := st) (ha x rfl) (hb y rfl) hk
      have i1 : ∀ s, oIs (qd x) .non s = .ok (.bl false) s := fun _ => rfl
      have i2 : ∀ s, oIs (qd y) .non s = .ok (.bl false) s := fun _ => rfl
      by_cases h : x < y
      · rw [decide_eq_true h] at z
        simp [od, glo, i1, i2, z, h]
      · rw [decide_eq_false h] at z
        simp [od, glo, i1, i2, z, h]
theorem OB.fac {k l : Nat} {P Q : Rat} (hP : QB k P) (hQ : QB l Q) : OB (k + l) (fac P Q) := fun x hx => by
  unfold K27.fac at hx
  split at hx
  · cases hx
  · rename_i h
    cases hx
    exact hP.div hQ h
theorem OB.glo {k : Nat} {a b : Option Rat} (ha : OB k a) (hb : OB k b) : OB k (glo a b) := fun x hx => by
  cases a with
  | none => cases hx
  | some y =>
    cases b with
    | none => cases hx
    | some z =>
      have hx : some (if y < z then z else y) = some x := hx
      split at hx <;> cases hx
      · exact hb _ rfl
      · exact ha _ rfl
def stp (a : Option Rat) (p : Rat × Rat) : Option Rat := if 0 < p.1 then glo a (fac p.1 p.2) else a
def lss (ps : List (Rat × Rat)) : Option Rat := ps.foldl stp (some 1)
def prw (ws vs : List Int) : List (Rat × Rat) := List.zip (ws.map (ch ws)) (vs.map (ch vs))
theorem qb_one {k : Nat} (h : 1 ≤ k) : QB k 1 := ⟨lt_up (k := 1) (by decide) h, lt_up (k := 1) (by decide) h⟩
theorem r_row_lossQ {B : Nat} {ws vs : List Int} {st : Store} (hw : Wt B ws) (hv : Wt B vs) (hl : ws.length = vs.length) (hB : B ≤ 2000) (hB1 : 1 ≤ B) : f_row_loss [itup ws, itup vs] st = .ok (od (lss (prw ws vs))) st ∧ OB (B + B) (lss (prw ws vs)) := by
  have c1 := r_chancesQ (st := st) hw (by omega)
  have c2 := r_chancesQ (st := st) hv (by omega)
  have hq : ∀ p ∈ prw ws vs, QB B p.1 ∧ QB B p.2 := fun p hp => by
    have := List.of_mem_zip hp
    obtain ⟨w, h1, h2⟩ := List.mem_map.mp this.1
    obtain ⟨v, h3, h4⟩ := List.mem_map.mp this.2
    rw [← h2, ← h4]
    exact ⟨hw.qb h1, hv.qb h3⟩
  obtain ⟨A, hA⟩ : ∃ A, A = ws.map fun w => qd (ch ws w) := ⟨_, rfl⟩
  obtain ⟨C, hC⟩ : ∃ C, C = vs.map fun w => qd (ch vs w) := ⟨_, rfl⟩
  have eZ : ∀ s, zip2 (.tup A) (.tup C) s = .ok (.fix ((prw ws vs).map fun p => .tup [qd p.1, qd p.2])) s := fun s => by
    have a1 : A = (ws.map (ch ws)).map qd := by rw [hA, List.map_map]; rfl
    have a2 : C = (vs.map (ch vs)).map qd := by rw [hC, List.map_map]; rfl
    rw [zip2_tup, a1, a2, zipD_map]
    rfl
  rw [← hA] at c1
  rw [← hC] at c2
  have main := for_fold (q := .fix ((prw ws vs).map fun p => D.tup [qd p.1, qd p.2])) (set := gT 2 (gCs 3 (gCs 4 gNil0))) (u := sIf (tBl (eBin oGt (eBin oIx (eVar 3) (eC (.int 0))) (eC (.int 0)))) (sSet 2 (eCall 2 f_greater_loss (aCons (eVar 2) (aCons (eCall 2 f_factor_of (aCons (eVar 3) (aCons (eVar 4) aNil))) aNil)))) sNil) (st := st) rfl (fun p : Rat × Rat => D.tup [qd p.1, qd p.2])
    (fun (b : Option Rat × Option D × Option D) p => (stp b.1 p, some (qd p.1), some (qd p.2))) (fun b _ => [some (itup ws), some (itup vs), some (od b.1), b.2.1, b.2.2]) (fun b => OB (B + B) b.1) (prw ws vs) (some 1, none, none) none (fun x hx => by cases hx; exact qb_one (by omega)) (fun b t p hp hb => by
      have hp := hq p hp
      have o1 := OB.fac hp.1 hp.2
      refine ⟨?_, [some (itup ws), some (itup vs), some (od b.1), some (qd p.1), some (qd p.2)], rfl, ?_⟩
      · show OB _ (stp b.1 p)
        unfold stp
        split
        · exact hb.glo o1
        · exact hb
      · have z1 := r_factorQ (st := st) hp.1 hp.2 (by omega)
        have z2 := r_greaterQ (st := st) hb o1 (by omega)
        have i0 : ∀ s, oIx (qd p.1) (.int 0) s = .ok (.int p.1.num) s := fun s => by rw [qd_tup]; simp
        have hn : (0 < p.1.num) = (0 < p.1) := by
          refine propext ⟨fun h => ?_, fun h => ?_⟩
          · exact Rat.lt_of_le_of_ne (Rat.num_nonneg.mp (by omega)) (fun e => by rw [← e] at h; simp at h)
          · have a := Rat.num_nonneg.mpr (Rat.le_of_lt h)
            have b := num_ne (Rat.ne_of_gt h)
            omega
        unfold stp
        by_cases h : 0 < p.1
        · have h' : 0 < p.1.num := by rw [hn]; exact h
          simp [i0, h', h, z1, z2]
        · have h' : ¬ 0 < p.1.num := by rw [hn]; exact h
          simp [i0, h', h])
  obtain ⟨⟨t', e⟩, h2⟩ := main
  have hfst : ∀ (l : List (Rat × Rat)) (a : Option Rat) (x y : Option D), (l.foldl (fun (b : Option Rat × Option D × Option D) p => (stp b.1 p, some (qd p.1), some (qd p.2))) (a, x, y)).1 = l.foldl stp a := fun l => by
    induction l with
    | nil => intro a x y; rfl
    | cons p l ih => intro a x y; exact ih _ _ _
  refine ⟨?_, ?_⟩
  · have e : forL (.fix ((prw ws vs).map fun p => D.tup [qd p.1, qd p.2])) (gT 2 (gCs 3 (gCs 4 gNil0))) (sIf (tBl (eBin oGt (eBin oIx (eVar 3) (eC (.int 0))) (eC (.int 0)))) (sSet 2 (eCall 2 f_greater_loss (aCons (eVar 2) (aCons (eCall 2 f_factor_of (aCons (eVar 3) (aCons (eVar 4) aNil))) aNil)))) sNil) ((prw ws vs).map fun p => D.tup [qd p.1, qd p.2]) [some (itup ws), some (itup vs), some (qd 1), none, none] st = _ := e
    rw [hfst] at e
    obtain ⟨Z, hZ⟩ : ∃ Z, Z = (prw ws vs).map fun p => D.tup [qd p.1, qd p.2] := ⟨_, rfl⟩
    rw [← hZ] at e eZ
    unfold f_row_loss
    rw [runB_e]
    unfold m_row_loss
    have q1 : q_ONE = qd 1 := rfl
    simp [List.replicate, q1, sFor_e, c1, c2, -zip2_tup, eZ, e]
    rfl
  · rw [hfst] at h2
    exact h2

/-! what a loss is -/
def IsL (ps : List (Rat × Rat)) (o : Option Rat) : Prop := match o with
  | none => ∃ p ∈ ps, 0 < p.1 ∧ p.2 = 0
  | some L => 1 ≤ L ∧ (∀ p ∈ ps, 0 < p.1 → p.2 ≠ 0 ∧ p.1 / p.2 ≤ L) ∧ (L = 1 ∨ ∃ p ∈ ps, 0 < p.1 ∧ p.2 ≠ 0 ∧ L = p.1 / p.2)
theorem isL_stp {ps : List (Rat × Rat)} {a : Option Rat} {p : Rat × Rat} (h : IsL ps a) : IsL (ps ++ [p]) (stp a p) := by
  unfold stp
  cases a with
  | none =>
    obtain ⟨r, hr, h1⟩ := h
    have : (if 0 < p.1 then glo none (fac p.1 p.2) else none) = none := by split <;> rfl
    rw [this]
    exact ⟨r, List.mem_append_left _ hr, h1⟩
  | some L =>
    obtain ⟨h1, h2, h3⟩ := h
    by_cases hp : 0 < p.1
    · rw [if_pos hp]
      unfold fac
      by_cases hq : p.2 = 0
      · rw [if_pos hq]
        exact ⟨p, by simp, hp, hq⟩
      · rw [if_neg hq]
        show IsL _ (some (if L < p.1 / p.2 then p.1 / p.2 else L))
        by_cases hl : L < p.1 / p.2
        · rw [if_pos hl]
          refine ⟨Rat.le_trans h1 (Rat.le_of_lt hl), fun r hr hr1 => ?_, .inr ⟨p, by simp, hp, hq, rfl⟩⟩
          rcases List.mem_append.mp hr with hr | hr
          · exact ⟨(h2 r hr hr1).1, Rat.le_trans (h2 r hr hr1).2 (Rat.le_of_lt hl)⟩
          · rw [List.mem_singleton.mp hr]
            exact ⟨hq, Rat.le_refl⟩
        · rw [if_neg hl]
          refine ⟨h1, fun r hr hr1 => ?_, ?_⟩
          · rcases List.mem_append.mp hr with hr | hr
            · exact h2 r hr hr1
            · rw [List.mem_singleton.mp hr]
              exact ⟨hq, Rat.not_lt.mp hl⟩
          · rcases h3 with h3 | ⟨r, hr, h4⟩
            · exact .inl h3
            · exact .inr ⟨r, List.mem_append_left _ hr, h4⟩
    · rw [if_neg hp]
      refine ⟨h1, fun r hr hr1 => ?_, ?_⟩
      · rcases List.mem_append.mp hr with hr | hr
        · exact h2 r hr hr1
        · rw [List.mem_singleton.mp hr] at hr1
          exact absurd hr1 hp
      · rcases h3 with h3 | ⟨r, hr, h4⟩
        · exact .inl h3
        · exact .inr ⟨r, List.mem_append_left _ hr, h4⟩
theorem isL_fold : ∀ (l done : List (Rat × Rat)) (a : Option Rat), IsL done a → IsL (done ++ l) (l.foldl stp a)
  | [], done, a, h => by rw [List.append_nil]; exact h
  | p :: l, done, a, h => by
    have := isL_fold l (done ++ [p]) (stp a p) (isL_stp h)
    rw [List.append_assoc] at this
    exact this
theorem lss_isL (ps : List (Rat × Rat)) : IsL ps (lss ps) := by
  have := isL_fold ps [] (some 1) ⟨Rat.le_refl, by simp, .inl rfl⟩
  rwa [List.nil_append] at this
theorem isL_uniq {ps : List (Rat × Rat)} {a b : Option Rat} (ha : IsL ps a) (hb : IsL ps b) : a = b := by
  cases a with
  | none =>
    cases b with
    | none => rfl
    | some L =>
      obtain ⟨p, hp, h1, h2⟩ := ha
      exact absurd h2 (hb.2.1 p hp h1).1
  | some L =>
    cases b with
    | none =>
      obtain ⟨p, hp, h1, h2⟩ := hb
      exact absurd h2 (ha.2.1 p hp h1).1
    | some M =>
      have le : ∀ L M : Rat, IsL ps (some L) → IsL ps (some M) → L ≤ M := fun L M ⟨_, _, h3⟩ ⟨g1, g2, _⟩ => by
        rcases h3 with rfl | ⟨p, hp, h4, _, rfl⟩
        · exact g1
        · exact (g2 p hp h4).2
      rw [Rat.le_antisymm (le L M ha hb) (le M L hb ha)]
theorem r_is_lossQ {k : Nat} {a : Option Rat} {st : Store} (hk : OB k a) (h8 : k ≤ 8000) (hp : ∀ x, a = some x → 1 ≤ x) : f__law_is_loss [od a, od a] st = .ok (.bl true) st := by
  unfold f__law_is_loss
  rw [runB_e]
  unfold m__law_is_loss
  cases a with
  | none => simp [od]
  | some x =>
    have z := r_is_fracQ (st := st) (hk x rfl) h8
    have i2 : ∀ s, oIs (qd x) .non s = .ok (.bl false) s := fun _ => rfl
    have h0 : 0 ≤ x.num := Rat.num_nonneg.mpr (Rat.le_trans (by decide) (hp x rfl))
    have i0 : ∀ s, oIx (qd x) (.int 0) s = .ok (.int x.num) s := fun s => by rw [qd_tup]; simp
    have z2 : f__law_is_ratio [qd x] st = .ok (.bl true) st := by
      unfold f__law_is_ratio
      rw [runB_e]
      unfold m__law_is_ratio
      simp [z, i0, h0]
    simp [od, i2, z2, eq_qd]
theorem isL_ge {ps : List (Rat × Rat)} {a : Option Rat} (h : IsL ps a) : ∀ x, a = some x → 1 ≤ x := fun x e => by subst e; exact h.1
/-! sums -/
theorem sum_mul {c : Rat} : ∀ ps : List Rat, (ps.map (c * ·)).sum = c * ps.sum
  | [] => by simp
  | p :: ps => by
    rw [List.map_cons, List.sum_cons, List.sum_cons, sum_mul ps]
    grind
theorem sum_cast : ∀ xs : List Int, (xs.map fun x : Int => (x : Rat)).sum = (xs.sum : Int)
  | [] => by simp
  | x :: xs => by
    rw [List.map_cons, List.sum_cons, List.sum_cons, sum_cast xs, Rat.intCast_add]

theorem zip_same {α β γ : Type} {f : α → β} {g : α → γ} : ∀ l : List α, List.zip (l.map f) (l.map g) = l.map fun a => (f a, g a)
  | [] => rfl
  | a :: l => by
    rw [List.map_cons, List.map_cons, List.map_cons, List.zip_cons_cons, zip_same l]
theorem div_self' {x : Rat} (h : x ≠ 0) : x / x = 1 := by grind

theorem divInt_pos {a b : Int} (hb : 0 < b) : (0 < Rat.divInt a b) = (0 < a) := by
  rw [Rat.divInt_eq_div]
  refine propext ⟨fun h => ?_, fun h => ?_⟩
  · have h2 := (Rat.lt_div_iff (Rat.intCast_pos.mpr hb)).mp h
    rw [Rat.zero_mul] at h2
    exact Rat.intCast_pos.mp h2
  · rw [Rat.div_def]
    exact Rat.mul_pos (Rat.intCast_pos.mpr h) (Rat.inv_pos.mpr (Rat.intCast_pos.mpr hb))
theorem divInt_zero {a b : Int} (hb : 0 < b) : (Rat.divInt a b = 0) = (a = 0) := by
  rw [Rat.divInt_eq_div]
  have hb0 : (b : Rat) ≠ 0 := fun e => by have := Rat.intCast_eq_zero_iff.mp e; omega
  refine propext ⟨fun h => ?_, fun h => by rw [h]; grind⟩
  apply Rat.intCast_eq_zero_iff.mp
  grind
theorem divInt_lt {a b c d : Int} (hb : 0 < b) (hd : 0 < d) : (Rat.divInt a b < Rat.divInt c d) = (a * d < c * b) := by
  rw [Rat.divInt_eq_div, Rat.divInt_eq_div]
  have B := Rat.intCast_pos.mpr hb
  have Dp := Rat.intCast_pos.mpr hd
  rw [Rat.div_lt_iff B]
  have e : (c : Rat) / (d : Rat) * (b : Rat) = ((c * b : Int) : Rat) / (d : Rat) := by
    rw [Rat.intCast_mul, Rat.div_def, Rat.div_def]
    grind
  rw [e, Rat.lt_div_iff Dp, ← Rat.intCast_mul, Rat.intCast_lt_intCast]

theorem mem_zip_idx {α β : Type} : ∀ {xs : List α} {ys : List β} {p : α × β}, p ∈ List.zip xs ys → ∃ i : Nat, xs[i]? = some p.1 ∧ ys[i]? = some p.2
  | [], _, _, h => by simp at h
  | _ :: _, [], _, h => by simp at h
  | x :: xs, y :: ys, p, h => by
    rw [List.zip_cons_cons] at h
    rcases List.mem_cons.mp h with rfl | h
    · exact ⟨0, rfl, rfl⟩
    · obtain ⟨i, h1, h2⟩ := mem_zip_idx h
      exact ⟨i + 1, by simpa using h1, by simpa using h2⟩
theorem zip_idx {α β : Type} : ∀ {xs : List α} {ys : List β} {i : Nat} {a : α} {b : β}, xs[i]? = some a → ys[i]? = some b → (a, b) ∈ List.zip xs ys
  | [], _, _, _, _, h, _ => by simp at h
  | _ :: _, [], _, _, _, _, h => by simp at h
  | x :: xs, y :: ys, 0, a, b, h1, h2 => by
    simp at h1 h2
    subst h1 h2
    rw [List.zip_cons_cons]
    exact List.mem_cons_self ..
  | x :: xs, y :: ys, i + 1, a, b, h1, h2 => by
    rw [List.zip_cons_cons]
    exact List.mem_cons_of_mem _ (zip_idx (by simpa using h1) (by simpa using h2))

theorem gMax_of {ns : List Int} (h : ns ≠ []) : ∃ k, (∀ st, gMax (ns.map D.int) st = .ok (.int k) st) ∧ k ∈ ns ∧ ∀ n ∈ ns, n ≤ k := by
  cases ns with
  | nil => exact absurd rfl h
  | cons n ns =>
    obtain ⟨h1, h2, h3⟩ := foldl_max_ge ns n
    refine ⟨_, fun st => by unfold gMax; rw [intsD_map]; rfl, ?_, fun k hk => ?_⟩
    · rcases h3 with h3 | h3
      · rw [h3]; exact List.mem_cons_self ..
      · exact List.mem_cons_of_mem _ h3
    · rcases List.mem_cons.mp hk with rfl | hk
      · exact h1
      · exact h2 k hk
theorem gMin_of {ns : List Int} (h : ns ≠ []) : ∃ k, (∀ st, gMin (ns.map D.int) st = .ok (.int k) st) ∧ k ∈ ns ∧ ∀ n ∈ ns, k ≤ n := by
  cases ns with
  | nil => exact absurd rfl h
  | cons n ns =>
    obtain ⟨h1, h2, h3⟩ := foldl_min_le ns n
    refine ⟨_, fun st => by unfold gMin; rw [intsD_map]; rfl, ?_, fun k hk => ?_⟩
    · rcases h3 with h3 | h3
      · rw [h3]; exact List.mem_cons_self ..
      · exact List.mem_cons_of_mem _ h3
    · rcases List.mem_cons.mp hk with rfl | hk
      · exact h1
      · exact h2 k hk

/-! rows of weights; their losses -/
section
variable {st : Store} {ws vs us : List Int} {B : Nat}
theorem ch_nn (h : Wt B ws) {w : Int} (hw : w ∈ ws) : 0 ≤ ch ws w := Rat.divInt_nonneg (h.nn w hw) (Int.le_of_lt h.pos)
theorem ch_sum (h : Wt B ws) : (ws.map (ch ws)).sum = 1 := by
  have e : ws.map (ch ws) = (ws.map fun x : Int => (x : Rat)).map (fun x => (1 / (ws.sum : Rat)) * x) := by
    rw [List.map_map]
    refine List.map_congr_left fun w _ => ?_
    show Rat.divInt w ws.sum = 1 / (ws.sum : Rat) * (w : Rat)
    rw [Rat.divInt_eq_div, Rat.div_def, Rat.div_def]
    grind
  have s0 : (ws.sum : Rat) ≠ 0 := fun e => by have := Rat.intCast_eq_zero_iff.mp e; have := h.pos; omega
  rw [e, sum_mul, sum_cast]
  grind
theorem prw_nn (hw : Wt B ws) (hv : Wt B vs) {p : Rat × Rat} (hp : p ∈ prw ws vs) : 0 ≤ p.1 ∧ 0 ≤ p.2 := by
  have := List.of_mem_zip hp
  obtain ⟨w, h1, h2⟩ := List.mem_map.mp this.1
  obtain ⟨v, h3, h4⟩ := List.mem_map.mp this.2
  rw [← h2, ← h4]
  exact ⟨ch_nn hw h1, ch_nn hv h3⟩
theorem zip_fst {α β : Type} : ∀ {xs : List α} {ys : List β}, xs.length = ys.length → (List.zip xs ys).map (·.1) = xs
  | [], [], _ => rfl
  | [], _ :: _, h => by simp at h
  | _ :: _, [], h => by simp at h
  | x :: xs, y :: ys, h => by rw [List.zip_cons_cons, List.map_cons, zip_fst (by simpa using h)]
theorem zip_snd {α β : Type} : ∀ {xs : List α} {ys : List β}, xs.length = ys.length → (List.zip xs ys).map (·.2) = ys
  | [], [], _ => rfl
  | [], _ :: _, h => by simp at h
  | _ :: _, [], h => by simp at h
  | x :: xs, y :: ys, h => by rw [List.zip_cons_cons, List.map_cons, zip_snd (by simpa using h)]
/-- pairs of chances: nonnegative, both rows make 1 -/
structure PP (ps : List (Rat × Rat)) : Prop where
  nn : ∀ p ∈ ps, 0 ≤ p.1 ∧ 0 ≤ p.2
  s1 : (ps.map (·.1)).sum = 1
  s2 : (ps.map (·.2)).sum = 1
theorem prw_pp (hw : Wt B ws) (hv : Wt B vs) (hl : ws.length = vs.length) : PP (prw ws vs) := by
  refine ⟨fun p hp => prw_nn hw hv hp, ?_, ?_⟩
  · unfold prw
    rw [zip_fst (by simp [hl])]
    exact ch_sum hw
  · unfold prw
    rw [zip_snd (by simp [hl])]
    exact ch_sum hv
/-- termwise at most, the same sum: equal -/
theorem all_eq : ∀ {ps : List (Rat × Rat)}, (∀ p ∈ ps, p.1 ≤ p.2) → (ps.map (·.2)).sum ≤ (ps.map (·.1)).sum → ∀ p ∈ ps, p.1 = p.2
  | [], _, _ => by simp
  | q :: ps, h, hs => by
    have h1 := h q (List.mem_cons_self ..)
    have h2 := fun p hp => h p (List.mem_cons_of_mem q hp)
    have mono : ∀ l : List (Rat × Rat), (∀ p ∈ l, p.1 ≤ p.2) → (l.map (·.1)).sum ≤ (l.map (·.2)).sum := fun l => by
      induction l with
      | nil => intro _; exact Rat.le_refl
      | cons a l ih =>
        intro h
        have := ih fun p hp => h p (List.mem_cons_of_mem _ hp)
        have := h a (List.mem_cons_self ..)
        rw [List.map_cons, List.map_cons, List.sum_cons, List.sum_cons]
        grind
    have h3 := mono ps h2
    rw [List.map_cons, List.map_cons, List.sum_cons, List.sum_cons] at hs
    intro p hp
    rcases List.mem_cons.mp hp with rfl | hp
    · grind
    · exact all_eq h2 (by grind) p hp
/-- a loss is reached -/
theorem isL_hit {ps : List (Rat × Rat)} (pp : PP ps) {L : Rat} (h : IsL ps (some L)) : (∀ p ∈ ps, p.1 ≤ L * p.2) ∧ ∃ p ∈ ps, 0 < p.1 ∧ p.1 = L * p.2 := by
  obtain ⟨h1, h2, h3⟩ := h
  have le : ∀ p ∈ ps, p.1 ≤ L * p.2 := fun p hp => by
    have nn := pp.nn p hp
    by_cases h0 : 0 < p.1
    · obtain ⟨h4, h5⟩ := h2 p hp h0
      have q0 : 0 < p.2 := Rat.lt_of_le_of_ne nn.2 (Ne.symm h4)
      refine Rat.not_lt.mp fun h6 => ?_
      have := (Rat.lt_div_iff q0).mpr h6
      exact absurd h5 (Rat.not_le.mpr this)
    · have e : p.1 = 0 := Rat.le_antisymm (Rat.not_lt.mp h0) nn.1
      rw [e]
      exact Rat.mul_nonneg (Rat.le_trans (by decide) h1) nn.2
  refine ⟨le, ?_⟩
  rcases h3 with rfl | ⟨p, hp, h4, h5, h6⟩
  · have eq := all_eq (fun p hp => by have := le p hp; rwa [Rat.one_mul] at this) (by rw [pp.s1, pp.s2]; exact Rat.le_refl)
    refine Classical.byContradiction fun hno => ?_
    have z : ∀ p ∈ ps, p.1 = 0 := fun p hp => Classical.byContradiction fun h0 => hno ⟨p, hp, Rat.lt_of_le_of_ne (pp.nn p hp).1 (Ne.symm h0), by rw [Rat.one_mul]; exact eq p hp⟩
    have : ∀ l : List (Rat × Rat), (∀ p ∈ l, p.1 = 0) → (l.map (·.1)).sum = 0 := fun l => by
      induction l with
      | nil => intro _; rfl
      | cons a l ih =>
        intro h
        rw [List.map_cons, List.sum_cons, h a (List.mem_cons_self ..), ih fun p hp => h p (List.mem_cons_of_mem _ hp)]
        exact Rat.add_zero _
    have s := pp.s1
    rw [this ps z] at s
    exact absurd s (by decide)
  · refine ⟨p, hp, h4, ?_⟩
    rw [h6]
    exact (Rat.div_mul_cancel h5).symm
/-- what is a loss -/
theorem isL_of {ps : List (Rat × Rat)} (pp : PP ps) {L : Rat} (h1 : 1 ≤ L) (le : ∀ p ∈ ps, p.1 ≤ L * p.2) (hit : ∃ p ∈ ps, 0 < p.1 ∧ p.1 = L * p.2) : IsL ps (some L) := by
  have q0 : ∀ p ∈ ps, 0 < p.1 → p.2 ≠ 0 := fun p hp h0 e => by
    have := le p hp
    rw [e, Rat.mul_zero] at this
    exact absurd this (Rat.not_le.mpr h0)
  refine ⟨h1, fun p hp h0 => ⟨q0 p hp h0, ?_⟩, ?_⟩
  · have q1 := Rat.lt_of_le_of_ne (pp.nn p hp).2 (Ne.symm (q0 p hp h0))
    refine Rat.not_lt.mp fun h6 => ?_
    rw [Rat.lt_div_iff q1] at h6
    exact absurd (le p hp) (Rat.not_le.mpr h6)
  · obtain ⟨p, hp, h0, e⟩ := hit
    refine .inr ⟨p, hp, h0, q0 p hp h0, ?_⟩
    have := q0 p hp h0
    rw [e]
    exact (Rat.mul_div_cancel this).symm
/-- a loss without pairs that hit: at most, and 1 or hit -/
theorem isL_le {ps : List (Rat × Rat)} (pp : PP ps) {L M : Rat} (h : IsL ps (some L)) (hM : 1 ≤ M) (le : ∀ p ∈ ps, p.1 ≤ M * p.2) : L ≤ M := by
  obtain ⟨_, p, hp, h0, e⟩ := isL_hit pp h
  have := le p hp
  rw [e] at this
  have q0 : 0 < p.2 := Rat.lt_of_le_of_ne (pp.nn p hp).2 fun e2 => by rw [← e2, Rat.mul_zero] at e; rw [e] at h0; exact Rat.lt_irrefl h0
  exact Rat.le_of_mul_le_mul_right this q0
theorem not_none {ps : List (Rat × Rat)} (pp : PP ps) {M : Rat} (le : ∀ p ∈ ps, p.1 ≤ M * p.2) : lss ps ≠ none := fun e => by
  have := lss_isL ps
  rw [e] at this
  obtain ⟨p, hp, h0, h1⟩ := this
  have := le p hp
  rw [h1, Rat.mul_zero] at this
  exact absurd this (Rat.not_le.mpr h0)
end
section
variable {st : Store} {ws vs us : List Int} {B : Nat}
theorem r_lchances (h : Wt B ws) (hB : B ≤ 9000) : f__law_chances [itup ws] st = .ok (.tup (ws.map fun w => qd (ch ws w))) st := by
  have hp := h.pos
  have z : ∀ w, f__law_f [.int w, .int ws.sum] st = .ok (qd (ch ws w)) st := fun w => r_fQ (by omega) h.bd hB
  obtain ⟨S, eS⟩ : ∃ S, S = ws.sum := ⟨_, rfl⟩
  have e1 : gSum (ws.map D.int) st = .ok (.int S) st := eS ▸ gSum_ints
  have oq : oSeq (itup ws) st = .ok (ws.map D.int) st := rfl
  rw [← eS] at z
  have c := comp_map (q := .fix (ws.map D.int)) (set := gN 1) (fe := eCall 2 f__law_f (aCons (eVar 1) (aCons (eCS gSum (sEx (eVar 0))) aNil))) (τ := [some (itup ws), none]) (st := st) rfl D.int (fun w => qd (ch ws w)) ws [] (fun w _ => ⟨[some (itup ws), some (.int w)], rfl, by simp [oq, e1, z]⟩)
  rw [List.nil_append] at c
  obtain ⟨W, eW⟩ : ∃ W, W = ws.map D.int := ⟨_, rfl⟩
  have lW : W.length ≤ 16777216 := by rw [eW, List.length_map]; exact h.len
  have dq : dSq st (itup ws) = some (.fix W) := by rw [eW]; rfl
  rw [← eW] at c
  unfold f__law_chances
  rw [runB_e]
  unfold m__law_chances
  simp [List.replicate, lComp_e, lc1, wipeD, dq, lW, c]
theorem r_loverQ {k l : Nat} {x y : Rat} (hx : QB k x) (hy : QB l y) (h : y ≠ 0) (hk : k + l ≤ 9000) : f__law_over [qd x, qd y] st = .ok (qd (x / y)) st := by
  have o1 := om hx.an hy.bi (by omega)
  have o2 := om hx.bi hy.an (by omega)
  have z := r_fQ (st := st) (n := x.num * (y.den : Nat)) (Int.mul_ne_zero den_ne (num_ne h)) (mul_lt hx.bi hy.an) hk
  rw [← div_eq] at z
  rw [qd_tup] at z
  simp [f__law_over, runB_e, m__law_over, qd_tup, o1, o2, z]
theorem r_ltimesQ {k l : Nat} {x y : Rat} (hx : QB k x) (hy : QB l y) (hk : k + l ≤ 9000) : f__law_times [qd x, qd y] st = .ok (qd (x * y)) st := by
  have o1 := om hx.an hy.an (by omega)
  have o2 := om hx.bi hy.bi (by omega)
  have z := r_fQ (st := st) (n := x.num * y.num) (d := (x.den : Nat) * (y.den : Nat)) (Int.mul_ne_zero den_ne den_ne) (mul_lt hx.bi hy.bi) hk
  rw [← Int.natCast_mul, Rat.divInt_ofNat, ← Rat.mul_def', Int.natCast_mul] at z
  rw [qd_tup] at z
  simp [f__law_times, runB_e, m__law_times, qd_tup, o1, o2, z]
theorem num_pos {x : Rat} : (0 < x.num) = (0 < x) := by
  refine propext ⟨fun h => ?_, fun h => ?_⟩
  · exact Rat.lt_of_le_of_ne (Rat.num_nonneg.mp (by omega)) (fun e => by rw [← e] at h; simp at h)
  · have a := Rat.num_nonneg.mpr (Rat.le_of_lt h)
    have b := num_ne (Rat.ne_of_gt h)
    omega
theorem r_lrow_loss (hw : Wt B ws) (hv : Wt B vs) (hB : B ≤ 1000) (hB1 : 1 ≤ B) : ∃ st', f__law_row_loss [itup ws, itup vs] st = .ok (od (lss (prw ws vs))) st' ∧ Gr st st' := by
  have c1 := r_lchances (st := st) hw (by omega)
  have c2 := r_lchances (st := st) hv (by omega)
  have hq : ∀ p ∈ prw ws vs, QB B p.1 ∧ QB B p.2 := fun p hp => by
    have := List.of_mem_zip hp
    obtain ⟨w, h1, h2⟩ := List.mem_map.mp this.1
    obtain ⟨v, h3, h4⟩ := List.mem_map.mp this.2
    rw [← h2, ← h4]
    exact ⟨hw.qb h1, hv.qb h3⟩
  obtain ⟨A, hA⟩ : ∃ A, A = ws.map fun w => qd (ch ws w) := ⟨_, rfl⟩
  obtain ⟨C, hC⟩ : ∃ C, C = vs.map fun w => qd (ch vs w) := ⟨_, rfl⟩
  obtain ⟨Z, hZ⟩ : ∃ Z, Z = (prw ws vs).map fun p => D.tup [qd p.1, qd p.2] := ⟨_, rfl⟩
  have eZ : ∀ s, zip2 (.tup A) (.tup C) s = .ok (.fix Z) s := fun s => by
    have a1 : A = (ws.map (ch ws)).map qd := by rw [hA, List.map_map]; rfl
    have a2 : C = (vs.map (ch vs)).map qd := by rw [hC, List.map_map]; rfl
    rw [zip2_tup, a1, a2, zipD_map, hZ]
    rfl
  rw [← hA] at c1
  rw [← hC] at c2
  obtain ⟨U, hU⟩ : ∃ U : SM, U = sSeq (sIf (HM.tAnd (tBl (eBin oGt (eBin oIx (eVar 3) (eC (.int 0))) (eC (.int 0)))) (tBl (eBin oEq (eBin oIx (eVar 4) (eC (.int 0))) (eC (.int 0))))) (sRet (eC .non)) sNil)
    (sIf (tBl (eBin oGt (eBin oIx (eVar 3) (eC (.int 0))) (eC (.int 0)))) (sSet 2 (eCall 1 f__law_great (aCons (eLst (aCons (eVar 2) (aCons (eCall 2 f__law_over (aCons (eVar 3) (aCons (eVar 4) aNil))) aNil))) aNil))) sNil) := ⟨_, rfl⟩
  have main : ∀ (l : List (Rat × Rat)) (x : Rat) (c d : Option D) (s : Store), (∀ p ∈ l, QB B p.1 ∧ QB B p.2) → QB (B + B) x → Gr st s →
      (∃ y c' d' s', Gr st s' ∧ forL (.fix Z) (gT 2 (gCs 3 (gCs 4 gNil0))) U (l.map fun p => D.tup [qd p.1, qd p.2]) [some (itup ws), some (itup vs), some (qd x), c, d] s = .nx [some (itup ws), some (itup vs), some (qd y), c', d'] s' ∧ l.foldl stp (some x) = some y) ∨
      (∃ s', Gr st s' ∧ forL (.fix Z) (gT 2 (gCs 3 (gCs 4 gNil0))) U (l.map fun p => D.tup [qd p.1, qd p.2]) [some (itup ws), some (itup vs), some (qd x), c, d] s = .rt .non s' ∧ l.foldl stp (some x) = none) := by
    intro l
    induction l with
    | nil =>
      intro x c d s _ _ hg
      exact .inl ⟨x, c, d, s, hg, by rw [List.map_nil, forL_nil (by rfl)], rfl⟩
    | cons p l ih =>
      intro x c d s hl hx hg
      have hp := hl p (List.mem_cons_self ..)
      have hl' := fun r hr => hl r (List.mem_cons_of_mem p hr)
      have none_fold : ∀ l : List (Rat × Rat), l.foldl stp none = none := fun l => by
        induction l with
        | nil => rfl
        | cons p l ih =>
          rw [List.foldl_cons]
          have : stp none p = none := by unfold stp; split <;> rfl
          rw [this, ih]
      have hs : gT 2 (gCs 3 (gCs 4 gNil0)) (.tup [qd p.1, qd p.2]) [some (itup ws), some (itup vs), some (qd x), c, d] = some [some (itup ws), some (itup vs), some (qd x), some (qd p.1), some (qd p.2)] := rfl
      have i1 : ∀ s, oIx (qd p.1) (.int 0) s = .ok (.int p.1.num) s := fun s => by rw [qd_tup]; simp
      have i2 : ∀ s, oIx (qd p.2) (.int 0) s = .ok (.int p.2.num) s := fun s => by rw [qd_tup]; simp
      rw [List.map_cons, List.foldl_cons]
      by_cases h1 : 0 < p.1
      · have h1' : 0 < p.1.num := by rw [num_pos]; exact h1
        by_cases h2 : p.2 = 0
        · have h2' : p.2.num = 0 := by rw [h2]; rfl
          refine .inr ⟨s, hg, ?_, ?_⟩
          · rw [forL_rt (by rfl) hs (x := .non) (s2 := s)]
            rw [hU]
            simp [i1, i2, h1', h2']
          · have : stp (some x) p = none := by
              unfold stp fac
              rw [if_pos h1, if_pos h2]
              rfl
            rw [this, none_fold]
        · have h2' : ¬ p.2.num = 0 := num_ne h2
          have z1 := r_loverQ (st := s) hp.1 hp.2 h2 (by omega)
          have qy := hp.1.div hp.2 h2
          obtain ⟨y, hy⟩ : ∃ y, y = p.1 / p.2 := ⟨_, rfl⟩
          have hst : stp (some x) p = some (if x < y then y else x) := by
            unfold stp fac
            rw [if_pos h1, if_neg h2, ← hy]
            rfl
          rw [← hy] at z1 qy
          have g := r_lgreatQ (k := B + B) (st := s ++ [.lst [qd x, qd y]]) (m := s.length) (x := x) (l := [y]) lstAt_new (by
            intro z hz
            simp only [List.mem_cons, List.not_mem_nil, or_false] at hz
            rcases hz with rfl | rfl
            · exact hx
            · exact qy) (by omega)
          have hgm : gmax x [x, y] = if x < y then y else x := by simp [gmax, Rat.lt_irrefl]
          rw [hgm] at g
          rw [hst]
          obtain ⟨z, hz⟩ : ∃ z, z = if x < y then y else x := ⟨_, rfl⟩
          rw [← hz] at g ⊢
          have hu : U [some (itup ws), some (itup vs), some (qd x), some (qd p.1), some (qd p.2)] s = .nx [some (itup ws), some (itup vs), some (qd z), some (qd p.1), some (qd p.2)] (s ++ [.lst [qd x, qd y]]) := by
            rw [hU]
            simp [i1, i2, h1', h2', z1, g]
          rw [forL_nx (by rfl) hs hu]
          exact ih z _ _ _ hl' (by rw [hz]; split <;> assumption) (hg.trans .app)
      · have h1' : ¬ 0 < p.1.num := by rw [num_pos]; exact h1
        have hst : stp (some x) p = some x := by
          unfold stp
          rw [if_neg h1]
        rw [hst]
        have hu : U [some (itup ws), some (itup vs), some (qd x), some (qd p.1), some (qd p.2)] s = .nx [some (itup ws), some (itup vs), some (qd x), some (qd p.1), some (qd p.2)] s := by
          rw [hU]
          simp [i1, i2, h1']
        rw [forL_nx (by rfl) hs hu]
        exact ih x _ _ _ hl' hx hg
  have m := main (prw ws vs) 1 none none st hq (qb_one (by omega)) .refl
  rw [← hZ] at m
  unfold f__law_row_loss lss
  rw [runB_e]
  unfold m__law_row_loss
  rw [← hU]
  have t2 : D.tup [.int 1, .int 1] = qd 1 := rfl
  rcases m with ⟨y, c', d', s', g, e, hf⟩ | ⟨s', g, e, hf⟩
  · rw [hf]
    exact ⟨s', by simp [List.replicate, t2, c1, c2, -zip2_tup, eZ, sFor_e, e, od], g⟩
  · rw [hf]
    exact ⟨s', by simp [List.replicate, t2, c1, c2, -zip2_tup, eZ, sFor_e, e, od], g⟩
end

section
variable {st : Store} {ws vs us : List Int} {ns : List Int} {n : Nat}
theorem rngi {n i : Nat} {d : D} (h : (rng 0 (n : Nat))[i]? = some d) : i < n ∧ d = .int (i : Nat) := by
  have hi2 : i < n := by
    have := (List.getElem?_eq_some_iff.mp h).1
    rwa [rng_len] at this
  refine ⟨hi2, ?_⟩
  rw [rng_eq, List.getElem?_map, List.getElem?_range hi2] at h
  exact (Option.some.inj h).symm
theorem ix_itup {xs : List Int} {v : Nat} {x : Int} (h : xs[v]? = some x) {s : Store} : oIx (itup xs) (.int (v : Nat)) s = .ok (.int x) s := by
  unfold itup
  rw [oIx_tup]
  have : atI (xs.map D.int) (v : Nat) = some (.int x) := atI_nat (by rw [List.getElem?_map, h]; rfl)
  rw [this]
  rfl
theorem oSeq_ref {st : Store} {n : Nat} {xs : List D} (h : lstAt st n = some xs) : oSeq (.ref n) st = .ok xs st := by simp [oSeq, dSeq, h]
theorem ixN_of {n j : Nat} (h : j < n) : ixN n (j : Nat) = some j := by
  unfold ixN
  rw [if_pos (by omega), if_pos (by omega)]
  simp
theorem sum_le {B : Int} : ∀ {xs : List Int}, (∀ x ∈ xs, x ≤ B) → xs.sum ≤ xs.length * B
  | [], _ => by simp
  | x :: xs, h => by
    have := sum_le fun y hy => h y (List.mem_cons_of_mem x hy)
    have := h x (List.mem_cons_self ..)
    rw [List.sum_cons, List.length_cons, Int.natCast_add, Int.add_mul]
    omega
theorem sum_nn : ∀ {xs : List Int}, (∀ x ∈ xs, 0 ≤ x) → 0 ≤ xs.sum
  | [], _ => by simp
  | x :: xs, h => by
    have := sum_nn fun y hy => h y (List.mem_cons_of_mem x hy)
    have := h x (List.mem_cons_self ..)
    rw [List.sum_cons]
    omega
/-- the greatest weight -/
def big : Int := 10000000000000000000000000000000000000000
/-- a row as the law draws it -/
structure Rw (n : Nat) (ws : List Int) : Prop where
  len : ws.length = n
  nn : ∀ w ∈ ws, 0 ≤ w
  le : ∀ w ∈ ws, w ≤ big
  pos : 0 < ws.sum
theorem big140 : (2 : Nat) ^ 140 = 1393796574908163946345982392040522594123776 := by decide +kernel
theorem Rw.wt (h : Rw n ws) (hn : n ≤ 70) : Wt 140 ws := by
  refine ⟨h.nn, h.pos, ?_, by rw [h.len]; omega⟩
  have h1 := sum_le h.le
  rw [h.len] at h1
  have h2 := h.pos
  have h3 : (n : Int) * big ≤ 70 * big := Int.mul_le_mul_of_nonneg_right (by omega) (by decide)
  rw [big140]
  unfold big at *
  omega
theorem set_nn {P : Int → Prop} {k : Nat} {x : Int} (h : ∀ w ∈ ws, P w) (hx : P x) : ∀ w ∈ ws.set k x, P w := fun w hw => by
  rcases List.mem_or_eq_of_mem_set hw with h1 | h1
  · exact h w h1
  · rw [h1]; exact hx
/-- where nothing is left, something is put -/
theorem set_pos {k : Nat} {x : Int} (h : ∀ w ∈ ws, 0 ≤ w) (hx : 0 < x) (hk : k < ws.length) : 0 < (ws.set k x).sum := by
  have h1 := set_nn (P := fun w => 0 ≤ w) (k := k) (x := x) h (Int.le_of_lt hx)
  have h2 : x ∈ ws.set k x := List.mem_set hk x
  have := sum_ge h1 h2
  omega
theorem r_sum_ref {m : Nat} (g : lstAt st m = some (ws.map D.int)) : oSeq (.ref m) st = .ok (ws.map D.int) st := oSeq_ref g
/-- the end of a row: a sum of 0 is made good -/
theorem fixed {m i : Nat} {τ : Sl} {x : Int} {fe fx : EM D} (H : DS ns st) (hm : 2 ≤ m) (g : lstAt st m = some (ws.map D.int)) (hl : ws.length = n) (hn : 0 < n) (hn2 : n ≤ 70) (nn : ∀ w ∈ ws, 0 ≤ w) (le : ∀ w ∈ ws, w ≤ big) (hx : 0 < x) (hx2 : x ≤ big)
    (hi : τ[i]? = some (some (.ref m))) (hfx : fx τ st = .ok (.int x) st)
    (hfe : ∃ k s', fe τ st = .ok (.int (k : Nat)) s' ∧ k < n ∧ DS ns s' ∧ Fr st s' ∧ ∀ z, fx τ z = .ok (.int x) z) :
    ∃ us st', sIf (tBl (eBin oEq (eCS gSum (sEx (eVar i))) (eC (.int 0)))) (sSub (eVar i) fe fx) sNil τ st = .nx τ st' ∧ lstAt st' m = some (us.map D.int) ∧ Rw n us ∧ DS ns st' ∧ ∀ a : Store, a.length ≤ m → Fr a st → Fr a st' := by
  have o := oSeq_ref g
  have sm : gSum (ws.map D.int) st = .ok (.int ws.sum) st := gSum_ints
  obtain ⟨S, hS⟩ : ∃ S, S = ws.sum := ⟨_, rfl⟩
  obtain ⟨W, hW⟩ : ∃ W, W = ws.map D.int := ⟨_, rfl⟩
  rw [← hS] at sm
  by_cases h0 : S = 0
  · obtain ⟨k, s', e1, hk, D1, F1, e2⟩ := hfe
    have g1 : lstAt s' m = some (ws.map D.int) := F1.lst g (by omega)
    have os := oSet_ref (k := (k : Nat)) (j := k) (v := .int x) g1 (ixN_of (by rw [List.length_map, hl]; exact hk))
    refine ⟨ws.set k x, s'.set m (.lst ((ws.map D.int).set k (.int x))), ?_, ?_, ⟨by rw [List.length_set]; exact hl, set_nn nn (Int.le_of_lt hx), set_nn le hx2, set_pos nn hx (by omega)⟩, D1.put2 (by omega) (by omega), fun a ha F => (F.trans F1).put2 ha⟩
    · rw [← hW] at o sm os ⊢
      have e3 := e2 s'
      simp [eVar_e hi, o, sm, h0, hfx, e1, os]
    · rw [lstAt_set g1, List.map_set]
  · refine ⟨ws, st, ?_, g, ⟨hl, nn, le, ?_⟩, H, fun a _ F => F⟩
    · rw [← hW] at o sm
      simp [eVar_e hi, o, sm, h0]
    · have := sum_nn nn
      omega
theorem r_row (H : DS ns st) {z : Bool} (hn : 0 < n) (hn2 : n ≤ 70) : ∃ ws st', f__law_row [.ref 1, .int (n : Nat), .int 12, .bl z] st = .ok (itup ws) st' ∧ Rw n ws ∧ DS ns st' ∧ Fr st st' := by
  have hr : ∀ s, rg1 (.int (n : Nat)) s = .ok (.fix (rng 0 n)) s := fun s => rg1_int (by omega)
  obtain ⟨ys, s1, e1, ws, rfl, hl, h1, D1, F1⟩ := comp_gen (q := .fix (rng 0 n)) (set := gN 5) (ft := HM.tYes) (fe := eBin oAdd (eC (.int 1)) (eCall 2 f__law_draw (aCons (eVar 0) (aCons (eVar 2) aNil)))) (τ := [some (.ref 1), some (.int (n : Nat)), some (.int 12), some (.bl z), none, none])
    (fun k acc s => ∃ ws : List Int, acc = ws.map D.int ∧ ws.length = k ∧ (∀ w ∈ ws, 0 ≤ w ∧ w ≤ 12) ∧ DS ns s ∧ Fr st s) (fun _ _ _ _ => rfl) (rng 0 n) 0 [] st ⟨[], rfl, rfl, by simp, H, .refl⟩ (by
      intro i d acc s hi hp
      obtain ⟨ws, rfl, hl, h1, Dx, F⟩ := hp
      obtain ⟨v, sa, ea, aa, ba, Da, Fa⟩ := r_draw (many := 12) Dx (by decide) (by decide)
      refine ⟨[some (.ref 1), some (.int (n : Nat)), some (.int 12), some (.bl z), none, some d], rfl, true, s, rfl, nofun, fun _ => ⟨.int (1 + v), sa, by simp [ea], ws ++ [1 + v], by simp, by simp; omega, fun w hw => ?_, Da, F.trans Fa⟩⟩
      rcases List.mem_append.mp hw with h | h
      · exact h1 w h
      · rw [List.mem_singleton.mp h]; omega)
  rw [Nat.zero_add, rng_len] at hl
  obtain ⟨M, hM⟩ : ∃ M, M = s1.length := ⟨_, rfl⟩
  obtain ⟨s2, hs2⟩ : ∃ s2, s2 = s1 ++ [Cell.lst (ws.map D.int)] := ⟨_, rfl⟩
  have l1 := D1.len
  have g2 : lstAt s2 M = some (ws.map D.int) := by rw [hs2, hM]; exact lstAt_new
  have D2 : DS ns s2 := hs2 ▸ D1.app
  have F2 : Fr st s2 := hs2 ▸ F1.trans .app
  have stM : st.length ≤ M := by rw [hM]; exact F1.len
  -- zeros
  obtain ⟨x5, vs, s3, e3, g3, lv, v1, D3, F3⟩ : ∃ (x5 : Option D) (vs : List Int) (s3 : Store), sIf (tVal (eVar 3)) (sFor (iRg1 (eVar 1)) (gN 5) (sIf (tBl (eBin oEq (eCall 2 f__law_draw (aCons (eVar 0) (aCons (eC (.int 4)) aNil))) (eC (.int 1)))) (sSub (eVar 4) (eVar 5) (eC (.int 0))) sNil)) sNil [some (.ref 1), some (.int (n : Nat)), some (.int 12), some (.bl z), some (.ref M), none] s2 = .nx [some (.ref 1), some (.int (n : Nat)), some (.int 12), some (.bl z), some (.ref M), x5] s3 ∧ lstAt s3 M = some (vs.map D.int) ∧ vs.length = n ∧ (∀ w ∈ vs, 0 ≤ w ∧ w ≤ 12) ∧ DS ns s3 ∧ Fr st s3 := by
    cases z with
    | false => exact ⟨none, ws, s2, by simp, g2, hl, h1, D2, F2⟩
    | true =>
      obtain ⟨τ', s3, e3, vs, ⟨x5, rfl⟩, g3, lv, v1, D3, F3⟩ := for_inv (q := .fix (rng 0 n)) (set := gN 5) (u := sIf (tBl (eBin oEq (eCall 2 f__law_draw (aCons (eVar 0) (aCons (eC (.int 4)) aNil))) (eC (.int 1)))) (sSub (eVar 4) (eVar 5) (eC (.int 0))) sNil)
        (fun _ τ s => ∃ vs : List Int, (∃ x5, τ = [some (.ref 1), some (.int (n : Nat)), some (.int 12), some (.bl true), some (.ref M), x5]) ∧ lstAt s M = some (vs.map D.int) ∧ vs.length = n ∧ (∀ w ∈ vs, 0 ≤ w ∧ w ≤ 12) ∧ DS ns s ∧ Fr st s) (fun _ _ _ _ => rfl) (rng 0 n) 0 [some (.ref 1), some (.int (n : Nat)), some (.int 12), some (.bl true), some (.ref M), none] s2 ⟨ws, ⟨none, rfl⟩, g2, hl, h1, D2, F2⟩ (by
          intro i d τ s hi hp
          obtain ⟨vs, ⟨x5, rfl⟩, g, lv, v1, Dx, F⟩ := hp
          obtain ⟨hin, rfl⟩ := rngi hi
          obtain ⟨v, sa, ea, aa, ba, Da, Fa⟩ := r_draw (many := 4) Dx (by decide) (by decide)
          have ga : lstAt sa M = some (vs.map D.int) := Fa.lst g (by omega)
          have os := oSet_ref (k := (i : Nat)) (j := i) (v := .int 0) ga (ixN_of (by rw [List.length_map, lv]; exact hin))
          by_cases hv : v = 1
          · refine ⟨[some (.ref 1), some (.int (n : Nat)), some (.int 12), some (.bl true), some (.ref M), some (.int (i : Nat))], rfl, [some (.ref 1), some (.int (n : Nat)), some (.int 12), some (.bl true), some (.ref M), some (.int (i : Nat))], sa.set M (.lst ((vs.map D.int).set i (.int 0))), .inl ?_, vs.set i 0, ⟨_, rfl⟩, by rw [lstAt_set ga, List.map_set], by rw [List.length_set]; exact lv, set_nn v1 (by decide), Da.put2 (by omega) (by omega), (F.trans Fa).put2 stM⟩
            simp [ea, hv, os]
          · exact ⟨[some (.ref 1), some (.int (n : Nat)), some (.int 12), some (.bl true), some (.ref M), some (.int (i : Nat))], rfl, [some (.ref 1), some (.int (n : Nat)), some (.int 12), some (.bl true), some (.ref M), some (.int (i : Nat))], sa, .inl (by simp [ea, hv]), vs, ⟨_, rfl⟩, ga, lv, v1, Da, F.trans Fa⟩)
      exact ⟨x5, vs, s3, by simp [sFor_e, hr, e3], g3, lv, v1, D3, F3⟩
  obtain ⟨us, s4, e4, g4, hu, D4, F4⟩ := fixed (i := 4) (x := 1) (τ := [some (.ref 1), some (.int (n : Nat)), some (.int 12), some (.bl z), some (.ref M), x5]) (fe := eCall 2 f__law_draw (aCons (eVar 0) (aCons (eVar 1) aNil))) (fx := eC (.int 1)) D3 (by omega) g3 lv hn hn2 (fun w hw => (v1 w hw).1) (fun w hw => Int.le_trans (v1 w hw).2 (by decide)) (by decide) (by decide) rfl rfl (by
      obtain ⟨v, sa, ea, aa, ba, Da, Fa⟩ := r_draw (many := (n : Nat)) D3 (by omega) (Nat.lt_of_le_of_lt (log2_le (k := 10) (by omega)) (by decide))
      obtain ⟨k, rfl⟩ : ∃ k : Nat, v = k := ⟨v.toNat, by omega⟩
      exact ⟨k, sa, by simp [ea], by omega, Da, Fa, fun z => rfl⟩)
  refine ⟨us, s4, ?_, hu, D4, F4 _ stM F3⟩
  obtain ⟨R, hR⟩ : ∃ R, R = rng 0 (n : Nat) := ⟨_, rfl⟩
  have lR : R.length ≤ 16777216 := by rw [hR, rng_len]; omega
  have hr : ∀ s, rg1 (.int (n : Nat)) s = .ok (.fix R) s := fun s => by rw [hr, hR]
  rw [← hR] at e1
  unfold f__law_row
  rw [runB_e]
  unfold m__law_row
  simp [-sIf_e, List.replicate, lComp_e, lc1, wipeD, hr, lR, e1, ← hM, ← hs2, e3, e4, fTuple_ref g4]
  rfl
end

section
variable {st : Store} {ws vs us : List Int} {ns : List Int} {n : Nat}
theorem big_pow : (10 : Int) ^ 40 = big := by decide +kernel
theorem sev_pow : (7 : Int) ^ 40 = 6366805760909027985741435139224001 := by decide +kernel
theorem r_first_row (H : DS ns st) (hn : 0 < n) (hn2 : n ≤ 70) : ∃ ws st', f__law_first_row [.ref 1, .int (n : Nat)] st = .ok (itup ws) st' ∧ Rw n ws ∧ DS ns st' ∧ Fr st st' := by
  obtain ⟨v0, s0, e0, a0, b0, D0, F0⟩ := r_draw (many := 8) H (by decide) (by decide)
  unfold f__law_first_row
  rw [runB_e]
  unfold m__law_first_row
  by_cases c : v0 = 3
  · have p1 : okPow 10 40 = true := by decide
    have p2 : okPow 7 40 = true := by decide
    have hr : ∀ s, rg1 (.int (n : Nat)) s = .ok (.fix (rng 0 n)) s := fun s => rg1_int (by omega)
    obtain ⟨ys, s1, e1, ws, rfl, hl, h1, D1, F1⟩ := comp_gen (q := .fix (rng 0 n)) (set := gN 4) (ft := HM.tYes) (fe := eCall 2 f__law_pick (aCons (eVar 0) (aCons (eLst (aCons (eBin oPow (eC (.int 10)) (eC (.int 40))) (aCons (eBin oSub (eBin oPow (eC (.int 10)) (eC (.int 40))) (eC (.int 1))) (aCons (eBin oPow (eC (.int 7)) (eC (.int 40))) (aCons (eC (.int 1)) (aCons (eC (.int 0)) aNil)))))) aNil))) (τ := [some (.ref 1), some (.int (n : Nat)), some (.int v0), none, none])
      (fun k acc s => ∃ ws : List Int, acc = ws.map D.int ∧ ws.length = k ∧ (∀ w ∈ ws, 0 ≤ w ∧ w ≤ big) ∧ DS ns s ∧ Fr s0 s) (fun _ _ _ _ => rfl) (rng 0 n) 0 [] s0 ⟨[], rfl, rfl, by simp, D0, .refl⟩ (by
        intro i d acc s hi hp
        obtain ⟨ws, rfl, hl, h1, Dx, F⟩ := hp
        have l2 := Dx.len
        obtain ⟨x, sa, ea, hx, Da, Fa⟩ := r_pick (st := s ++ [.lst [.int 10000000000000000000000000000000000000000, .int 9999999999999999999999999999999999999999, .int 6366805760909027985741435139224001, .int 1, .int 0]]) (m := s.length) Dx.app lstAt_new (by omega) (by decide) (by decide)
        have : ∃ w : Int, x = .int w ∧ 0 ≤ w ∧ w ≤ big := by
          simp only [List.mem_cons, List.not_mem_nil, or_false] at hx
          rcases hx with rfl | rfl | rfl | rfl | rfl
          · exact ⟨_, rfl, by decide, by decide⟩
          · exact ⟨_, rfl, by decide, by decide⟩
          · exact ⟨_, rfl, by decide, by decide⟩
          · exact ⟨_, rfl, by decide, by decide⟩
          · exact ⟨_, rfl, by decide, by decide⟩
        obtain ⟨w, rfl, w0, w1⟩ := this
        refine ⟨[some (.ref 1), some (.int (n : Nat)), some (.int v0), none, some d], rfl, true, s, rfl, nofun, fun _ => ⟨.int w, sa, by simp [p1, p2, ea], ws ++ [w], by simp, by simp; omega, fun y hy => ?_, Da, (F.trans .app).trans Fa⟩⟩
        rcases List.mem_append.mp hy with h | h
        · exact h1 y h
        · rw [List.mem_singleton.mp h]; exact ⟨w0, w1⟩)
    rw [Nat.zero_add, rng_len] at hl
    obtain ⟨M, hM⟩ : ∃ M, M = s1.length := ⟨_, rfl⟩
    obtain ⟨s2, hs2⟩ : ∃ s2, s2 = s1 ++ [Cell.lst (ws.map D.int)] := ⟨_, rfl⟩
    have l1 := D1.len
    have g2 : lstAt s2 M = some (ws.map D.int) := by rw [hs2, hM]; exact lstAt_new
    have D2 : DS ns s2 := hs2 ▸ D1.app
    have F2 : Fr st s2 := hs2 ▸ (F0.trans F1).trans .app
    obtain ⟨us, s4, e4, g4, hu, D4, F4⟩ := fixed (i := 3) (x := big) (τ := [some (.ref 1), some (.int (n : Nat)), some (.int v0), some (.ref M), none]) (fe := eCall 2 f__law_draw (aCons (eVar 0) (aCons (eVar 1) aNil))) (fx := eBin oPow (eC (.int 10)) (eC (.int 40))) D2 (by omega) g2 hl hn hn2 (fun w hw => (h1 w hw).1) (fun w hw => (h1 w hw).2) (by decide) (by decide) rfl (by simp [p1, big]) (by
      obtain ⟨v, sa, ea, aa, ba, Da, Fa⟩ := r_draw (many := (n : Nat)) D2 (by omega) (Nat.lt_of_le_of_lt (log2_le (k := 10) (by omega)) (by decide))
      obtain ⟨k, rfl⟩ : ∃ k : Nat, v = k := ⟨v.toNat, by omega⟩
      exact ⟨k, sa, by simp [ea], by omega, Da, Fa, fun z => by simp [p1, big]⟩)
    refine ⟨us, s4, ?_, hu, D4, F4 _ (by rw [hM]; exact (F0.trans F1).len) F2⟩
    obtain ⟨R, hR⟩ : ∃ R, R = rng 0 (n : Nat) := ⟨_, rfl⟩
    have lR : R.length ≤ 16777216 := by rw [hR, rng_len]; omega
    have hr : ∀ s, rg1 (.int (n : Nat)) s = .ok (.fix R) s := fun s => by rw [hr, hR]
    rw [← hR] at e1
    subst c
    have t1 : ∀ (X : SM), sIf (tBl (eBin oNe (eVar 2) (eC (.int 3)))) X sNil [some (.ref 1), some (.int (n : Nat)), some (.int 3), none, none] s0 = .nx [some (.ref 1), some (.int (n : Nat)), some (.int 3), none, none] s0 := fun X => by simp
    simp [-sIf_e, List.replicate, e0, t1, lComp_e, lc1, wipeD, hr, lR, e1, ← hM, ← hs2, e4, fTuple_ref g4]
    rfl
  · obtain ⟨ws, s1, e1, hw, D1, F1⟩ := r_row (n := n) (z := decide (v0 < 4)) D0 hn hn2
    exact ⟨ws, s1, by simp [List.replicate, e0, c, e1], hw, D1, F0.trans F1⟩
theorem perm_erase {xs : List Int} {k : Nat} {x : Int} (h : xs[k]? = some x) : (x :: xs.eraseIdx k).Perm xs := by
  induction xs generalizing k with
  | nil => simp at h
  | cons a l ih =>
    cases k with
    | zero =>
      simp at h
      subst h
      simp
    | succ k =>
      have := ih (k := k) (by simpa using h)
      rw [List.eraseIdx_cons_succ]
      exact (List.Perm.swap a x _).trans (this.cons a)
theorem sum_perm {xs ys : List Int} (h : xs.Perm ys) : xs.sum = ys.sum := by
  induction h with
  | nil => rfl
  | cons a _ ih => rw [List.sum_cons, List.sum_cons, ih]
  | swap a b l => rw [List.sum_cons, List.sum_cons, List.sum_cons, List.sum_cons]; omega
  | trans _ _ h1 h2 => rw [h1, h2]
theorem Rw.perm (h : Rw n ws) (p : vs.Perm ws) : Rw n vs := ⟨by rw [p.length_eq, h.len], fun w hw => h.nn w (p.mem_iff.mp hw), fun w hw => h.le w (p.mem_iff.mp hw), by rw [sum_perm p]; exact h.pos⟩
theorem erase_map : ∀ (l : List Int) (k : Nat), (l.map D.int).eraseIdx k = (l.eraseIdx k).map D.int
  | [], _ => rfl
  | _ :: _, 0 => rfl
  | a :: l, k + 1 => by rw [List.map_cons, List.eraseIdx_cons_succ, List.eraseIdx_cons_succ, List.map_cons, erase_map l k]
theorem mPopAt_ref {m k : Nat} {x : D} {xs : List D} (g : lstAt st m = some xs) (hk : k < xs.length) (hx : xs[k]? = some x) (hl : xs.length ≤ 16777216) : mPopAt (.ref m) [.int (k : Nat)] st = .ok x (st.set m (.lst (xs.eraseIdx k))) := by
  have h1 := (ixN_seq (ixN_of hk)).1
  have h2 : okIx ((k : Nat) : Int) = true := decide_eq_true (by omega)
  unfold mPopAt
  simp only [g, h1, hx, h2, if_true]
theorem r_shuffled {m : Nat} (H : DS ns st) (g : lstAt st m = some (ws.map D.int)) (hm : 2 ≤ m) (hn2 : ws.length ≤ 70) : ∃ (vs : List Int) (M : Nat) (st' : Store), f__law_shuffled [.ref 1, .ref m] st = .ok (.ref M) st' ∧ lstAt st' M = some (vs.map D.int) ∧ vs.Perm ws ∧ DS ns st' ∧ Fr st st' := by
  obtain ⟨L, hL⟩ : ∃ L, L = st.length := ⟨_, rfl⟩
  have l0 := H.len
  obtain ⟨s1, hs1⟩ : ∃ s1, s1 = st ++ [Cell.lst (ws.map D.int)] := ⟨_, rfl⟩
  have g1 : lstAt s1 L = some (ws.map D.int) := by rw [hs1, hL]; exact lstAt_new
  have L1 : s1.length = L + 1 := by rw [hs1, hL]; simp
  obtain ⟨s2, hs2⟩ : ∃ s2, s2 = s1 ++ [Cell.lst []] := ⟨_, rfl⟩
  have g2 : lstAt s2 L = some (ws.map D.int) := (hs2 ▸ Gr.app : Gr s1 s2).lst g1
  have g2' : lstAt s2 (L + 1) = some [] := by rw [hs2, ← L1]; exact lstAt_new
  have D2 : DS ns s2 := hs2 ▸ (hs1 ▸ H.app : DS ns s1).app
  have F2 : Fr st s2 := hs2 ▸ (hs1 ▸ Fr.app : Fr st s1).trans .app
  have f : fLen [.ref L] s2 = .ok (.int (ws.length : Nat)) s2 := by rw [fLen_ref g2, List.length_map]
  obtain ⟨n, hn⟩ : ∃ n, n = ws.length := ⟨_, rfl⟩
  rw [← hn] at f
  have hr : ∀ s, rg1 (.int (n : Nat)) s = .ok (.fix (rng 0 n)) s := fun s => rg1_int (by omega)
  obtain ⟨τ', s3, e3, le, fo, ⟨x4, rfl⟩, gl, gf, hp, hle, D3, F3⟩ := for_inv (q := .fix (rng 0 n)) (set := gN 4) (u := sExpr (eM "list" mAppend (eVar 3) (aCons (eM "list" mPopAt (eVar 2) (aCons (eCall 2 f__law_draw (aCons (eVar 0) (aCons (eCB fLen (aCons (eVar 2) aNil)) aNil))) aNil)) aNil)))
    (fun k τ s => ∃ (le fo : List Int), (∃ x4, τ = [some (.ref 1), some (.ref m), some (.ref L), some (.ref (L + 1)), x4]) ∧ lstAt s L = some (le.map D.int) ∧ lstAt s (L + 1) = some (fo.map D.int) ∧ (fo ++ le).Perm ws ∧ le.length + k = n ∧ DS ns s ∧ Fr st s) (fun _ _ _ _ => rfl) (rng 0 n) 0 [some (.ref 1), some (.ref m), some (.ref L), some (.ref (L + 1)), none] s2 ⟨ws, [], ⟨none, rfl⟩, g2, g2', by simp, by omega, D2, F2⟩ (by
      intro i d τ s hi hp
      obtain ⟨le, fo, ⟨x4, rfl⟩, gl, gf, hp, hle, Dx, F⟩ := hp
      obtain ⟨hin, rfl⟩ := rngi hi
      have fl : fLen [.ref L] s = .ok (.int (le.length : Nat)) s := by rw [fLen_ref gl, List.length_map]
      obtain ⟨v, sa, ea, aa, ba, Da, Fa⟩ := r_draw (many := (le.length : Nat)) Dx (by omega) (Nat.lt_of_le_of_lt (log2_le (k := 10) (by omega)) (by decide))
      obtain ⟨k, rfl⟩ : ∃ k : Nat, v = k := ⟨v.toNat, by omega⟩
      have ga : lstAt sa L = some (le.map D.int) := Fa.lst gl (by omega)
      have gb : lstAt sa (L + 1) = some (fo.map D.int) := Fa.lst gf (by omega)
      obtain ⟨y, hy⟩ : ∃ y, le[k]? = some y := ⟨le[k]'(by omega), by simp⟩
      have po := mPopAt_ref (k := k) (x := .int y) ga (by rw [List.length_map]; omega) (by rw [List.getElem?_map, hy]; rfl) (by rw [List.length_map]; omega)
      obtain ⟨sb, hsb⟩ : ∃ sb, sb = sa.set L (.lst ((le.map D.int).eraseIdx k)) := ⟨_, rfl⟩
      rw [← hsb] at po
      have gb2 : lstAt sb (L + 1) = some (fo.map D.int) := by rw [hsb, lstAt_ne (by omega)]; exact gb
      have hlen := hp.length_eq
      rw [List.length_append] at hlen
      have ap := mAppend_ref (x := .int y) gb2 (by rw [List.length_map]; omega)
      have hee : (le.map D.int).eraseIdx k = (le.eraseIdx k).map D.int := erase_map le k
      refine ⟨[some (.ref 1), some (.ref m), some (.ref L), some (.ref (L + 1)), some (.int (i : Nat))], rfl, [some (.ref 1), some (.ref m), some (.ref L), some (.ref (L + 1)), some (.int (i : Nat))], sb.set (L + 1) (.lst (fo.map D.int ++ [.int y])), .inl ?_, le.eraseIdx k, fo ++ [y], ⟨_, rfl⟩, ?_, ?_, ?_, ?_, ?_, ?_⟩
      · simp [okT_ref gf, okT_ref gl, fl, ea, po, ap]
      · rw [lstAt_ne (by omega), hsb, lstAt_set ga, hee]
      · rw [lstAt_set gb2, List.map_append]; rfl
      · rw [List.append_assoc]
        exact ((perm_erase hy).append_left fo).trans hp
      · rw [List.length_eraseIdx, if_pos (by omega)]; omega
      · exact (hsb ▸ Da.put2 (by omega) (by omega) : DS ns sb).put2 (by omega) (by omega)
      · exact (hsb ▸ (F.trans Fa).put2 (by omega) : Fr st sb).put2 (by omega))
  rw [Nat.zero_add, rng_len] at hle
  have : le = [] := List.length_eq_zero_iff.mp (by omega)
  subst this
  rw [List.append_nil] at hp
  refine ⟨fo, L + 1, s3, ?_, gf, hp, D3, F3⟩
  obtain ⟨R, hR⟩ : ∃ R, R = rng 0 (n : Nat) := ⟨_, rfl⟩
  have hr : ∀ s, rg1 (.int (n : Nat)) s = .ok (.fix R) s := fun s => by rw [hr, hR]
  rw [← hR] at e3
  have c1 := fList_ref g
  rw [← hL, ← hs1] at c1
  unfold f__law_shuffled
  rw [runB_e]
  unfold m__law_shuffled
  simp [List.replicate, c1, L1, ← hs2, f, sFor_e, hr, e3]
end

section
variable {st : Store} {ws vs us : List Int} {ns : List Int} {n : Nat}
theorem _root_.K27.Wt.lt' {B : Nat} {xs : List Int} (h : Wt B xs) {x : Int} (hx : x ∈ xs) : x.natAbs < 2 ^ B := by
  have := sum_ge h.nn hx
  have := h.nn x hx
  have := h.bd
  omega
theorem oMul_ok {a b : Int} (ha : a.natAbs < 2 ^ 140) (hb : b.natAbs < 2 ^ 140) : okMul a b = true := okMul_of ha hb (by decide)
theorem r_other_row (H : DS ns st) (hw : Rw n ws) (hn : 0 < n) (hn2 : n ≤ 70) : ∃ us st', f__law_other_row [.ref 1, itup ws] st = .ok (itup us) st' ∧ Rw n us ∧ DS ns st' ∧ Fr st st' := by
  have f : ∀ s, fLen [itup ws] s = .ok (.int (n : Nat)) s := fun s => by unfold itup; rw [fLen_tup, List.length_map, hw.len]
  obtain ⟨v0, s0, e0, a0, b0, D0, F0⟩ := r_draw (many := 7) H (by decide) (by decide)
  have wne : ws ≠ [] := List.length_pos_iff.mp (by rw [hw.len]; exact hn)
  obtain ⟨k, ek, km, kle⟩ := gMax_of wne
  have ek := ek s0
  have oq : ∀ s, oSeq (itup ws) s = .ok (ws.map D.int) s := fun s => rfl
  have dq : ∀ s, dSq s (itup ws) = some (.fix (ws.map D.int)) := fun s => rfl
  have fl : ∀ s, fList [itup ws] s = .ok (.ref s.length) (s ++ [.lst (ws.map D.int)]) := fun s => fList_tup
  have lW : (ws.map D.int).length ≤ 16777216 := by rw [List.length_map, hw.len]; omega
  obtain ⟨W, hW⟩ : ∃ W, W = ws.map D.int := ⟨_, rfl⟩
  rw [← hW] at ek lW
  simp only [← hW] at oq dq fl
  have first : (1000 < k ∨ v0 = 0) → ∃ us st', f__law_other_row [.ref 1, itup ws] st = .ok (itup us) st' ∧ Rw n us ∧ DS ns st' ∧ Fr st st' := fun hc => by
    obtain ⟨v1, s1, e1, a1, b1, D1, F1⟩ := r_draw (many := 2) D0 (by decide) (by decide)
    by_cases c : v1 = 1
    · have g1 : lstAt (s1 ++ [.lst W]) s1.length = some (ws.map D.int) := by rw [← hW]; exact lstAt_new
      obtain ⟨vs, M, s2, e2, g2, hp, D2, F2⟩ := r_shuffled (st := s1 ++ [.lst W]) D1.app g1 D1.len (by rw [hw.len]; exact hn2)
      refine ⟨vs, s2, ?_, hw.perm hp, D2, ((F0.trans F1).trans .app).trans F2⟩
      unfold f__law_other_row
      rw [runB_e]
      unfold m__law_other_row
      by_cases h1 : 1000 < k
      · simp [List.replicate, f, e0, oq, ek, h1, e1, c, fl, e2, fTuple_ref g2]
        rfl
      · have h2 : v0 = 0 := by omega
        simp [List.replicate, f, e0, oq, ek, h1, h2, e1, c, fl, e2, fTuple_ref g2]
        rfl
    · obtain ⟨us, s2, e2, hu, D2, F2⟩ := r_row (n := n) (z := true) D1 hn hn2
      refine ⟨us, s2, ?_, hu, D2, (F0.trans F1).trans F2⟩
      unfold f__law_other_row
      rw [runB_e]
      unfold m__law_other_row
      by_cases h1 : 1000 < k
      · simp [List.replicate, f, e0, oq, ek, h1, e1, c, e2]
      · have h2 : v0 = 0 := by omega
        simp [List.replicate, f, e0, oq, ek, h1, h2, e1, c, e2]
  by_cases hc : 1000 < k ∨ v0 = 0
  · exact first hc
  have h1 : ¬ 1000 < k := by omega
  have h2 : ¬ v0 = 0 := by omega
  have wk : ∀ w ∈ ws, w ≤ 1000 := fun w hw' => by have := kle w hw'; omega
  by_cases c1 : v0 = 1
  · obtain ⟨v1, s1, e1, a1, b1, D1, F1⟩ := r_draw (many := 9) D0 (by decide) (by decide)
    obtain ⟨F, hF⟩ : ∃ F : Int, F = 1 + v1 := ⟨_, rfl⟩
    have c := comp_map (q := .fix (ws.map D.int)) (set := gN 7) (fe := eBin oMul (eVar 7) (eVar 4)) (τ := [some (.ref 1), some (itup ws), some (.int (n : Nat)), some (.int 1), some (.int F), none, none, none]) (st := s1) rfl D.int (fun w => .int (w * F)) ws [] (fun w hw' => by
      have o : okMul w F = true := okMul_r (by omega)
      exact ⟨[some (.ref 1), some (itup ws), some (.int (n : Nat)), some (.int 1), some (.int F), none, none, some (.int w)], rfl, by simp [o]⟩)
    rw [List.nil_append, show (ws.map fun w => D.int (w * F)) = (ws.map (· * F)).map D.int by rw [List.map_map]; rfl, ← hW] at c
    have sm : ∀ l : List Int, (l.map (· * F)).sum = l.sum * F := fun l => by
      induction l with
      | nil => simp
      | cons a l ih => rw [List.map_cons, List.sum_cons, List.sum_cons, ih, Int.add_mul]
    refine ⟨ws.map (· * F), s1, ?_, ⟨by rw [List.length_map]; exact hw.len, fun x hx => ?_, fun x hx => ?_, ?_⟩, D1, F0.trans F1⟩
    · obtain ⟨Y, hY⟩ : ∃ Y, Y = (ws.map (· * F)).map D.int := ⟨_, rfl⟩
      have eY : itup (ws.map (· * F)) = .tup Y := by rw [hY]; rfl
      rw [← hY] at c
      rw [eY]
      unfold f__law_other_row
      rw [runB_e]
      unfold m__law_other_row
      simp [List.replicate, f, e0, oq, ek, h1, c1, e1, ← hF, lComp_e, lc1, wipeD, dq, lW, c]
    · obtain ⟨w, hw', rfl⟩ := List.mem_map.mp hx
      exact Int.mul_nonneg (hw.nn w hw') (by omega)
    · obtain ⟨w, hw', rfl⟩ := List.mem_map.mp hx
      have a := hw.nn w hw'
      have b := wk w hw'
      have : w * F ≤ 1000 * 9 := Int.mul_le_mul b (by omega) (by omega) (by omega)
      exact Int.le_trans this (by decide)
    · rw [sm]
      exact Int.mul_pos hw.pos (by omega)
  by_cases c2 : 3 < v0
  · obtain ⟨us, s1, e1, hu, D1, F1⟩ := r_row (n := n) (z := decide (v0 = 4)) D0 hn hn2
    refine ⟨us, s1, ?_, hu, D1, F0.trans F1⟩
    unfold f__law_other_row
    rw [runB_e]
    unfold m__law_other_row
    simp [List.replicate, f, e0, oq, ek, h1, h2, c1, c2, e1]
  obtain ⟨M, hM⟩ : ∃ M, M = s0.length := ⟨_, rfl⟩
  have l0 := D0.len
  obtain ⟨v1, s1, e1, a1, b1, D1, F1⟩ := r_draw (st := s0 ++ [.lst W]) (many := (n : Nat)) D0.app (by omega) (Nat.lt_of_le_of_lt (log2_le (k := 10) (by omega)) (by decide))
  obtain ⟨j, rfl⟩ : ∃ j : Nat, v1 = j := ⟨v1.toNat, by omega⟩
  have hj : j < n := by omega
  have g1 : lstAt s1 M = some (ws.map D.int) := by rw [← hW]; exact F1.lst (by rw [hM]; exact lstAt_new) (by omega)
  obtain ⟨w, hwj⟩ : ∃ w, ws[j]? = some w := ⟨ws[j]'(by rw [hw.len]; exact hj), by simp⟩
  have hwm := List.mem_of_getElem? hwj
  have ia : atI (ws.map D.int) (j : Nat) = some (.int w) := atI_nat (by rw [List.getElem?_map, hwj]; rfl)
  obtain ⟨X, hX⟩ : ∃ X : Int, X = if v0 = 2 then w + 1 else 0 := ⟨_, rfl⟩
  have X0 : 0 ≤ X ∧ X ≤ big := by
    have := hw.nn w hwm
    have := wk w hwm
    have : (1001 : Int) ≤ big := by decide
    rw [hX]
    split <;> omega
  have eX : (eIf (tBl (eBin oEq (eVar 3) (eC (.int 2)))) (eBin oAdd (eBin oIx (eVar 5) (eVar 6)) (eC (.int 1))) (eC (.int 0))) [some (.ref 1), some (itup ws), some (.int (n : Nat)), some (.int v0), none, some (.ref M), some (.int (j : Nat)), none] s1 = .ok (.int X) s1 := by
    rw [hX]
    by_cases h : v0 = 2
    · rw [← hW] at g1 ia
      simp [h, oIx_ref g1, ia]
    · simp [h]
  have os := oSet_ref (k := (j : Nat)) (j := j) (v := .int X) g1 (ixN_of (by rw [List.length_map, hw.len]; exact hj))
  obtain ⟨s2, hs2⟩ : ∃ s2, s2 = s1.set M (.lst ((ws.map D.int).set j (.int X))) := ⟨_, rfl⟩
  rw [← hs2] at os
  have g2 : lstAt s2 M = some ((ws.set j X).map D.int) := by rw [hs2, lstAt_set g1, List.map_set]
  have D2 : DS ns s2 := hs2 ▸ D1.put2 (by omega) (by omega)
  have F2 : Fr st s2 := hs2 ▸ ((F0.trans .app).trans F1).put2 (by rw [hM]; exact F0.len)
  obtain ⟨us, s4, e4, g4, hu, D4, F4⟩ := fixed (n := n) (i := 5) (x := 1) (τ := [some (.ref 1), some (itup ws), some (.int (n : Nat)), some (.int v0), none, some (.ref M), some (.int (j : Nat)), none]) (fe := eVar 6) (fx := eC (.int 1)) D2 (by omega) g2 (by rw [List.length_set]; exact hw.len) hn hn2 (set_nn hw.nn X0.1) (set_nn hw.le X0.2) (by decide) (by decide) rfl rfl ⟨j, s2, by simp, hj, D2, .refl, fun z => rfl⟩
  refine ⟨us, s4, ?_, hu, D4, F4 _ (by rw [hM]; exact F0.len) F2⟩
  have t1 : ∀ (X : SM), sIf (HM.tOr (tBl (eBin oGt (eCS gMax (sEx (eVar 1))) (eC (.int 1000)))) (tBl (eBin oEq (eVar 3) (eC (.int 0))))) X sNil [some (.ref 1), some (itup ws), some (.int (n : Nat)), some (.int v0), none, none, none, none] s0 = .nx [some (.ref 1), some (itup ws), some (.int (n : Nat)), some (.int v0), none, none, none, none] s0 := fun X => by simp [oq, ek, h1, h2]
  have t2 : ∀ (X : SM), sIf (tBl (eBin oEq (eVar 3) (eC (.int 1)))) X sNil [some (.ref 1), some (itup ws), some (.int (n : Nat)), some (.int v0), none, none, none, none] s0 = .nx [some (.ref 1), some (itup ws), some (.int (n : Nat)), some (.int v0), none, none, none, none] s0 := fun X => by simp [c1]
  have t3 : ∀ (X : SM), sIf (tBl (eBin oGt (eVar 3) (eC (.int 3)))) X sNil [some (.ref 1), some (itup ws), some (.int (n : Nat)), some (.int v0), none, none, none, none] s0 = .nx [some (.ref 1), some (itup ws), some (.int (n : Nat)), some (.int v0), none, none, none, none] s0 := fun X => by simp [c2]
  unfold f__law_other_row
  rw [runB_e]
  unfold m__law_other_row
  simp [-sIf_e, -eIf_e, List.replicate, f, e0, t1, t2, t3, fl, ← hM, e1, eX, os, e4, fTuple_ref g4]
  rfl
end

section
variable {st : Store} {ws vs us : List Int} {ns : List Int} {n M : Nat}
def nats (l : List Nat) : List D := l.map fun k => D.int (k : Nat)
/-- the sets: the list at M holds refs to lists of places -/
structure Sets (ns : List Int) (n M : Nat) (s : Store) (ps : List (Nat × List Nat)) : Prop where
  g : lstAt s M = some (ps.map fun p => D.ref p.1)
  at' : ∀ p ∈ ps, lstAt s p.1 = some (nats p.2) ∧ p.1 ≠ M ∧ 2 ≤ p.1
  lt : ∀ p ∈ ps, (∀ a ∈ p.2, a < n) ∧ p.2.length ≤ 70
  one : ∀ i, i < n → ∃ r, ps[i]? = some (r, [i])
  ds : DS ns s
  m2 : 2 ≤ M
theorem Sets.fr {s s' : Store} {ps : List (Nat × List Nat)} (h : Sets ns n M s ps) (F : Fr s s') (Dx : DS ns s') : Sets ns n M s' ps :=
  ⟨F.lst h.g (by have := h.m2; omega), fun p hp => by
    obtain ⟨a, b, c⟩ := h.at' p hp
    exact ⟨F.lst a (by omega), b, c⟩, h.lt, h.one, Dx, h.m2⟩
theorem sets_step {s : Store} {ps : List (Nat × List Nat)} {x3 x4 x5 : Option D} {TEST : EM Bool} (h : Sets ns n M s ps) (hn : n ≤ 70) (hps : ps.length < 1000)
    (ht : ∀ (a : Nat) (s : Store), DS ns s → ∃ b s', TEST [some (.ref 1), some (.int (n : Nat)), some (.ref M), x3, x4, some (.int (a : Nat))] s = .ok b s' ∧ DS ns s' ∧ Fr s s') :
    ∃ r c s', sExpr (eM "list" mAppend (eVar 2) (aCons (eEl (lComp [5] (iRg1 (eVar 1)) (gN 5) TEST (eVar 5))) aNil)) [some (.ref 1), some (.int (n : Nat)), some (.ref M), x3, x4, x5] s = .nx [some (.ref 1), some (.int (n : Nat)), some (.ref M), x3, x4, x5] s' ∧ Sets ns n M s' (ps ++ [(r, c)]) ∧ ∀ a : Store, a.length ≤ M → Fr a s → Fr a s' := by
  have hr : ∀ s, rg1 (.int (n : Nat)) s = .ok (.fix (rng 0 n)) s := fun s => rg1_int (by omega)
  obtain ⟨ys, s1, e1, c, rfl, hc, lc, D1, F1⟩ := comp_gen (q := .fix (rng 0 n)) (set := gN 5) (ft := TEST) (fe := eVar 5) (τ := [some (.ref 1), some (.int (n : Nat)), some (.ref M), x3, x4, none])
    (fun k acc t => ∃ c : List Nat, acc = nats c ∧ (∀ a ∈ c, a < n) ∧ c.length ≤ k ∧ DS ns t ∧ Fr s t) (fun _ _ _ _ => rfl) (rng 0 n) 0 [] s ⟨[], rfl, by simp, Nat.le_refl _, h.ds, .refl⟩ (by
      intro i d acc t hi hp
      obtain ⟨c, rfl, hc, lc, Dx, F⟩ := hp
      obtain ⟨hin, rfl⟩ := rngi hi
      obtain ⟨b, t', e, D', F'⟩ := ht i t Dx
      refine ⟨[some (.ref 1), some (.int (n : Nat)), some (.ref M), x3, x4, some (.int (i : Nat))], rfl, b, t', e, fun _ => ⟨c, rfl, hc, by omega, D', F.trans F'⟩, fun _ => ⟨.int (i : Nat), t', by simp, c ++ [i], by simp [nats], fun a ha => ?_, by simp; omega, D', F.trans F'⟩⟩
      rcases List.mem_append.mp ha with h | h
      · exact hc a h
      · rw [List.mem_singleton.mp h]; exact hin)
  rw [Nat.zero_add, rng_len] at lc
  obtain ⟨s2, hs2⟩ : ∃ s2, s2 = s1 ++ [Cell.lst (nats c)] := ⟨_, rfl⟩
  have F2 : Fr s s2 := hs2 ▸ F1.trans .app
  have h2 : Sets ns n M s2 ps := h.fr F2 (hs2 ▸ D1.app)
  obtain ⟨r, hr'⟩ : ∃ r, r = s1.length := ⟨_, rfl⟩
  have gr : lstAt s2 r = some (nats c) := by rw [hs2, hr']; exact lstAt_new
  have Ms : M < s.length := lstAt_lt h.g
  have rM : r ≠ M := by have := F1.len; omega
  have ap := mAppend_ref (x := .ref r) h2.g (by rw [List.length_map]; omega)
  have ok1 : okT "list" s (.ref M) = true := okT_ref h.g
  refine ⟨r, c, s2.set M (.lst ((ps.map fun p => D.ref p.1) ++ [.ref r])), ?_, ⟨by rw [lstAt_set h2.g]; simp, fun p hp => ?_, fun p hp => ?_, fun i hi => ?_, h2.ds.put2 (by have := h.m2; omega) (by have := h.m2; omega), h.m2⟩, fun a ha F => (F.trans F2).put2 ha⟩
  · obtain ⟨R, hR⟩ : ∃ R, R = rng 0 (n : Nat) := ⟨_, rfl⟩
    have lR : R.length ≤ 16777216 := by rw [hR, rng_len]; omega
    have hr : ∀ s, rg1 (.int (n : Nat)) s = .ok (.fix R) s := fun s => by rw [hr, hR]
    rw [← hR] at e1
    simp [lComp_e, lc1, wipeD, ok1, hr, lR, e1, ← hr', ← hs2, ap]
  · rcases List.mem_append.mp hp with hp | hp
    · obtain ⟨a, b, d⟩ := h2.at' p hp
      exact ⟨by rw [lstAt_ne b]; exact a, b, d⟩
    · rw [List.mem_singleton.mp hp]
      exact ⟨by rw [lstAt_ne rM]; exact gr, rM, by have := D1.len; show 2 ≤ r; omega⟩
  · rcases List.mem_append.mp hp with hp | hp
    · exact h.lt p hp
    · rw [List.mem_singleton.mp hp]
      exact ⟨hc, by show c.length ≤ 70; omega⟩
  · obtain ⟨r', e⟩ := h.one i hi
    exact ⟨r', by rw [List.getElem?_append_left (List.getElem?_eq_some_iff.mp e).1]; exact e⟩
theorem r_sets (H : DS ns st) (hn : 0 < n) (hn2 : n ≤ 70) : ∃ M ps st', f__law_sets [.ref 1, .int (n : Nat)] st = .ok (.ref M) st' ∧ Sets ns n M st' ps ∧ ps.length ≤ 200 ∧ Fr st st' := by
  have hr : ∀ s, rg1 (.int (n : Nat)) s = .ok (.fix (rng 0 n)) s := fun s => rg1_int (by omega)
  have l0 := H.len
  obtain ⟨ys, s1, e1, ps, rfl, lp, hat, hone, G1⟩ := comp_gen (q := .fix (rng 0 n)) (set := gN 5) (ft := HM.tYes) (fe := eLst (aCons (eVar 5) aNil)) (τ := [some (.ref 1), some (.int (n : Nat)), none, none, none, none])
    (fun k acc s => ∃ ps : List (Nat × List Nat), acc = ps.map (fun p => D.ref p.1) ∧ ps.length = k ∧ (∀ p ∈ ps, lstAt s p.1 = some (nats p.2) ∧ 2 ≤ p.1 ∧ (∀ a ∈ p.2, a < n) ∧ p.2.length ≤ 70) ∧ (∀ i, i < k → ∃ r, ps[i]? = some (r, [i])) ∧ Gr st s) (fun _ _ _ _ => rfl) (rng 0 n) 0 [] st ⟨[], rfl, rfl, by simp, fun i hi => absurd hi (Nat.not_lt_zero _), .refl⟩ (by
      intro i d acc s hi hp
      obtain ⟨ps, rfl, lp, hat, hone, G⟩ := hp
      obtain ⟨hin, rfl⟩ := rngi hi
      refine ⟨[some (.ref 1), some (.int (n : Nat)), none, none, none, some (.int (i : Nat))], rfl, true, s, rfl, nofun, fun _ => ⟨.ref s.length, s ++ [.lst [.int (i : Nat)]], by simp, ps ++ [(s.length, [i])], by simp, by simp; omega, fun p hp => ?_, fun j hj => ?_, G.trans .app⟩⟩
      · rcases List.mem_append.mp hp with hp | hp
        · obtain ⟨a, b, c, d⟩ := hat p hp
          exact ⟨(Gr.app (c := Cell.lst [.int (i : Nat)])).lst a, b, c, d⟩
        · rw [List.mem_singleton.mp hp]
          refine ⟨lstAt_new, by have := G.len; show 2 ≤ s.length; omega, fun a ha => ?_, by show [i].length ≤ 70; simp⟩
          rw [List.mem_singleton.mp ha]
          exact hin
      · by_cases hji : j < ps.length
        · obtain ⟨r, e⟩ := hone j (by omega)
          exact ⟨r, by rw [List.getElem?_append_left hji]; exact e⟩
        · have : j = i := by omega
          subst this
          exact ⟨s.length, by rw [List.getElem?_append_right (by omega), show j - ps.length = 0 by omega]; rfl⟩)
  rw [Nat.zero_add, rng_len] at lp hone
  obtain ⟨M, hM⟩ : ∃ M, M = s1.length := ⟨_, rfl⟩
  obtain ⟨s2, hs2⟩ : ∃ s2, s2 = s1 ++ [Cell.lst (ps.map fun p => D.ref p.1)] := ⟨_, rfl⟩
  have G2 : Gr s1 s2 := hs2 ▸ .app
  have S2 : Sets ns n M s2 ps := ⟨by rw [hs2, hM]; exact lstAt_new, fun p hp => by
    obtain ⟨a, b, c, d⟩ := hat p hp
    exact ⟨G2.lst a, by have := lstAt_lt a; omega, b⟩, fun p hp => ⟨(hat p hp).2.2.1, (hat p hp).2.2.2⟩, hone, (G1.trans G2).ds H, by have := G1.len; omega⟩
  have stM : st.length ≤ M := by have := G1.len; omega
  obtain ⟨R, hR⟩ : ∃ R, R = rng 0 (n : Nat) := ⟨_, rfl⟩
  have lR : R.length ≤ 16777216 := by rw [hR, rng_len]; omega
  have hr2 : ∀ s, rg1 (.int (n : Nat)) s = .ok (.fix R) s := fun s => by rw [hr, hR]
  rw [← hR] at e1
  by_cases hbig : (6 : Int) < (n : Nat)
  · have hr6 : ∀ s, rg1 (.int 6) s = .ok (.fix (rng 0 6)) s := fun s => rg1_int (by decide)
    obtain ⟨τ', s3, e3, qs, ⟨x3, x5, rfl⟩, S3, lq, F3⟩ := for_inv (q := .fix (rng 0 ((6 : Nat) : Int))) (set := gN 3) (u := sExpr (eM "list" mAppend (eVar 2) (aCons (eEl (lComp [5] (iRg1 (eVar 1)) (gN 5) (tBl (eBin oEq (eCall 2 f__law_draw (aCons (eVar 0) (aCons (eC (.int 2)) aNil))) (eC (.int 1)))) (eVar 5))) aNil)))
      (fun k τ s => ∃ qs, (∃ x3 x5, τ = [some (.ref 1), some (.int (n : Nat)), some (.ref M), x3, none, x5]) ∧ Sets ns n M s qs ∧ qs.length ≤ 70 + k ∧ Fr st s) (fun _ _ _ _ => rfl) (rng 0 ((6 : Nat) : Int)) 0 [some (.ref 1), some (.int (n : Nat)), some (.ref M), none, none, none] s2 ⟨ps, ⟨none, none, rfl⟩, S2, by omega, (G1.trans G2).fr⟩ (by
        intro i d τ s hi hp
        obtain ⟨qs, ⟨x3, x5, rfl⟩, S, lq, F⟩ := hp
        have hi6 : i < 6 := by
          have := (List.getElem?_eq_some_iff.mp hi).1
          rwa [rng_len] at this
        obtain ⟨r, c, s', e, S', F'⟩ := sets_step (x3 := some d) (x4 := none) (x5 := x5) (TEST := tBl (eBin oEq (eCall 2 f__law_draw (aCons (eVar 0) (aCons (eC (.int 2)) aNil))) (eC (.int 1)))) S hn2 (by omega) (fun a t Dt => by
          obtain ⟨v, t', et, _, _, D', F'⟩ := r_draw (many := 2) Dt (by decide) (by decide)
          exact ⟨decide (v = 1), t', by simp [et], D', F'⟩)
        exact ⟨[some (.ref 1), some (.int (n : Nat)), some (.ref M), some d, none, x5], rfl, _, s', .inl e, _, ⟨_, _, rfl⟩, S', by simp; omega, F' _ stM F⟩)
    rw [rng_len] at lq
    refine ⟨M, qs, s3, ?_, S3, by omega, F3⟩
    unfold f__law_sets
    rw [runB_e]
    unfold m__law_sets
    simp [List.replicate, lComp_e, lc1, wipeD, hr2, lR, e1, ← hM, ← hs2, hbig, sFor_e, hr6]
    have e3 : forL (.fix (rng 0 6)) (gN 3) (sExpr (eM "list" mAppend (eVar 2) (aCons (eEl (lComp [5] (iRg1 (eVar 1)) (gN 5) (tBl (eBin oEq (eCall 2 f__law_draw (aCons (eVar 0) (aCons (eC (.int 2)) aNil))) (eC (.int 1)))) (eVar 5))) aNil))) (rng 0 6) [some (.ref 1), some (.int (n : Nat)), some (.ref M), none, none, none] s2 = _ := e3
    rw [e3]
    simp
  · obtain ⟨K, hK⟩ : ∃ K : Nat, ((K : Nat) : Int) = 2 ^ n ∧ K ≤ 64 := by
      refine ⟨2 ^ n, by simp, ?_⟩
      exact Nat.le_trans (Nat.pow_le_pow_right (by decide) (show n ≤ 6 by omega)) (by decide)
    have hrK : ∀ s, rg1 (.int (K : Nat)) s = .ok (.fix (rng 0 (K : Nat))) s := fun s => rg1_int (by omega)
    obtain ⟨τ', s3, e3, qs, ⟨x4, x5, rfl⟩, S3, lq, F3⟩ := for_inv (q := .fix (rng 0 (K : Nat))) (set := gN 4) (u := sExpr (eM "list" mAppend (eVar 2) (aCons (eEl (lComp [5] (iRg1 (eVar 1)) (gN 5) (tBl (eBin oEq (eBin oAnd (eBin oShr (eVar 4) (eVar 5)) (eC (.int 1))) (eC (.int 1)))) (eVar 5))) aNil)))
      (fun k τ s => ∃ qs, (∃ x4 x5, τ = [some (.ref 1), some (.int (n : Nat)), some (.ref M), none, x4, x5]) ∧ Sets ns n M s qs ∧ qs.length ≤ 70 + k ∧ Fr st s) (fun _ _ _ _ => rfl) (rng 0 (K : Nat)) 0 [some (.ref 1), some (.int (n : Nat)), some (.ref M), none, none, none] s2 ⟨ps, ⟨none, none, rfl⟩, S2, by omega, (G1.trans G2).fr⟩ (by
        intro i d τ s hi hp
        obtain ⟨qs, ⟨x4, x5, rfl⟩, S, lq, F⟩ := hp
        obtain ⟨hiK, rfl⟩ := rngi hi
        obtain ⟨r, c, s', e, S', F'⟩ := sets_step (x3 := none) (x4 := some (.int (i : Nat))) (x5 := x5) (TEST := tBl (eBin oEq (eBin oAnd (eBin oShr (eVar 4) (eVar 5)) (eC (.int 1))) (eC (.int 1)))) S hn2 (by omega) (fun a t Dt => by
          have sh : okShr (i : Nat) (a : Nat) = true := decide_eq_true (by omega)
          refine ⟨_, t, by simp [sh]; rfl, Dt, .refl⟩)
        exact ⟨[some (.ref 1), some (.int (n : Nat)), some (.ref M), none, some (.int (i : Nat)), x5], rfl, _, s', .inl e, _, ⟨_, _, rfl⟩, S', by simp; omega, F' _ stM F⟩)
    rw [rng_len] at lq
    refine ⟨M, qs, s3, ?_, S3, by omega, F3⟩
    have pk : okPow 1 (n : Nat) = true := by simp [okPow]; omega
    unfold f__law_sets
    rw [runB_e]
    unfold m__law_sets
    simp [List.replicate, lComp_e, lc1, wipeD, hr2, lR, e1, ← hM, ← hs2, hbig, sFor_e, pk]
    rw [← hK.1]
    simp [hrK, e3]
end

section
variable {st : Store} {ws vs us : List Int} {ns : List Int} {n M : Nat}
/-- a pair of rows and what is known of it -/
structure Two (n : Nat) (ws vs : List Int) : Prop where
  w : Rw n ws
  v : Rw n vs
  n0 : 0 < n
  n70 : n ≤ 70
theorem Two.pp (h : Two n ws vs) : PP (prw ws vs) := prw_pp (h.w.wt h.n70) (h.v.wt h.n70) (by rw [h.w.len, h.v.len])
theorem prw_at (hl : ws.length = vs.length) {i : Nat} {w v : Int} (h1 : ws[i]? = some w) (h2 : vs[i]? = some v) : (ch ws w, ch vs v) ∈ prw ws vs :=
  zip_idx (i := i) (by rw [List.getElem?_map, h1]; rfl) (by rw [List.getElem?_map, h2]; rfl)
theorem prw_idx {p : Rat × Rat} (h : p ∈ prw ws vs) : ∃ (i : Nat) (w v : Int), ws[i]? = some w ∧ vs[i]? = some v ∧ p = (ch ws w, ch vs v) := by
  obtain ⟨i, h1, h2⟩ := mem_zip_idx h
  rw [List.getElem?_map] at h1 h2
  cases hw : ws[i]? with
  | none => rw [hw] at h1; cases h1
  | some w =>
    cases hv : vs[i]? with
    | none => rw [hv] at h2; cases h2
    | some v =>
      rw [hw] at h1
      rw [hv] at h2
      have a := Option.some.inj h1
      have b := Option.some.inj h2
      exact ⟨i, w, v, hw, hv, by rw [a, b]⟩
theorem ch_eq {w : Int} : ch ws w * (ws.sum : Int) = w ∨ ws.sum = 0 := by
  by_cases h : ws.sum = 0
  · exact .inr h
  · left
    unfold ch
    rw [Rat.divInt_eq_div]
    exact Rat.div_mul_cancel fun e => h (Rat.intCast_eq_zero_iff.mp e)
theorem Rw.ch (h : Rw n ws) (w : Int) : ch ws w * (ws.sum : Int) = w := by
  rcases ch_eq (ws := ws) (w := w) with e | e
  · exact e
  · have := h.pos; omega
theorem Rw.sq (h : Rw n ws) : (0 : Rat) < (ws.sum : Int) := Rat.intCast_pos.mpr h.pos
/-- a loss by whole numbers -/
theorem two_some (h : Two n ws vs) {L : Rat} (hL : lss (prw ws vs) = some L) :
    (∀ (i : Nat) (w v : Int), ws[i]? = some w → vs[i]? = some v → ((w * vs.sum : Int) : Rat) ≤ L * ((v * ws.sum : Int) : Rat)) ∧ ∃ (i : Nat) (w v : Int), i < n ∧ ws[i]? = some w ∧ vs[i]? = some v ∧ 0 < w ∧ ((w * vs.sum : Int) : Rat) = L * ((v * ws.sum : Int) : Rat) := by
  have isl := lss_isL (prw ws vs)
  rw [hL] at isl
  obtain ⟨le, p, hp, p0, pe⟩ := isL_hit h.pp isl
  have S := h.w.sq
  have T := h.v.sq
  have ST := Rat.mul_pos S T
  have hl : ws.length = vs.length := by rw [h.w.len, h.v.len]
  refine ⟨fun i w v h1 h2 => ?_, ?_⟩
  · have := Rat.mul_le_mul_of_nonneg_right (le _ (prw_at hl h1 h2)) (Rat.le_of_lt ST)
    have e1 := h.w.ch w
    have e2 := h.v.ch v
    have a : ch ws w * ((ws.sum : Int) * (vs.sum : Int) : Rat) = ((w * vs.sum : Int) : Rat) := by
      rw [Rat.intCast_mul, ← Rat.mul_assoc, e1]
    have b : L * ch vs v * ((ws.sum : Int) * (vs.sum : Int) : Rat) = L * ((v * ws.sum : Int) : Rat) := by
      rw [Rat.intCast_mul]
      conv => rhs; rw [← e2]
      grind
    rw [a, b] at this
    exact this
  · obtain ⟨i, w, v, h1, h2, rfl⟩ := prw_idx hp
    have hi : i < n := by have := (List.getElem?_eq_some_iff.mp h1).1; rw [h.w.len] at this; exact this
    refine ⟨i, w, v, hi, h1, h2, ?_, ?_⟩
    · have p0 : 0 < ch ws w := p0
      unfold ch at p0
      rwa [divInt_pos h.w.pos] at p0
    · have e1 := h.w.ch w
      have e2 := h.v.ch v
      have pe : ch ws w = L * ch vs v := pe
      rw [Rat.intCast_mul, Rat.intCast_mul]
      conv => lhs; rw [← e1]
      conv => rhs; rw [← e2]
      rw [pe]
      grind
theorem two_none (h : Two n ws vs) (hL : lss (prw ws vs) = none) : ∃ (i : Nat) (w : Int), i < n ∧ ws[i]? = some w ∧ vs[i]? = some 0 ∧ 0 < w := by
  have isl := lss_isL (prw ws vs)
  rw [hL] at isl
  obtain ⟨p, hp, p0, q0⟩ := isl
  obtain ⟨i, w, v, h1, h2, rfl⟩ := prw_idx hp
  have hi : i < n := by have := (List.getElem?_eq_some_iff.mp h1).1; rw [h.w.len] at this; exact this
  have p0 : 0 < ch ws w := p0
  have q0 : ch vs v = 0 := q0
  unfold ch at p0 q0
  rw [divInt_pos h.w.pos] at p0
  rw [divInt_zero h.v.pos] at q0
  exact ⟨i, w, hi, h1, by rw [h2, q0], p0⟩
/-- equal chances -/
def eqs (ws vs : List Int) : Bool := (List.zip ws vs).all fun p => decide (p.1 * vs.sum = p.2 * ws.sum)
theorem two_one (h : Two n ws vs) : (lss (prw ws vs) = some 1) = (eqs ws vs = true) := by
  have S := Rat.ne_of_gt h.w.sq
  have T := Rat.ne_of_gt h.v.sq
  have hl : ws.length = vs.length := by rw [h.w.len, h.v.len]
  refine propext ⟨fun e => ?_, fun e => ?_⟩
  · have isl := lss_isL (prw ws vs)
    rw [e] at isl
    have pp := h.pp
    have eq := all_eq (fun p hp => by have := (isL_hit pp isl).1 p hp; rwa [Rat.one_mul] at this) (by rw [pp.s1, pp.s2]; exact Rat.le_refl)
    unfold eqs
    rw [List.all_eq_true]
    intro p hp
    obtain ⟨i, h1, h2⟩ := mem_zip_idx hp
    have e1 := eq _ (prw_at hl h1 h2)
    have e1 : ch ws p.1 = ch vs p.2 := e1
    have a := h.w.ch p.1
    have b := h.v.ch p.2
    refine decide_eq_true (Rat.intCast_inj.mp ?_)
    rw [Rat.intCast_mul, Rat.intCast_mul]
    conv => lhs; rw [← a]
    conv => rhs; rw [← b]
    rw [e1]
    grind
  · refine isL_uniq (lss_isL _) ?_
    have eq : ∀ p ∈ prw ws vs, p.1 = p.2 := fun p hp => by
      obtain ⟨i, w, v, h1, h2, rfl⟩ := prw_idx hp
      unfold eqs at e
      rw [List.all_eq_true] at e
      have := of_decide_eq_true (e _ (zip_idx h1 h2))
      have := congrArg (fun z : Int => (z : Rat)) this
      simp only [Rat.intCast_mul] at this
      show ch ws w = ch vs v
      have a := h.w.ch w
      have b := h.v.ch v
      obtain ⟨x, hx⟩ : ∃ x, x = ch ws w := ⟨_, rfl⟩
      obtain ⟨y, hy⟩ : ∃ y, y = ch vs v := ⟨_, rfl⟩
      obtain ⟨s, hs⟩ : ∃ s : Rat, s = (ws.sum : Int) := ⟨_, rfl⟩
      obtain ⟨t, ht⟩ : ∃ t : Rat, t = (vs.sum : Int) := ⟨_, rfl⟩
      rw [← hx, ← hs] at a
      rw [← hy, ← ht] at b
      rw [← hs] at S this
      rw [← ht] at T this
      rw [← hx, ← hy]
      rw [← a, ← b] at this
      grind
    refine ⟨Rat.le_refl, fun p hp h0 => ?_, .inl rfl⟩
    have e := eq p hp
    have : p.2 ≠ 0 := by rw [← e]; exact Rat.ne_of_gt h0
    exact ⟨this, by rw [e, div_self' this]; exact Rat.le_refl⟩
theorem r_are_equal (h : Two n ws vs) : f__law_are_equal [itup ws, itup vs] st = .ok (.bl (eqs ws vs)) st := by
  obtain ⟨S, hS⟩ : ∃ S, S = ws.sum := ⟨_, rfl⟩
  obtain ⟨T, hT⟩ : ∃ T, T = vs.sum := ⟨_, rfl⟩
  have Sb : S.natAbs < 2 ^ 140 := hS ▸ (h.w.wt h.n70).bd
  have Tb : T.natAbs < 2 ^ 140 := hT ▸ (h.v.wt h.n70).bd
  have sx : gSum (ws.map D.int) st = .ok (.int S) st := hS ▸ gSum_ints
  have sy : gSum (vs.map D.int) st = .ok (.int T) st := hT ▸ gSum_ints
  have ox : oSeq (itup ws) st = .ok (ws.map D.int) st := rfl
  have oy : oSeq (itup vs) st = .ok (vs.map D.int) st := rfl
  obtain ⟨ZD, hZD⟩ : ∃ ZD, ZD = zipD (ws.map D.int) (vs.map D.int) := ⟨_, rfl⟩
  have eZ : ZD = (List.zip ws vs).map fun p => D.tup [.int p.1, .int p.2] := by rw [hZD, zipD_map]
  have zz : zip2 (itup ws) (itup vs) st = .ok (.fix ZD) st := by rw [hZD]; rfl
  have lZ : ZD.length ≤ 16777216 := by rw [eZ, List.length_map, List.length_zip, h.w.len]; have := h.n70; omega
  have c := comp_map (q := .fix ZD) (set := gT 2 (gCs 2 (gCs 3 gNil0))) (fe := eBin oEq (eBin oMul (eVar 2) (eCS gSum (sEx (eVar 1)))) (eBin oMul (eVar 3) (eCS gSum (sEx (eVar 0))))) (τ := [some (itup ws), some (itup vs), none, none]) (st := st) rfl (fun p : Int × Int => D.tup [.int p.1, .int p.2]) (fun p => .bl (decide (p.1 * T = p.2 * S))) (List.zip ws vs) [] (fun p hp => by
    have hm := List.of_mem_zip hp
    have o1 := oMul_ok ((h.w.wt h.n70).lt' hm.1) Tb
    have o2 := oMul_ok ((h.v.wt h.n70).lt' hm.2) Sb
    exact ⟨[some (itup ws), some (itup vs), some (.int p.1), some (.int p.2)], rfl, by simp [ox, oy, sx, sy, o1, o2]⟩)
  rw [← eZ, List.nil_append, show ((List.zip ws vs).map fun p => D.bl (decide (p.1 * T = p.2 * S))) = ((List.zip ws vs).map fun p => decide (p.1 * T = p.2 * S)).map D.bl by rw [List.map_map]; rfl] at c
  have ha : gAllB (((List.zip ws vs).map fun p => decide (p.1 * T = p.2 * S)).map D.bl) st = .ok (.bl (eqs ws vs)) st := by
    rw [gAllB_bls, List.all_map, hS, hT]
    rfl
  obtain ⟨Y, hY⟩ : ∃ Y, Y = ((List.zip ws vs).map fun p => decide (p.1 * T = p.2 * S)).map D.bl := ⟨_, rfl⟩
  rw [← hY] at c ha
  unfold f__law_are_equal
  rw [runB_e]
  unfold m__law_are_equal
  simp [List.replicate, lComp_e, lc1, wipeD, zz, lZ, c, ha]
end

section
variable {st : Store} {ws vs us : List Int} {ns : List Int} {n M : Nat}
theorem map_idx {α : Type} {f : α → D} {xs : List α} {i : Nat} {d : D} (h : (xs.map f)[i]? = some d) : ∃ a, xs[i]? = some a ∧ d = f a := by
  rw [List.getElem?_map] at h
  cases hx : xs[i]? with
  | none => rw [hx] at h; cases h
  | some a => rw [hx] at h; exact ⟨a, rfl, (Option.some.inj h).symm⟩
def gw (ws : List Int) (a : Nat) : Int := ws.getD a 0
theorem gw_get {a : Nat} (h : a < ws.length) : ws[a]? = some (gw ws a) := by simp [gw, List.getD, h]
def sumw (ws : List Int) (c : List Nat) : Int := (c.map (gw ws)).sum
theorem gw_bd (h : Rw n ws) {a : Nat} (ha : a < n) : 0 ≤ gw ws a ∧ gw ws a ≤ big := by
  have hm := List.mem_of_getElem? (gw_get (ws := ws) (a := a) (by rw [h.len]; exact ha))
  exact ⟨h.nn _ hm, h.le _ hm⟩
theorem sumw_bd (h : Rw n ws) {c : List Nat} (hc : ∀ a ∈ c, a < n) (lc : c.length ≤ 70) : 0 ≤ sumw ws c ∧ (sumw ws c).natAbs < 2 ^ 140 := by
  have h1 : ∀ x ∈ c.map (gw ws), 0 ≤ x := fun x hx => by
    obtain ⟨a, ha, rfl⟩ := List.mem_map.mp hx
    exact (gw_bd h (hc a ha)).1
  have h2 : ∀ x ∈ c.map (gw ws), x ≤ big := fun x hx => by
    obtain ⟨a, ha, rfl⟩ := List.mem_map.mp hx
    exact (gw_bd h (hc a ha)).2
  have a := sum_nn h1
  have b := sum_le h2
  rw [List.length_map] at b
  have c' : (c.length : Int) * big ≤ 70 * big := Int.mul_le_mul_of_nonneg_right (by omega) (by decide)
  refine ⟨a, ?_⟩
  rw [big140]
  unfold sumw
  unfold big at *
  omega
theorem r_sumw {s : Store} {r i j : Nat} {τ : Sl} {c : List Nat} (h : Rw n ws) (hc : ∀ a ∈ c, a < n) (lc : c.length ≤ 70) (g : lstAt s r = some (nats c)) (hi : τ[7]? = some (some (.ref r))) (hj : τ[j]? = some (some (itup ws))) (hj10 : j < 10) (hw : wipeD τ [10] = τ) (hs : ∀ d, gN 10 d τ = some (τ.set 10 (some d))) (hl : 10 < τ.length) :
    (lComp [10] (iEx (eVar 7)) (gN 10) HM.tYes (eBin oIx (eVar j) (eVar 10))) τ s = .ok ((c.map (gw ws)).map D.int) s := by
  have cm := comp_map (q := .cell r (nats c)) (set := gN 10) (fe := eBin oIx (eVar j) (eVar 10)) (τ := τ) (st := s) (by simp [Sq.chk, g]) (fun a : Nat => D.int (a : Nat)) (fun a => .int (gw ws a)) c [] (fun a ha => by
    have ix := ix_itup (gw_get (ws := ws) (a := a) (by rw [h.len]; exact hc a ha)) (s := s)
    refine ⟨τ.set 10 (some (.int (a : Nat))), hs _, ?_⟩
    have e1 : (τ.set 10 (some (D.int (a : Nat))))[j]? = some (some (itup ws)) := by rw [List.getElem?_set_ne (by omega)]; exact hj
    have e2 : (τ.set 10 (some (D.int (a : Nat))))[10]? = some (some (.int (a : Nat))) := by rw [List.getElem?_set_self hl]
    simp [eVar_e e1, eVar_e e2, ix])
  rw [List.nil_append] at cm
  have ll : (nats c).length ≤ 16777216 := by unfold nats; rw [List.length_map]; omega
  have cm : compL (.cell r (nats c)) (gN 10) HM.tYes (eBin oIx (eVar j) (eVar 10)) τ (nats c) [] s = .ok ((c.map (gw ws)).map D.int) s := by
    rw [List.map_map]
    exact cm
  simp [lComp_e, lc1, eVar_e hi, dSq_ref g, ll, hw, cm]
theorem r_sets_kept (H : DS ns st) (h : Two n ws vs) : ∃ st', f__law_are_sets_kept [.ref 1, itup ws, itup vs, od (lss (prw ws vs))] st = .ok (.bl true) st' ∧ DS ns st' ∧ Fr st st' := by
  obtain ⟨M, ps, s1, e1, S1, lps, F1⟩ := r_sets H h.n0 h.n70
  obtain ⟨S, hS⟩ : ∃ S, S = ws.sum := ⟨_, rfl⟩
  obtain ⟨T, hT⟩ : ∃ T, T = vs.sum := ⟨_, rfl⟩
  have Sb : S.natAbs < 2 ^ 140 := hS ▸ (h.w.wt h.n70).bd
  have Tb : T.natAbs < 2 ^ 140 := hT ▸ (h.v.wt h.n70).bd
  have S0 : 0 < S := hS ▸ h.w.pos
  have T0 : 0 < T := hT ▸ h.v.pos
  have sx : ∀ s, gSum (ws.map D.int) s = .ok (.int S) s := fun s => hS ▸ gSum_ints
  have sy : ∀ s, gSum (vs.map D.int) s = .ok (.int T) s := fun s => hT ▸ gSum_ints
  have ox : ∀ s, oSeq (itup ws) s = .ok (ws.map D.int) s := fun s => rfl
  have oy : ∀ s, oSeq (itup vs) s = .ok (vs.map D.int) s := fun s => rfl
  have f : ∀ s, fLen [itup ws] s = .ok (.int (n : Nat)) s := fun s => by unfold itup; rw [fLen_tup, List.length_map, h.w.len]
  obtain ⟨LD, hLD⟩ : ∃ LD, LD = od (lss (prw ws vs)) := ⟨_, rfl⟩
  obtain ⟨UA, hUA⟩ : ∃ UA : SM, UA = sIf (tBl (eBin oIs (eVar 3) (eC .non))) (sSet 6 (eOr (eVar 6) (eAnd (eBin oGt (eVar 8) (eC (.int 0))) (eBin oEq (eVar 9) (eC (.int 0)))))) (sIf (tBl (eBin oGt (eBin oMul (eVar 8) (eBin oIx (eVar 3) (eC (.int 1)))) (eBin oMul (eBin oIx (eVar 3) (eC (.int 0))) (eVar 9)))) (sRet (eC (.bl false))) (sSet 6 (eOr (eVar 6) (eAnd (eBin oGt (eVar 8) (eC (.int 0))) (eBin oEq (eBin oMul (eVar 8) (eBin oIx (eVar 3) (eC (.int 1)))) (eBin oMul (eBin oIx (eVar 3) (eC (.int 0))) (eVar 9))))))) := ⟨_, rfl⟩
  -- what one set tells
  have tell : ∃ (i0 : Nat), i0 < n ∧ ∀ (c : List Nat) (b : Bool) (x7 x10 : Option D) (s : Store), (∀ a ∈ c, a < n) → c.length ≤ 70 → ∃ b' : Bool, UA [some (.ref 1), some (itup ws), some (itup vs), some LD, some (.int S), some (.int T), some (.bl b), x7, some (.int (sumw ws c * T)), some (.int (sumw vs c * S)), x10] s = .nx [some (.ref 1), some (itup ws), some (itup vs), some LD, some (.int S), some (.int T), some (.bl (b || b')), x7, some (.int (sumw ws c * T)), some (.int (sumw vs c * S)), x10] s ∧ (c = [i0] → b' = true) := by
    cases hL : lss (prw ws vs) with
    | none =>
      obtain ⟨i0, w, hi0, h1, h2, w0⟩ := two_none h hL
      refine ⟨i0, hi0, fun c b x7 x10 s hc lc => ⟨decide (0 < sumw ws c * T) && decide (sumw vs c * S = 0), ?_, fun e => ?_⟩⟩
      · rw [hUA, hLD, hL]
        cases b with
        | true => simp [od]
        | false =>
          by_cases c1 : 0 < sumw ws c * T
          · simp [od, c1]
          · simp [od, c1]
      · subst e
        have g1 : gw ws i0 = w := by simp [gw, List.getD, h1]
        have g2 : gw vs i0 = 0 := by simp [gw, List.getD, h2]
        have : 0 < w * T := Int.mul_pos w0 T0
        simp [sumw, g1, g2, this]
    | some L =>
      obtain ⟨le, i0, w, v, hi0, h1, h2, w0, heq⟩ := two_some h hL
      rw [← hS, ← hT] at le heq
      have isl := lss_isL (prw ws vs)
      rw [hL] at isl
      have qb : QB 280 L := by
        obtain ⟨_, o⟩ := r_row_lossQ (st := st) (h.w.wt h.n70) (h.v.wt h.n70) (by rw [h.w.len, h.v.len]) (by decide) (by decide)
        exact o L hL
      have den0 : (0 : Rat) < ((L.den : Nat) : Int) := Rat.intCast_pos.mpr (by have := L.den_pos; omega)
      have hLd : L * (((L.den : Nat) : Int) : Rat) = (L.num : Rat) := by
        have e := Rat.num_divInt_den L
        rw [Rat.divInt_eq_div] at e
        have := Rat.div_mul_cancel (a := (L.num : Rat)) (Rat.ne_of_gt den0)
        rwa [e] at this
      refine ⟨i0, hi0, fun c b x7 x10 s hc lc => ?_⟩
      have sle : ((sumw ws c * T : Int) : Rat) ≤ L * ((sumw vs c * S : Int) : Rat) := by
        clear lc
        induction c with
        | nil => simp [sumw]
        | cons a c ih =>
          have ih := ih fun x hx => hc x (List.mem_cons_of_mem _ hx)
          have ha := hc a (List.mem_cons_self ..)
          have l1 := le a (gw ws a) (gw vs a) (gw_get (by rw [h.w.len]; exact ha)) (gw_get (by rw [h.v.len]; exact ha))
          have e1 : sumw ws (a :: c) = gw ws a + sumw ws c := by unfold sumw; rw [List.map_cons, List.sum_cons]
          have e2 : sumw vs (a :: c) = gw vs a + sumw vs c := by unfold sumw; rw [List.map_cons, List.sum_cons]
          rw [e1, e2, Int.add_mul, Int.add_mul, Rat.intCast_add, Rat.intCast_add]
          grind
      obtain ⟨A, hA⟩ : ∃ A, A = sumw ws c * T := ⟨_, rfl⟩
      obtain ⟨B, hB⟩ : ∃ B, B = sumw vs c * S := ⟨_, rfl⟩
      have Ab : A.natAbs < 2 ^ 280 := hA ▸ mul_lt (sumw_bd h.w hc lc).2 Tb
      have Bb : B.natAbs < 2 ^ 280 := hB ▸ mul_lt (sumw_bd h.v hc lc).2 Sb
      have o1 := okMul_of Ab qb.bi (by decide)
      have o2 := okMul_of qb.an Bb (by decide)
      have nle : A * (L.den : Nat) ≤ L.num * B := by
        apply Rat.intCast_le_intCast.mp
        rw [Rat.intCast_mul, Rat.intCast_mul]
        rw [← hA, ← hB] at sle
        have := Rat.mul_le_mul_of_nonneg_right sle (Rat.le_of_lt den0)
        rw [← hLd]
        have e : L * (B : Rat) * (((L.den : Nat) : Int) : Rat) = L * (((L.den : Nat) : Int) : Rat) * (B : Rat) := by grind
        rw [e] at this
        exact this
      have i0' : ∀ s, oIx (qd L) (.int 0) s = .ok (.int L.num) s := fun s => by rw [qd_tup]; simp
      have i1' : ∀ s, oIx (qd L) (.int 1) s = .ok (.int (L.den : Nat)) s := fun s => by rw [qd_tup]; simp
      have is : ∀ s, oIs (qd L) .non s = .ok (.bl false) s := fun _ => rfl
      refine ⟨decide (0 < A) && decide (A * (L.den : Nat) = L.num * B), ?_, fun e => ?_⟩
      · rw [hUA, hLD, hL, show od (some L) = qd L from rfl, ← hA, ← hB]
        have ngt : ¬ L.num * B < A * (L.den : Nat) := by omega
        cases b with
        | true => simp [is, i0', i1', o1, o2, ngt]
        | false =>
          by_cases c1 : 0 < A
          · simp [is, i0', i1', o1, o2, ngt, c1]
          · simp [is, i0', i1', o1, o2, ngt, c1]
      · subst e
        have g1 : gw ws i0 = w := by simp [gw, List.getD, h1]
        have g2 : gw vs i0 = v := by simp [gw, List.getD, h2]
        have eA : A = w * T := by rw [hA]; simp [sumw, g1]
        have eB : B = v * S := by rw [hB]; simp [sumw, g2]
        have A0 : 0 < A := by rw [eA]; exact Int.mul_pos w0 T0
        have ee : A * (L.den : Nat) = L.num * B := by
          apply Rat.intCast_inj.mp
          rw [Rat.intCast_mul, Rat.intCast_mul, ← hLd, eA, heq, eB]
          grind
        simp [A0, ee]
  obtain ⟨i0, hi0, tell⟩ := tell
  obtain ⟨U, hU⟩ : ∃ U : SM, U = sSeq (sSet 8 (eBin oMul (eCS gSum (lComp [10] (iEx (eVar 7)) (gN 10) HM.tYes (eBin oIx (eVar 1) (eVar 10)))) (eVar 5)))
    (sSeq (sSet 9 (eBin oMul (eCS gSum (lComp [10] (iEx (eVar 7)) (gN 10) HM.tYes (eBin oIx (eVar 2) (eVar 10)))) (eVar 4))) UA) := ⟨_, rfl⟩
  obtain ⟨τ', s', e2, b, ⟨x7, x8, x9, rfl⟩, hb, rfl⟩ := for_inv (q := .cell M (ps.map fun p => D.ref p.1)) (set := gN 7) (u := U)
    (fun k τ s => ∃ b : Bool, (∃ x7 x8 x9, τ = [some (.ref 1), some (itup ws), some (itup vs), some LD, some (.int S), some (.int T), some (.bl b), x7, x8, x9, none]) ∧ (i0 < k → b = true) ∧ s1 = s) (fun _ _ s ⟨_, _, _, e⟩ => by rw [← e]; simp [Sq.chk, S1.g]) (ps.map fun p => D.ref p.1) 0 [some (.ref 1), some (itup ws), some (itup vs), some LD, some (.int S), some (.int T), some (.bl false), none, none, none, none] s1 ⟨false, ⟨none, none, none, rfl⟩, fun h => absurd h (Nat.not_lt_zero _), rfl⟩ (by
      intro i d τ s hi hp
      obtain ⟨b, ⟨x7, x8, x9, rfl⟩, hb, rfl⟩ := hp
      obtain ⟨p, hpi, rfl⟩ := map_idx hi
      have hpm := List.mem_of_getElem? hpi
      obtain ⟨gp, _, _⟩ := S1.at' p hpm
      obtain ⟨hc, lc⟩ := S1.lt p hpm
      obtain ⟨b', e, hb'⟩ := tell p.2 b (some (.ref p.1)) none s1 hc lc
      have q1 := r_sumw (j := 1) (i := 0) (τ := [some (.ref 1), some (itup ws), some (itup vs), some LD, some (.int S), some (.int T), some (.bl b), some (.ref p.1), x8, x9, none]) h.w hc lc gp rfl rfl (by decide) rfl (fun d => rfl) (show 10 < 11 by decide)
      have o1 := oMul_ok (sumw_bd h.w hc lc).2 Tb
      have o2 := oMul_ok (sumw_bd h.v hc lc).2 Sb
      have m1 : gSum ((p.2.map (gw ws)).map D.int) s1 = .ok (.int (sumw ws p.2)) s1 := gSum_ints
      have m2 : gSum ((p.2.map (gw vs)).map D.int) s1 = .ok (.int (sumw vs p.2)) s1 := gSum_ints
      obtain ⟨A, hA⟩ : ∃ A, A = sumw ws p.2 := ⟨_, rfl⟩
      obtain ⟨B, hB⟩ : ∃ B, B = sumw vs p.2 := ⟨_, rfl⟩
      have q2 := r_sumw (j := 2) (i := 0) (τ := [some (.ref 1), some (itup ws), some (itup vs), some LD, some (.int S), some (.int T), some (.bl b), some (.ref p.1), some (.int (A * T)), x9, none]) h.v hc lc gp rfl rfl (by decide) rfl (fun d => rfl) (show 10 < 11 by decide)
      obtain ⟨YA, hYA⟩ : ∃ YA, YA = (p.2.map (gw ws)).map D.int := ⟨_, rfl⟩
      obtain ⟨YB, hYB⟩ : ∃ YB, YB = (p.2.map (gw vs)).map D.int := ⟨_, rfl⟩
      rw [← hA, ← hB] at e
      rw [← hYA] at q1 m1
      rw [← hYB] at q2 m2
      rw [← hA] at o1 m1
      rw [← hB] at o2 m2
      refine ⟨[some (.ref 1), some (itup ws), some (itup vs), some LD, some (.int S), some (.int T), some (.bl b), some (.ref p.1), x8, x9, none], rfl, [some (.ref 1), some (itup ws), some (itup vs), some LD, some (.int S), some (.int T), some (.bl (b || b')), some (.ref p.1), some (.int (A * T)), some (.int (B * S)), none], s1, .inl ?_, b || b', ⟨_, _, _, rfl⟩, fun hk => ?_, rfl⟩
      · rw [hU]
        simp [q1, m1, o1, q2, m2, o2, e]
      · by_cases hii : i0 = i
        · obtain ⟨r, er⟩ := S1.one i0 hi0
          rw [hii, hpi] at er
          have : p.2 = [i0] := by rw [Option.some.inj er, hii]
          rw [hb' this]
          simp
        · rw [hb (by omega)]
          rfl)
  have hlen : i0 < 0 + (ps.map fun p => D.ref p.1).length := by
    obtain ⟨r, er⟩ := S1.one i0 hi0
    have := (List.getElem?_eq_some_iff.mp er).1
    rw [List.length_map]
    omega
  rw [hb hlen] at e2
  refine ⟨s1, ?_, S1.ds, F1⟩
  rw [← hLD]
  obtain ⟨PR, hPR⟩ : ∃ PR, PR = ps.map fun p => D.ref p.1 := ⟨_, rfl⟩
  have g := S1.g
  rw [← hPR] at e2 g
  unfold f__law_are_sets_kept
  rw [runB_e]
  unfold m__law_are_sets_kept
  rw [← hUA, ← hU]
  simp [List.replicate, ox, oy, sx, sy, f, sFor_e, e1, dSq_ref g, e2]
end

section
variable {st : Store} {ws vs us xs : List Int} {ns : List Int} {n k : Nat}
theorem eq_od {o : Option Rat} {s : Store} : oEq (od o) (.tup [.int 1, .int 1]) s = .ok (.bl (decide (o = some 1))) s := by
  cases o with
  | none => simp [od, oEq, dEq, D.pd]
  | some x =>
    rw [show D.tup [.int 1, .int 1] = qd 1 from rfl, show od (some x) = qd x from rfl, eq_qd]
    simp
theorem loss_ge {ps : List (Rat × Rat)} : ∀ x, lss ps = some x → 1 ≤ x := isL_ge (lss_isL ps)
/-- the loss of a pair, as the program and as the law tells it -/
theorem both {B : Nat} (hw : Wt B ws) (hv : Wt B vs) (hl : ws.length = vs.length) (hB : B ≤ 1000) (hB1 : 1 ≤ B) :
    (∀ s, f_row_loss [itup ws, itup vs] s = .ok (od (lss (prw ws vs))) s) ∧ OB (B + B) (lss (prw ws vs)) ∧ (∀ s, ∃ s', f__law_row_loss [itup ws, itup vs] s = .ok (od (lss (prw ws vs))) s' ∧ Gr s s') ∧ ∀ s, f__law_is_loss [od (lss (prw ws vs)), od (lss (prw ws vs))] s = .ok (.bl true) s := by
  have o := (r_row_lossQ (st := []) hw hv hl (by omega) hB1).2
  exact ⟨fun s => (r_row_lossQ hw hv hl (by omega) hB1).1, o, fun s => r_lrow_loss hw hv hB hB1, fun s => r_is_lossQ o (by omega) loss_ge⟩
theorem Two.both (h : Two n ws vs) : (∀ s, f_row_loss [itup ws, itup vs] s = .ok (od (lss (prw ws vs))) s) ∧ OB (140 + 140) (lss (prw ws vs)) ∧ (∀ s, ∃ s', f__law_row_loss [itup ws, itup vs] s = .ok (od (lss (prw ws vs))) s' ∧ Gr s s') ∧ ∀ s, f__law_is_loss [od (lss (prw ws vs)), od (lss (prw ws vs))] s = .ok (.bl true) s := K27.both (h.w.wt h.n70) (h.v.wt h.n70) (by rw [h.w.len, h.v.len]) (by decide) (by decide)
theorem Two.swap (h : Two n ws vs) : Two n vs ws := ⟨h.v, h.w, h.n0, h.n70⟩
theorem r_pair_right (H : DS ns st) (h : Two n ws vs) : ∃ st', f__law_is_pair_right [.ref 1, itup ws, itup vs] st = .ok (.bl true) st' ∧ DS ns st' ∧ Fr st st' := by
  obtain ⟨a1, _, a3, a4⟩ := h.both
  obtain ⟨b1, _, b3, b4⟩ := h.swap.both
  obtain ⟨s1, e1, G1⟩ := a3 st
  obtain ⟨s2, e2, G2⟩ := b3 s1
  have e3 := r_are_equal (st := s2) h
  have h1 := two_one h
  obtain ⟨s3, e4, D3, F3⟩ := r_sets_kept (G2.ds (G1.ds H)) h
  have e5 := eq_od (o := lss (prw ws vs)) (s := s2)
  have he : decide (lss (prw ws vs) = some 1) = eqs ws vs := by
    cases hb : eqs ws vs with
    | false => exact decide_eq_false fun e => by rw [h1, hb] at e; cases e
    | true => exact decide_eq_true (by rw [h1]; exact hb)
  rw [he] at e5
  obtain ⟨L, hL⟩ : ∃ L, L = od (lss (prw ws vs)) := ⟨_, rfl⟩
  obtain ⟨L', hL'⟩ : ∃ L', L' = od (lss (prw vs ws)) := ⟨_, rfl⟩
  rw [← hL] at a1 a4 e1 e4 e5
  rw [← hL'] at b1 b4 e2
  refine ⟨s3, ?_, D3, (G1.fr.trans G2.fr).trans F3⟩
  unfold f__law_is_pair_right
  rw [runB_e]
  unfold m__law_is_pair_right
  simp [List.replicate, a1, e1, a4, b1, e2, b4, e3, e4, e5]
theorem atI_last {α : Type} {l : List α} {x : α} : atI (l ++ [x]) (-1) = some x := by
  have : ixN (l ++ [x]).length (-1) = some l.length := by
    unfold ixN
    rw [if_neg (by omega), if_pos (by simp; omega)]
    congr 1
    simp
    omega
  unfold atI
  rw [this]
  simp
/-- losses go on at most by factors -/
theorem three_le (h1 : Two n ws vs) (h2 : Two n vs us) {L M : Rat} (e1 : lss (prw ws vs) = some L) (e2 : lss (prw vs us) = some M) : ∃ N, lss (prw ws us) = some N ∧ N ≤ L * M := by
  have h3 : Two n ws us := ⟨h1.w, h2.v, h1.n0, h1.n70⟩
  have i1 := lss_isL (prw ws vs)
  have i2 := lss_isL (prw vs us)
  rw [e1] at i1
  rw [e2] at i2
  have a1 := (isL_hit h1.pp i1).1
  have a2 := (isL_hit h2.pp i2).1
  have g1 : 1 ≤ L := i1.1
  have g2 : 1 ≤ M := i2.1
  have L0 : 0 ≤ L := Rat.le_trans (by decide) g1
  have le : ∀ p ∈ prw ws us, p.1 ≤ L * M * p.2 := fun p hp => by
    obtain ⟨i, w, u, hw, hu, rfl⟩ := prw_idx hp
    have hi : i < n := by have := (List.getElem?_eq_some_iff.mp hw).1; rw [h1.w.len] at this; exact this
    obtain ⟨v, hv⟩ : ∃ v, vs[i]? = some v := ⟨vs[i]'(by rw [h1.v.len]; exact hi), by simp⟩
    have b1 := a1 _ (prw_at (by rw [h1.w.len, h1.v.len]) hw hv)
    have b2 := a2 _ (prw_at (by rw [h2.w.len, h2.v.len]) hv hu)
    have b3 := Rat.mul_le_mul_of_nonneg_left b2 L0
    rw [Rat.mul_assoc]
    exact Rat.le_trans b1 b3
  have LM : 1 ≤ L * M := by
    have := Rat.mul_le_mul_of_nonneg_left g2 L0
    rw [Rat.mul_one] at this
    exact Rat.le_trans g1 this
  cases e3 : lss (prw ws us) with
  | none => exact absurd e3 (not_none h3.pp le)
  | some N =>
    have i3 := lss_isL (prw ws us)
    rw [e3] at i3
    exact ⟨N, rfl, isL_le h3.pp i3 LM le⟩
theorem r_three_right (H : DS ns st) (h1 : Two n ws vs) (h2 : Two n vs us) : ∃ st', f__law_is_three_right [itup ws, itup vs, itup us] st = .ok (.bl true) st' ∧ Gr st st' := by
  have h3 : Two n ws us := ⟨h1.w, h2.v, h1.n0, h1.n70⟩
  obtain ⟨PR, hPR⟩ : ∃ PR : List (List Int × List Int), PR = [(ws, vs), (vs, us), (ws, us)] := ⟨_, rfl⟩
  have two : ∀ p ∈ PR, Two n p.1 p.2 := fun p hp => by
    rw [hPR] at hp
    simp only [List.mem_cons, List.not_mem_nil, or_false] at hp
    rcases hp with rfl | rfl | rfl
    · exact h1
    · exact h2
    · exact h3
  obtain ⟨f, hf⟩ : ∃ f : List Int × List Int → D, f = fun p => od (lss (prw p.1 p.2)) := ⟨_, rfl⟩
  obtain ⟨g, hg⟩ : ∃ g : List Int × List Int → D, g = fun p => .tup [itup p.1, itup p.2] := ⟨_, rfl⟩
  obtain ⟨M, hM⟩ : ∃ M, M = st.length := ⟨_, rfl⟩
  obtain ⟨s1, hs1⟩ : ∃ s1, s1 = st ++ [Cell.lst []] := ⟨_, rfl⟩
  have L1 : s1.length = M + 1 := by rw [hs1, hM]; simp
  obtain ⟨s2, hs2⟩ : ∃ s2, s2 = s1 ++ [Cell.lst (PR.map g)] := ⟨_, rfl⟩
  have g1 : lstAt s2 M = some [] := (hs2 ▸ Gr.app : Gr s1 s2).lst (by rw [hs1, hM]; exact lstAt_new)
  have g2 : lstAt s2 (M + 1) = some (PR.map g) := by rw [hs2, ← L1]; exact lstAt_new
  have G2 : Gr st s2 := hs2 ▸ (hs1 ▸ Gr.app : Gr st s1).trans .app
  obtain ⟨U, hU⟩ : ∃ U : SM, U = sSeq (sExpr (eM "list" mAppend (eVar 3) (aCons (eCall 2 f_row_loss (aCons (eVar 4) (aCons (eVar 5) aNil))) aNil)))
    (sIf (HM.tNot (tVal (eCall 2 f__law_is_loss (aCons (eBin oIx (eVar 3) (eUn oNeg (eC (.int 1)))) (aCons (eCall 2 f__law_row_loss (aCons (eVar 4) (aCons (eVar 5) aNil))) aNil))))) (sRet (eC (.bl false))) sNil) := ⟨_, rfl⟩
  obtain ⟨τ', s3, e3, ⟨x4, x5, rfl⟩, gM, gQ, G3⟩ := for_inv (q := .cell (M + 1) (PR.map g)) (set := gT 2 (gCs 4 (gCs 5 gNil0))) (u := U)
    (fun k τ s => (∃ x4 x5, τ = [some (itup ws), some (itup vs), some (itup us), some (.ref M), x4, x5]) ∧ lstAt s M = some ((PR.take k).map f) ∧ lstAt s (M + 1) = some (PR.map g) ∧ Gr st s) (fun _ _ s ⟨_, _, e, _⟩ => by simp [Sq.chk, e]) (PR.map g) 0 [some (itup ws), some (itup vs), some (itup us), some (.ref M), none, none] s2 ⟨⟨none, none, rfl⟩, by simpa using g1, g2, G2⟩ (by
      intro i d τ s hi hp
      obtain ⟨⟨x4, x5, rfl⟩, gM, gQ, G⟩ := hp
      rw [Nat.zero_add] at gM ⊢
      obtain ⟨p, hpi, rfl⟩ := map_idx hi
      have hpm := List.mem_of_getElem? hpi
      obtain ⟨a1, _, a3, a4⟩ := (two p hpm).both
      have l3 : PR.length = 3 := by rw [hPR]; rfl
      have ap := mAppend_ref (x := f p) gM (by rw [List.length_map, List.length_take]; omega)
      obtain ⟨s', hs'⟩ : ∃ s', s' = s.set M (.lst ((PR.take i).map f ++ [f p])) := ⟨_, rfl⟩
      rw [← hs'] at ap
      have gM' : lstAt s' M = some ((PR.take i).map f ++ [f p]) := by rw [hs', lstAt_set gM]
      have gQ' : lstAt s' (M + 1) = some (PR.map g) := by rw [hs', lstAt_ne (by omega)]; exact gQ
      have G' : Gr st s' := hs' ▸ G.put (by omega)
      obtain ⟨s'', e'', G''⟩ := a3 s'
      have lastE : oIx (.ref M) (.int (-1)) s' = .ok (f p) s' := by rw [oIx_ref gM', atI_last]; rfl
      have fp : f p = od (lss (prw p.1 p.2)) := by rw [hf]
      rw [← fp] at a1 a4 e''
      have tk : (PR.take (i + 1)).map f = (PR.take i).map f ++ [f p] := by
        rw [List.take_succ, hpi, List.map_append]
        rfl
      obtain ⟨X, hX⟩ : ∃ X, X = (PR.take i).map f := ⟨_, rfl⟩
      rw [← hX] at gM
      refine ⟨[some (itup ws), some (itup vs), some (itup us), some (.ref M), some (itup p.1), some (itup p.2)], by rw [hg]; rfl, [some (itup ws), some (itup vs), some (itup us), some (.ref M), some (itup p.1), some (itup p.2)], s'', .inl ?_, ⟨_, _, rfl⟩, by rw [tk]; exact G''.lst gM', G''.lst gQ', G'.trans G''⟩
      rw [hU]
      simp [okT_ref gM, a1, ap, lastE, e'', a4])
  have ePR : (PR.take (0 + (PR.map g).length)).map f = [od (lss (prw ws vs)), od (lss (prw vs us)), od (lss (prw ws us))] := by
    rw [hPR, hf]; rfl
  rw [ePR] at gM
  have eG : PR.map g = [D.tup [itup ws, itup vs], .tup [itup vs, itup us], .tup [itup ws, itup us]] := by rw [hPR, hg]; rfl
  obtain ⟨PG, hPG⟩ : ∃ PG, PG = PR.map g := ⟨_, rfl⟩
  rw [← hPG] at eG e3 g2 hs2
  have i0 : oIx (.ref M) (.int 0) s3 = .ok (od (lss (prw ws vs))) s3 := by rw [oIx_ref gM]; simp
  have i1 : oIx (.ref M) (.int 1) s3 = .ok (od (lss (prw vs us))) s3 := by rw [oIx_ref gM]; simp
  have i2 : oIx (.ref M) (.int 2) s3 = .ok (od (lss (prw ws us))) s3 := by rw [oIx_ref gM]; simp
  refine ⟨s3, ?_, G3⟩
  unfold f__law_is_three_right
  rw [runB_e]
  unfold m__law_is_three_right
  rw [← hU]
  simp [List.replicate, ← hM, ← hs1, sFor_e]
  rw [← eG, ← hs2]
  simp [L1, dSq_ref g2, e3]
  have isn : ∀ (x : Rat) (s : Store), oIs (qd x) .non s = .ok (.bl false) s := fun _ _ => rfl
  have isn2 : ∀ (x : Rat) (s : Store), oIsNot (qd x) .non s = .ok (.bl true) s := fun _ _ => rfl
  cases e1 : lss (prw ws vs) with
  | none =>
    rw [e1] at i0
    simp [i0, od]
  | some L =>
    rw [e1] at i0
    cases e2 : lss (prw vs us) with
    | none =>
      rw [e2] at i1
      simp [i0, i1, od, isn]
    | some N =>
      rw [e2] at i1
      obtain ⟨P, e5, hle⟩ := three_le h1 h2 e1 e2
      rw [e5] at i2
      have b1 := h1.both.2.1 L e1
      have b2 := h2.both.2.1 N e2
      have b3 := h3.both.2.1 P e5
      have z1 := r_ltimesQ (st := s3) b1 b2 (by decide)
      have z2 := r_llessQ (st := s3) (b1.mul b2) b3 (by decide)
      rw [decide_eq_false (Rat.not_lt.mpr hle)] at z2
      rw [show od (some L) = qd L from rfl] at i0
      rw [show od (some N) = qd N from rfl] at i1
      rw [show od (some P) = qd P from rfl] at i2
      simp [i0, i1, i2, isn, isn2, z1, z2]
end

section
variable {st : Store} {ws vs us xs : List Int} {ns : List Int} {n k : Nat} {F : Int}
theorem sum_mulF : ∀ l : List Int, (l.map (· * F)).sum = l.sum * F
  | [] => by simp
  | a :: l => by rw [List.map_cons, List.sum_cons, List.sum_cons, sum_mulF l, Int.add_mul]
theorem mulF_wt (h : Rw n ws) (hn : n ≤ 70) (hF : 1 ≤ F) (hF2 : F ≤ 9) : Wt 150 (ws.map (· * F)) := by
  refine ⟨fun x hx => ?_, ?_, ?_, by rw [List.length_map, h.len]; omega⟩
  · obtain ⟨w, hw, rfl⟩ := List.mem_map.mp hx
    exact Int.mul_nonneg (h.nn w hw) (by omega)
  · rw [sum_mulF]
    exact Int.mul_pos h.pos (by omega)
  · rw [sum_mulF]
    exact lt_up (mul_lt (k := 140) (l := 4) (h.wt hn).bd (by omega)) (by decide)
theorem mulF_ch (h : Rw n ws) (hF : 1 ≤ F) : (ws.map (· * F)).map (ch (ws.map (· * F))) = ws.map (ch ws) := by
  rw [List.map_map]
  refine List.map_congr_left fun w _ => ?_
  show Rat.divInt (w * F) (ws.map (· * F)).sum = Rat.divInt w ws.sum
  rw [sum_mulF]
  exact Rat.divInt_mul_right (by omega)
theorem mulF_prw (h : Rw n ws) (h2 : Rw n vs) {G : Int} (hF : 1 ≤ F) (hG : 1 ≤ G) : prw (ws.map (· * F)) (vs.map (· * G)) = prw ws vs := by
  unfold prw
  rw [mulF_ch h hF, mulF_ch h2 hG]
theorem r_multiplied (h : Rw n ws) (hn : n ≤ 70) (hF : 1 ≤ F) (hF2 : F ≤ 9) : f__law_multiplied [itup ws, .int F] st = .ok (itup (ws.map (· * F))) st := by
  have c := comp_map (q := .fix (ws.map D.int)) (set := gN 2) (fe := eBin oMul (eVar 2) (eVar 1)) (τ := [some (itup ws), some (.int F), none]) (st := st) rfl D.int (fun w => .int (w * F)) ws [] (fun w _ => by
    have o : okMul w F = true := okMul_r (by omega)
    exact ⟨[some (itup ws), some (.int F), some (.int w)], rfl, by simp [o]⟩)
  rw [List.nil_append, show (ws.map fun w => D.int (w * F)) = (ws.map (· * F)).map D.int by rw [List.map_map]; rfl] at c
  obtain ⟨W, hW⟩ : ∃ W, W = ws.map D.int := ⟨_, rfl⟩
  have lW : W.length ≤ 16777216 := by rw [hW, List.length_map, h.len]; omega
  have dq : dSq st (itup ws) = some (.fix W) := by rw [hW]; rfl
  rw [← hW] at c
  obtain ⟨Y, hY⟩ : ∃ Y, Y = (ws.map (· * F)).map D.int := ⟨_, rfl⟩
  have eY : itup (ws.map (· * F)) = .tup Y := by rw [hY]; rfl
  rw [← hY] at c
  rw [eY]
  unfold f__law_multiplied
  rw [runB_e]
  unfold m__law_multiplied
  simp [List.replicate, lComp_e, lc1, wipeD, dq, lW, c]
/-- all products -/
def prodl (ws us : List Int) : List Int := ws.flatMap fun w => us.map (w * ·)
theorem sum_mulL {w : Int} : ∀ l : List Int, (l.map (w * ·)).sum = w * l.sum
  | [] => by simp
  | a :: l => by rw [List.map_cons, List.sum_cons, List.sum_cons, sum_mulL l, Int.mul_add]
theorem prodl_sum : (prodl ws us).sum = ws.sum * us.sum := by
  unfold prodl
  induction ws with
  | nil => simp
  | cons w ws ih => rw [List.flatMap_cons, List.sum_append, ih, sum_mulL, List.sum_cons, Int.add_mul]
theorem prodl_len : (prodl ws us).length = ws.length * us.length := by
  unfold prodl
  induction ws with
  | nil => simp
  | cons w ws ih => rw [List.flatMap_cons, List.length_append, ih, List.length_map, List.length_cons, Nat.succ_mul, Nat.add_comm]
theorem prodl_wt (h : Rw n ws) (h2 : Rw k us) (hn : n ≤ 70) (hk : k ≤ 70) : Wt 280 (prodl ws us) := by
  refine ⟨fun x hx => ?_, ?_, ?_, ?_⟩
  · obtain ⟨w, hw, hx⟩ := List.mem_flatMap.mp hx
    obtain ⟨u, hu, rfl⟩ := List.mem_map.mp hx
    exact Int.mul_nonneg (h.nn w hw) (h2.nn u hu)
  · rw [prodl_sum]
    exact Int.mul_pos h.pos h2.pos
  · rw [prodl_sum]
    exact mul_lt (h.wt hn).bd (h2.wt hk).bd
  · rw [prodl_len, h.len, h2.len]
    exact Nat.le_trans (Nat.mul_le_mul hn hk) (by decide)
theorem zip_flat {α β γ δ : Type} {f : α → List γ} {g : β → List δ} (hfg : ∀ a b, (f a).length = (g b).length) : ∀ {xs : List α} {ys : List β}, List.zip (xs.flatMap f) (ys.flatMap g) = (List.zip xs ys).flatMap fun p => List.zip (f p.1) (g p.2)
  | [], ys => by simp
  | x :: xs, [] => by simp
  | x :: xs, y :: ys => by
    rw [List.flatMap_cons, List.flatMap_cons, List.zip_cons_cons, List.flatMap_cons, List.zip_append (hfg x y), zip_flat hfg]
theorem prod_prw (hl2 : us.length = xs.length) (h1 : ws.sum ≠ 0) (h2 : us.sum ≠ 0) (h3 : vs.sum ≠ 0) (h4 : xs.sum ≠ 0) {p : Rat × Rat} :
    p ∈ prw (prodl ws us) (prodl vs xs) ↔ ∃ a ∈ prw ws vs, ∃ b ∈ prw us xs, p = (a.1 * b.1, a.2 * b.2) := by
  have e1 : ∀ {ws us : List Int}, ws.sum ≠ 0 → us.sum ≠ 0 → ∀ w u, ch (prodl ws us) (w * u) = ch ws w * ch us u := fun {ws us} h1 h2 w u => by
    unfold ch
    rw [prodl_sum, Rat.divInt_mul_divInt]
  have e2 : ∀ {ws us : List Int}, ws.sum ≠ 0 → us.sum ≠ 0 → (prodl ws us).map (ch (prodl ws us)) = (ws.map (ch ws)).flatMap fun a => (us.map (ch us)).map (a * ·) := fun {ws us} h1 h2 => by
    conv => lhs; rw [show prodl ws us = ws.flatMap fun w => us.map (w * ·) from rfl]
    rw [List.map_flatMap, List.flatMap_map]
    congr 1
    funext w
    rw [List.map_map, List.map_map]
    refine List.map_congr_left fun u _ => ?_
    exact e1 h1 h2 w u
  unfold prw
  rw [e2 h1 h2, e2 h3 h4, zip_flat (fun a b => by simp [hl2]), List.mem_flatMap]
  refine ⟨fun ⟨a, ha, hp⟩ => ?_, fun ⟨a, ha, b, hb, e⟩ => ⟨a, ha, ?_⟩⟩
  · rw [List.zip_map] at hp
    obtain ⟨b, hb, rfl⟩ := List.mem_map.mp hp
    exact ⟨a, ha, b, hb, rfl⟩
  · rw [List.zip_map]
    exact List.mem_map.mpr ⟨b, hb, e.symm⟩
theorem r_product (h : Rw n ws) (h2 : Rw k us) (hn : n ≤ 70) (hk : k ≤ 70) : ∃ st', f__law_product [itup ws, itup us] st = .ok (itup (prodl ws us)) st' ∧ Gr st st' := by
  obtain ⟨M, hM⟩ : ∃ M, M = st.length := ⟨_, rfl⟩
  have du : ∀ s, dSq s (itup us) = some (.fix (us.map D.int)) := fun s => rfl
  have lU : (us.map D.int).length ≤ 16777216 := by rw [List.length_map, h2.len]; omega
  obtain ⟨τ', s1, e1, ⟨x3, rfl⟩, g1, G1⟩ := for_inv (q := .fix (ws.map D.int)) (set := gN 3) (u := sExpr (eM "list" mExtend (eVar 2) (aCons (eEl (lComp [4] (iEx (eVar 1)) (gN 4) HM.tYes (eBin oMul (eVar 3) (eVar 4)))) aNil)))
    (fun j τ s => (∃ x3, τ = [some (itup ws), some (itup us), some (.ref M), x3, none]) ∧ lstAt s M = some ((prodl (ws.take j) us).map D.int) ∧ Gr st s) (fun _ _ _ _ => rfl) (ws.map D.int) 0 [some (itup ws), some (itup us), some (.ref M), none, none] (st ++ [.lst []]) ⟨⟨none, rfl⟩, by rw [hM]; simp [prodl, lstAt], .app⟩ (by
      intro i d τ s hi hp
      obtain ⟨⟨x3, rfl⟩, g, G⟩ := hp
      rw [Nat.zero_add] at g ⊢
      obtain ⟨w, hwi, rfl⟩ := map_idx hi
      have hwm := List.mem_of_getElem? hwi
      have wb := (h.wt hn).lt' hwm
      have c := comp_map (q := .fix (us.map D.int)) (set := gN 4) (fe := eBin oMul (eVar 3) (eVar 4)) (τ := [some (itup ws), some (itup us), some (.ref M), some (.int w), none]) (st := s) rfl D.int (fun u => .int (w * u)) us [] (fun u hu => by
        have o := oMul_ok wb ((h2.wt hk).lt' hu)
        exact ⟨[some (itup ws), some (itup us), some (.ref M), some (.int w), some (.int u)], rfl, by simp [o]⟩)
      rw [List.nil_append, show (us.map fun u => D.int (w * u)) = (us.map (w * ·)).map D.int by rw [List.map_map]; rfl] at c
      obtain ⟨Y, hY⟩ : ∃ Y, Y = (us.map (w * ·)).map D.int := ⟨_, rfl⟩
      have lY : Y.length ≤ 70 := by rw [hY, List.length_map, List.length_map, h2.len]; exact hk
      obtain ⟨U, hU⟩ : ∃ U, U = us.map D.int := ⟨_, rfl⟩
      rw [← hY, ← hU] at c
      simp only [← hU] at du lU
      have g' : lstAt (s ++ [.lst Y]) M = some ((prodl (ws.take i) us).map D.int) := (Gr.app (c := Cell.lst Y)).lst g
      have lp : ((prodl (ws.take i) us).map D.int).length + Y.length ≤ 16777216 := by
        rw [List.length_map, prodl_len, h2.len, List.length_take, h.len]
        have : min i n * k ≤ 70 * 70 := Nat.mul_le_mul (by omega) hk
        omega
      have ex := mExtend_ref g' (lstAt_new (a := s) (xs := Y)) lp
      have tk : (prodl (ws.take (i + 1)) us).map D.int = (prodl (ws.take i) us).map D.int ++ Y := by
        rw [List.take_succ, hwi, hY]
        unfold prodl
        rw [List.flatMap_append, List.map_append]
        simp
      obtain ⟨X, hX⟩ : ∃ X, X = (prodl (ws.take i) us).map D.int := ⟨_, rfl⟩
      rw [← hX] at g g' ex tk
      refine ⟨[some (itup ws), some (itup us), some (.ref M), some (.int w), none], rfl, [some (itup ws), some (itup us), some (.ref M), some (.int w), none], (s ++ [Cell.lst Y]).set M (Cell.lst (X ++ Y)), .inl ?_, ⟨_, rfl⟩, by rw [tk]; exact lstAt_set g', (G.trans .app).put (by omega)⟩
      simp [lComp_e, lc1, wipeD, okT_ref g, du, lU, c, ex])
  rw [Nat.zero_add, List.length_map, List.take_length] at g1
  refine ⟨s1, ?_, G1⟩
  have dw : ∀ s, dSq s (itup ws) = some (.fix (ws.map D.int)) := fun s => rfl
  obtain ⟨W, hW⟩ : ∃ W, W = ws.map D.int := ⟨_, rfl⟩
  simp only [← hW] at dw
  rw [← hW] at e1
  unfold f__law_product
  rw [runB_e]
  unfold m__law_product
  simp [List.replicate, ← hM, sFor_e, dw, e1, fTuple_ref g1]
  rfl
theorem r_product_right (h : Two n ws vs) (h2 : Two k us xs) : ∃ st', f__law_is_product_right [itup ws, itup vs, itup us, itup xs] st = .ok (.bl true) st' ∧ Gr st st' := by
  obtain ⟨s1, e1, G1⟩ := r_product (st := st) h.w h2.w h.n70 h2.n70
  obtain ⟨s2, e2, G2⟩ := r_product (st := s1) h.v h2.v h.n70 h2.n70
  have w1 := prodl_wt h.w h2.w h.n70 h2.n70
  have w2 := prodl_wt h.v h2.v h.n70 h2.n70
  have hl : (prodl ws us).length = (prodl vs xs).length := by rw [prodl_len, prodl_len, h.w.len, h.v.len, h2.w.len, h2.v.len]
  obtain ⟨p1, p2, _, p4⟩ := both w1 w2 hl (by decide) (by decide)
  obtain ⟨a1, a2, a3, a4⟩ := h.both
  obtain ⟨b1, b2, b3, b4⟩ := h2.both
  obtain ⟨s3, e3, G3⟩ := a3 s2
  obtain ⟨s4, e4, G4⟩ := b3 s3
  have mem := fun {p} => prod_prw (p := p) (ws := ws) (vs := vs) (us := us) (xs := xs) (by rw [h2.w.len, h2.v.len]) (Int.ne_of_gt h.w.pos) (Int.ne_of_gt h2.w.pos) (Int.ne_of_gt h.v.pos) (Int.ne_of_gt h2.v.pos)
  have some_pos : ∀ {n : Nat} {ws vs : List Int}, Two n ws vs → ∃ p ∈ prw ws vs, 0 < p.1 := fun {n ws vs} h => by
    cases e : lss (prw ws vs) with
    | none =>
      have := lss_isL (prw ws vs)
      rw [e] at this
      obtain ⟨p, hp, h0, _⟩ := this
      exact ⟨p, hp, h0⟩
    | some L =>
      have := lss_isL (prw ws vs)
      rw [e] at this
      obtain ⟨p, hp, h0, _⟩ := (isL_hit h.pp this).2
      exact ⟨p, hp, h0⟩
  have isn : ∀ (x : Rat) (s : Store), oIs (qd x) .non s = .ok (.bl false) s := fun _ _ => rfl
  obtain ⟨P1, hP1⟩ : ∃ P1, P1 = itup (prodl ws us) := ⟨_, rfl⟩
  obtain ⟨P2, hP2⟩ : ∃ P2, P2 = itup (prodl vs xs) := ⟨_, rfl⟩
  rw [← hP1] at e1 p1
  rw [← hP2] at e2 p1
  have nn_case : (lss (prw ws vs) = none ∨ lss (prw us xs) = none) → lss (prw (prodl ws us) (prodl vs xs)) = none := fun hc => by
    refine isL_uniq (lss_isL _) ?_
    rcases hc with hc | hc
    · have := lss_isL (prw ws vs)
      rw [hc] at this
      obtain ⟨a, ha, a0, az⟩ := this
      obtain ⟨b, hb, b0⟩ := some_pos h2
      exact ⟨_, mem.mpr ⟨a, ha, b, hb, rfl⟩, Rat.mul_pos a0 b0, by show a.2 * b.2 = 0; rw [az, Rat.zero_mul]⟩
    · have := lss_isL (prw us xs)
      rw [hc] at this
      obtain ⟨b, hb, b0, bz⟩ := this
      obtain ⟨a, ha, a0⟩ := some_pos h
      exact ⟨_, mem.mpr ⟨a, ha, b, hb, rfl⟩, Rat.mul_pos a0 b0, by show a.2 * b.2 = 0; rw [bz, Rat.mul_zero]⟩
  unfold f__law_is_product_right
  rw [runB_e]
  unfold m__law_is_product_right
  cases c1 : lss (prw ws vs) with
  | none =>
    have z := nn_case (.inl c1)
    rw [z] at p1
    rw [c1] at a1 a4 e3
    obtain ⟨L2, hL2⟩ : ∃ L2, L2 = od (lss (prw us xs)) := ⟨_, rfl⟩
    rw [← hL2] at b1 b4 e4
    rw [show od none = D.non from rfl] at a1 a4 e3 p1
    exact ⟨s4, by simp [List.replicate, e1, e2, p1, a1, b1, e3, a4, e4, b4], ((G1.trans G2).trans G3).trans G4⟩
  | some L =>
    rw [c1] at a1 a4 e3
    rw [show od (some L) = qd L from rfl] at a1 a4 e3
    cases c2 : lss (prw us xs) with
    | none =>
      have z := nn_case (.inr c2)
      rw [z] at p1
      rw [c2] at b1 b4 e4
      rw [show od none = D.non from rfl] at b1 b4 e4 p1
      exact ⟨s4, by simp [List.replicate, e1, e2, p1, a1, b1, e3, a4, e4, b4, isn], ((G1.trans G2).trans G3).trans G4⟩
    | some N =>
      rw [c2] at b1 b4 e4
      rw [show od (some N) = qd N from rfl] at b1 b4 e4
      have i1 := lss_isL (prw ws vs)
      rw [c1] at i1
      have i2 := lss_isL (prw us xs)
      rw [c2] at i2
      obtain ⟨l1, x, hx, x0, xe⟩ := isL_hit h.pp i1
      obtain ⟨l2, y, hy, y0, ye⟩ := isL_hit h2.pp i2
      have L0 : 0 ≤ L := Rat.le_trans (by decide) i1.1
      have N0 : 0 ≤ N := Rat.le_trans (by decide) i2.1
      have LN : 1 ≤ L * N := by
        have := Rat.mul_le_mul_of_nonneg_left i2.1 L0
        rw [Rat.mul_one] at this
        exact Rat.le_trans i1.1 this
      have z : lss (prw (prodl ws us) (prodl vs xs)) = some (L * N) := by
        refine isL_uniq (lss_isL _) (isL_of (prw_pp w1 w2 hl) LN (fun p hp => ?_) ⟨_, mem.mpr ⟨x, hx, y, hy, rfl⟩, Rat.mul_pos x0 y0, ?_⟩)
        · obtain ⟨a, ha, b, hb, rfl⟩ := mem.mp hp
          have a1 := l1 a ha
          have b1 := l2 b hb
          have nb := (h2.pp.nn b hb)
          have na := (h.pp.nn a ha)
          have t1 := Rat.mul_le_mul_of_nonneg_right a1 nb.1
          have t2 := Rat.mul_le_mul_of_nonneg_left b1 (Rat.mul_nonneg L0 na.2)
          have t3 := Rat.le_trans t1 t2
          show a.1 * b.1 ≤ L * N * (a.2 * b.2)
          have e : L * a.2 * (N * b.2) = L * N * (a.2 * b.2) := by grind
          rwa [e] at t3
        · show x.1 * y.1 = L * N * (x.2 * y.2)
          rw [xe, ye]
          grind
      rw [z] at p1 p4
      rw [show od (some (L * N)) = qd (L * N) from rfl] at p1 p4
      have t := r_ltimesQ (st := s4) (a2 L c1) (b2 N c2) (by decide)
      exact ⟨s4, by simp [List.replicate, e1, e2, p1, a1, b1, e3, a4, e4, b4, isn, t, p4], ((G1.trans G2).trans G3).trans G4⟩
end

section
variable {st : Store} {ws vs us xs : List Int} {ns : List Int} {n k M : Nat}
/-- shares of six: the list at M holds refs to lines -/
structure Shr (ns : List Int) (m k M : Nat) (s : Store) (ps : List (Nat × List Int)) : Prop where
  g : lstAt s M = some (ps.map fun p => D.ref p.1)
  len : ps.length = m
  at' : ∀ p ∈ ps, lstAt s p.1 = some (p.2.map D.int) ∧ p.1 ≠ M ∧ 2 ≤ p.1
  ln : ∀ p ∈ ps, p.2.length = k ∧ (∀ x ∈ p.2, 0 ≤ x) ∧ p.2.sum = 6
  ds : DS ns s
  m2 : 2 ≤ M
theorem Shr.fr {m : Nat} {s s' : Store} {ps : List (Nat × List Int)} (h : Shr ns m k M s ps) (F : Fr s s') (Dx : DS ns s') : Shr ns m k M s' ps :=
  ⟨F.lst h.g (by have := h.m2; omega), h.len, fun p hp => by
    obtain ⟨a, b, c⟩ := h.at' p hp
    exact ⟨F.lst a (by omega), b, c⟩, h.ln, Dx, h.m2⟩
theorem Shr.gr {m : Nat} {s s' : Store} {ps : List (Nat × List Int)} (h : Shr ns m k M s ps) (F : Gr s s') : Shr ns m k M s' ps := h.fr F.fr (F.ds h.ds)
theorem sum_set1 : ∀ {l : List Int} {i : Nat} {x : Int}, l[i]? = some x → (l.set i (x + 1)).sum = l.sum + 1
  | [], _, _, h => by simp at h
  | a :: l, 0, x, h => by
    simp at h
    subst h
    rw [List.set_cons_zero, List.sum_cons, List.sum_cons]
    omega
  | a :: l, i + 1, x, h => by
    rw [List.set_cons_succ, List.sum_cons, List.sum_cons, sum_set1 (by simpa using h)]
    omega
theorem r_shares (H : DS ns st) (hn : 0 < n) (hn2 : n ≤ 70) (hk : 0 < k) (hk2 : k ≤ 10) : ∃ M ps st', f__law_shares_of_six [.ref 1, .int (n : Nat), .int (k : Nat)] st = .ok (.ref M) st' ∧ Shr ns n k M st' ps ∧ Fr st st' := by
  have l0 := H.len
  have lk : ((k : Nat) : Int).natAbs.log2 < 9000 := Nat.lt_of_le_of_lt (log2_le (k := 10) (by omega)) (by decide)
  obtain ⟨M, hM⟩ : ∃ M, M = st.length := ⟨_, rfl⟩
  obtain ⟨v0, s1, e1, a0, b0, D1, F1⟩ := r_draw (st := st ++ [.lst []]) (many := 3) H.app (by decide) (by decide)
  have g1 : lstAt s1 M = some [] := F1.lst (by rw [hM]; exact lstAt_new) (by omega)
  obtain ⟨z, hz⟩ : ∃ z : Bool, z = decide (v0 = 1) := ⟨_, rfl⟩
  have hr : ∀ s, rg1 (.int (n : Nat)) s = .ok (.fix (rng 0 n)) s := fun s => rg1_int (by omega)
  have hrk : ∀ s, rg1 (.int (k : Nat)) s = .ok (.fix (rng 0 k)) s := fun s => rg1_int (by omega)
  have hr6 : ∀ s, rg1 (.int 6) s = .ok (.fix (rng 0 ((6 : Nat) : Int))) s := fun s => rg1_int (by decide)
  obtain ⟨R6, hR6⟩ : ∃ R, R = rng 0 ((6 : Nat) : Int) := ⟨_, rfl⟩
  have hr6 : ∀ s, rg1 (.int 6) s = .ok (.fix R6) s := fun s => by rw [hr6, hR6]
  obtain ⟨U, hU⟩ : ∃ U : SM, U = sSeq (sIf (HM.tNot (tVal (eVar 4))) (sSet 7 (eCall 2 f__law_draw (aCons (eVar 0) (aCons (eVar 2) aNil)))) sNil)
    (sAugS oIAdd (eVar 6) (eVar 7) (eC (.int 1))) := ⟨_, rfl⟩
  obtain ⟨RK, hRK⟩ : ∃ R, R = rng 0 (k : Nat) := ⟨_, rfl⟩
  have lRK : RK.length ≤ 16777216 := by rw [hRK, rng_len]; omega
  have hrk : ∀ s, rg1 (.int (k : Nat)) s = .ok (.fix RK) s := fun s => by rw [hrk, hRK]
  obtain ⟨τ', s2, e2, ps, ⟨x5, x6, x7, x8, rfl⟩, S2, F2⟩ := for_inv (q := .fix (rng 0 n)) (set := gN 5) (u := sSeq (sSet 6 (eEl (lComp [9] (iRg1 (eVar 2)) (gN 9) HM.tYes (eC (.int 0)))))
    (sSeq (sSet 7 (eCall 2 f__law_draw (aCons (eVar 0) (aCons (eVar 2) aNil))))
    (sSeq (sFor (iRg1 (eC (.int 6))) (gN 8) U)
    (sExpr (eM "list" mAppend (eVar 3) (aCons (eVar 6) aNil))))))
    (fun j τ s => ∃ ps, (∃ x5 x6 x7 x8, τ = [some (.ref 1), some (.int (n : Nat)), some (.int (k : Nat)), some (.ref M), some (.bl z), x5, x6, x7, x8, none]) ∧ Shr ns j k M s ps ∧ Fr st s) (fun _ _ _ _ => rfl) (rng 0 n) 0 [some (.ref 1), some (.int (n : Nat)), some (.int (k : Nat)), some (.ref M), some (.bl z), none, none, none, none, none] s1 ⟨[], ⟨none, none, none, none, rfl⟩, ⟨g1, rfl, by simp, by simp, D1, by omega⟩, Fr.app.trans F1⟩ (by
      intro i d τ s hi hp
      obtain ⟨ps, ⟨x5, x6, x7, x8, rfl⟩, S, F⟩ := hp
      obtain ⟨hin, rfl⟩ := rngi hi
      -- a line of zeros
      have c0 := comp_map (q := .fix RK) (set := gN 9) (fe := eC (.int 0)) (τ := [some (.ref 1), some (.int (n : Nat)), some (.int (k : Nat)), some (.ref M), some (.bl z), some (.int (i : Nat)), x6, x7, x8, none]) (st := s) rfl (fun a : Nat => D.int (a : Nat)) (fun _ => .int 0) (List.range k) [] (fun a _ => ⟨[some (.ref 1), some (.int (n : Nat)), some (.int (k : Nat)), some (.ref M), some (.bl z), some (.int (i : Nat)), x6, x7, x8, some (.int (a : Nat))], rfl, rfl⟩)
      obtain ⟨z0, hz0⟩ : ∃ z0 : List Int, z0 = (List.range k).map fun _ => 0 := ⟨_, rfl⟩
      rw [← rng_eq, ← hRK, List.nil_append, show ((List.range k).map fun _ => D.int 0) = z0.map D.int by rw [hz0, List.map_map]; rfl] at c0
      have lz0 : z0.length = k := by rw [hz0]; simp
      have nz0 : ∀ x ∈ z0, 0 ≤ x := fun x hx => by
        rw [hz0] at hx
        obtain ⟨_, _, rfl⟩ := List.mem_map.mp hx
        decide
      have sz0 : z0.sum = 0 := by
        have : ∀ l : List Nat, (l.map fun _ => (0 : Int)).sum = 0 := fun l => by
          induction l with
          | nil => rfl
          | cons a l ih => rw [List.map_cons, List.sum_cons, ih]; rfl
        rw [hz0]
        exact this _
      obtain ⟨L, hL⟩ : ∃ L, L = s.length := ⟨_, rfl⟩
      obtain ⟨sa, hsa⟩ : ∃ sa, sa = s ++ [Cell.lst (z0.map D.int)] := ⟨_, rfl⟩
      have ga : lstAt sa L = some (z0.map D.int) := by rw [hsa, hL]; exact lstAt_new
      have Ga : Gr s sa := hsa ▸ .app
      have Sa := S.gr Ga
      have ML : M ≠ L := by have := lstAt_lt S.g; omega
      have L2 : 2 ≤ L := by have := S.ds.len; omega
      obtain ⟨v1, sb, eb, a1, b1, Db, Fb⟩ := r_draw (many := (k : Nat)) Sa.ds (by omega) lk
      obtain ⟨t, rfl⟩ : ∃ t : Nat, v1 = t := ⟨v1.toNat, by omega⟩
      obtain ⟨τ2, sc, ec, ln, t', ⟨x8', rfl⟩, gl, ll, lnn, lsum, ht', Sc, Fc⟩ := for_inv (q := .fix (rng 0 ((6 : Nat) : Int))) (set := gN 8) (u := U)
        (fun j τ s' => ∃ (ln : List Int) (t' : Nat), (∃ x8, τ = [some (.ref 1), some (.int (n : Nat)), some (.int (k : Nat)), some (.ref M), some (.bl z), some (.int (i : Nat)), some (.ref L), some (.int (t' : Nat)), x8, none]) ∧ lstAt s' L = some (ln.map D.int) ∧ ln.length = k ∧ (∀ x ∈ ln, 0 ≤ x) ∧ ln.sum = j ∧ t' < k ∧ Shr ns i k M s' ps ∧ Fr st s') (fun _ _ _ _ => rfl) (rng 0 ((6 : Nat) : Int)) 0 [some (.ref 1), some (.int (n : Nat)), some (.int (k : Nat)), some (.ref M), some (.bl z), some (.int (i : Nat)), some (.ref L), some (.int (t : Nat)), x8, none] sb ⟨z0, t, ⟨x8, rfl⟩, Fb.lst ga (by omega), lz0, nz0, sz0, by omega, by rw [Nat.zero_add] at Sa; exact Sa.fr Fb Db, (F.trans Ga.fr).trans Fb⟩ (by
          intro j d τ s' hi hp
          obtain ⟨ln, t', ⟨x8, rfl⟩, gl, ll, lnn, lsum, ht', Sx, Fx⟩ := hp
          -- where it goes
          obtain ⟨t2, sd, ed, ht2, Dd, Fd⟩ : ∃ (t2 : Nat) (sd : Store), sIf (HM.tNot (tVal (eVar 4))) (sSet 7 (eCall 2 f__law_draw (aCons (eVar 0) (aCons (eVar 2) aNil)))) sNil [some (.ref 1), some (.int (n : Nat)), some (.int (k : Nat)), some (.ref M), some (.bl z), some (.int (i : Nat)), some (.ref L), some (.int (t' : Nat)), some d, none] s' = .nx [some (.ref 1), some (.int (n : Nat)), some (.int (k : Nat)), some (.ref M), some (.bl z), some (.int (i : Nat)), some (.ref L), some (.int (t2 : Nat)), some d, none] sd ∧ t2 < k ∧ DS ns sd ∧ Fr s' sd := by
            cases z with
            | true => exact ⟨t', s', by simp, ht', Sx.ds, .refl⟩
            | false =>
              obtain ⟨v, sd, ed, av, bv, Dd, Fd⟩ := r_draw (many := (k : Nat)) Sx.ds (by omega) lk
              obtain ⟨t2, rfl⟩ : ∃ t2 : Nat, v = t2 := ⟨v.toNat, by omega⟩
              exact ⟨t2, sd, by simp [ed], by omega, Dd, Fd⟩
          have gd : lstAt sd L = some (ln.map D.int) := Fd.lst gl (by omega)
          have Sd := Sx.fr Fd Dd
          obtain ⟨x, hx⟩ : ∃ x, ln[t2]? = some x := ⟨ln[t2]'(by omega), by simp⟩
          have ix : oGetL (.ref L) (.int (t2 : Nat)) sd = .ok (.int x) sd := by
            rw [oGetL_ref gd]
            have : atI (ln.map D.int) (t2 : Nat) = some (.int x) := atI_nat (by rw [List.getElem?_map, hx]; rfl)
            rw [this]
            rfl
          have os := oSet_ref (k := (t2 : Nat)) (j := t2) (v := .int (x + 1)) gd (ixN_of (by rw [List.length_map]; omega))
          have xm := lnn x (List.mem_of_getElem? hx)
          refine ⟨[some (.ref 1), some (.int (n : Nat)), some (.int (k : Nat)), some (.ref M), some (.bl z), some (.int (i : Nat)), some (.ref L), some (.int (t' : Nat)), some d, none], rfl, [some (.ref 1), some (.int (n : Nat)), some (.int (k : Nat)), some (.ref M), some (.bl z), some (.int (i : Nat)), some (.ref L), some (.int (t2 : Nat)), some d, none], sd.set L (.lst ((ln.map D.int).set t2 (.int (x + 1)))), .inl ?_, ln.set t2 (x + 1), t2, ⟨_, rfl⟩, by rw [lstAt_set gd, List.map_set], by rw [List.length_set]; exact ll, set_nn lnn (by omega), by rw [sum_set1 hx, lsum]; omega, ht2, ?_, (Fx.trans Fd).put2 (by have := F.len; omega)⟩
          · rw [hU]
            simp [-sIf_e, ed, ix, os]
          · refine ⟨by rw [lstAt_ne ML]; exact Sd.g, Sd.len, fun p hp => ?_, Sd.ln, Sd.ds.put2 (by omega) (by omega), Sd.m2⟩
            obtain ⟨pa, pb, pc⟩ := Sd.at' p hp
            have : p.1 ≠ L := by
              have h1 := lstAt_lt (S.at' p hp).1
              omega
            exact ⟨by rw [lstAt_ne this]; exact pa, pb, pc⟩)
      rw [rng_len] at lsum
      have ap := mAppend_ref (x := .ref L) Sc.g (by rw [List.length_map, Sc.len]; omega)
      rw [← hR6] at ec
      rw [Nat.zero_add] at S
      refine ⟨[some (.ref 1), some (.int (n : Nat)), some (.int (k : Nat)), some (.ref M), some (.bl z), some (.int (i : Nat)), x6, x7, x8, none], rfl, [some (.ref 1), some (.int (n : Nat)), some (.int (k : Nat)), some (.ref M), some (.bl z), some (.int (i : Nat)), some (.ref L), some (.int (t' : Nat)), x8', none], sc.set M (.lst ((ps.map fun p => D.ref p.1) ++ [.ref L])), .inl ?_, ps ++ [(L, ln)], ⟨_, _, _, _, rfl⟩, ⟨by rw [lstAt_set Sc.g]; simp, by rw [List.length_append, Sc.len, List.length_singleton]; omega, fun p hp => ?_, fun p hp => ?_, Sc.ds.put2 (by omega) (by omega), Sc.m2⟩, Fc.put2 (by omega)⟩
      · obtain ⟨PR, hPR⟩ : ∃ PR, PR = ps.map fun p => D.ref p.1 := ⟨_, rfl⟩
        obtain ⟨Z, hZ⟩ : ∃ Z, Z = z0.map D.int := ⟨_, rfl⟩
        rw [← hZ] at c0 hsa
        simp [lComp_e, lc1, wipeD, hrk, lRK, c0, ← hL, ← hsa, eb, sFor_e, hr6, ec, okT_ref Sc.g, ap]
      · rcases List.mem_append.mp hp with hp | hp
        · obtain ⟨pa, pb, pc⟩ := Sc.at' p hp
          exact ⟨by rw [lstAt_ne pb]; exact pa, pb, pc⟩
        · rw [List.mem_singleton.mp hp]
          exact ⟨by rw [lstAt_ne (Ne.symm ML)]; exact gl, Ne.symm ML, L2⟩
      · rcases List.mem_append.mp hp with hp | hp
        · exact Sc.ln p hp
        · rw [List.mem_singleton.mp hp]
          exact ⟨ll, lnn, by rw [lsum]; rfl⟩)
  rw [Nat.zero_add, rng_len] at S2
  refine ⟨M, ps, s2, ?_, S2, F2⟩
  obtain ⟨R, hR⟩ : ∃ R, R = rng 0 (n : Nat) := ⟨_, rfl⟩
  have hr : ∀ s, rg1 (.int (n : Nat)) s = .ok (.fix R) s := fun s => by rw [hr, hR]
  rw [← hR] at e2
  unfold f__law_shares_of_six
  rw [runB_e]
  unfold m__law_shares_of_six
  rw [← hU]
  simp [List.replicate, ← hM, e1, ← hz, sFor_e, hr, e2]
end

def rowsD (rows : List (List Int)) : D := .tup (rows.map itup)
theorem ix_rows {rows : List (List Int)} {v : Nat} {xs : List Int} (h : rows[v]? = some xs) {s : Store} : oIx (rowsD rows) (.int (v : Nat)) s = .ok (itup xs) s := by
  unfold rowsD
  rw [oIx_tup]
  have : atI (rows.map itup) (v : Nat) = some (itup xs) := atI_nat (by rw [List.getElem?_map, h]; rfl)
  rw [this]
  rfl
def gr (rows : List (List Int)) (v : Nat) : List Int := rows.getD v []
theorem gr_get {rows : List (List Int)} {v : Nat} (h : v < rows.length) : rows[v]? = some (gr rows v) := by
  simp [gr, List.getD, h]
section
variable {st : Store} {m : Nat} {p q : Int}
def prD (p : Nat × Nat) : D := .tup [.int (p.1 : Nat), .int (p.2 : Nat)]
def pl (rows : List (List Int)) (p : Nat × Nat) : Option Rat := lss (prw (gr rows p.1) (gr rows p.2))
def tot (rows : List (List Int)) (l : List (Nat × Nat)) : Option Rat := l.foldl (fun b p => glo b (pl rows p)) (some 1)
theorem glo_ge {a b : Option Rat} (ha : ∀ x, a = some x → 1 ≤ x) : ∀ x, glo a b = some x → 1 ≤ x := fun x hx => by
  cases a with
  | none => cases hx
  | some y =>
    cases b with
    | none => cases hx
    | some z =>
      have hx : some (if y < z then z else y) = some x := hx
      have := ha y rfl
      split at hx <;> cases hx
      · exact Rat.le_trans this (Rat.le_of_lt (by assumption))
      · exact this
theorem r_rows_loss {rows : List (List Int)} (h : ∀ xs ∈ rows, Rw m xs) (m70 : m ≤ 70) {l : List (Nat × Nat)} (hl : ∀ p ∈ l, p.1 < rows.length ∧ p.2 < rows.length) :
    f_rows_loss [rowsD rows, .tup (l.map prD)] st = .ok (od (tot rows l)) st ∧ OB 280 (tot rows l) ∧ ∀ x, tot rows l = some x → 1 ≤ x := by
  have main := for_fold (q := .fix (l.map prD)) (set := gT 2 (gCs 3 (gCs 4 gNil0))) (u := sSet 2 (eCall 2 f_greater_loss (aCons (eVar 2) (aCons (eCall 2 f_row_loss (aCons (eBin oIx (eVar 0) (eVar 3)) (aCons (eBin oIx (eVar 0) (eVar 4)) aNil))) aNil)))) (st := st) rfl prD
    (fun (b : Option Rat × Option D × Option D) p => (glo b.1 (pl rows p), some (.int (p.1 : Nat)), some (.int (p.2 : Nat)))) (fun b _ => [some (rowsD rows), some (.tup (l.map prD)), some (od b.1), b.2.1, b.2.2]) (fun b => OB 280 b.1 ∧ ∀ x, b.1 = some x → 1 ≤ x) l (some 1, none, none) none ⟨fun x hx => by cases hx; exact qb_one (by decide), fun x hx => by cases hx; exact Rat.le_refl⟩ (fun b t p hp hb => by
      have hv := hl p hp
      have g1 := gr_get (rows := rows) (v := p.1) hv.1
      have g2 := gr_get (rows := rows) (v := p.2) hv.2
      have d1 := h _ (List.mem_of_getElem? g1)
      have w1 := d1.wt m70
      have d2 := h _ (List.mem_of_getElem? g2)
      have w2 := d2.wt m70
      obtain ⟨z, o⟩ := r_row_lossQ (st := st) w1 w2 (by rw [d1.len, d2.len]) (by decide) (by decide)
      have i1 := ix_rows g1 (s := st)
      have i2 := ix_rows g2 (s := st)
      have z2 := r_greaterQ (st := st) hb.1 o (by decide)
      exact ⟨⟨hb.1.glo o, glo_ge hb.2⟩, [some (rowsD rows), some (.tup (l.map prD)), some (od b.1), some (.int (p.1 : Nat)), some (.int (p.2 : Nat))], rfl, by simp [i1, i2, z, z2]; rfl⟩)
  obtain ⟨⟨t', e⟩, h2⟩ := main
  have hfst : ∀ (l : List (Nat × Nat)) (a : Option Rat) (x y : Option D), (l.foldl (fun (b : Option Rat × Option D × Option D) p => (glo b.1 (pl rows p), some (.int (p.1 : Nat)), some (.int (p.2 : Nat)))) (a, x, y)).1 = l.foldl (fun b p => glo b (pl rows p)) a := fun l => by
    induction l with
    | nil => intro a x y; rfl
    | cons p l ih => intro a x y; exact ih _ _ _
  rw [hfst] at h2
  refine ⟨?_, h2⟩
  have e : forL (.fix (l.map prD)) (gT 2 (gCs 3 (gCs 4 gNil0))) (sSet 2 (eCall 2 f_greater_loss (aCons (eVar 2) (aCons (eCall 2 f_row_loss (aCons (eBin oIx (eVar 0) (eVar 3)) (aCons (eBin oIx (eVar 0) (eVar 4)) aNil))) aNil)))) (l.map prD) [some (rowsD rows), some (.tup (l.map prD)), some (qd 1), none, none] st = _ := e
  rw [hfst] at e
  obtain ⟨Z, hZ⟩ : ∃ Z, Z = l.map prD := ⟨_, rfl⟩
  rw [← hZ] at e ⊢
  unfold f_rows_loss
  rw [runB_e]
  unfold m_rows_loss
  have q1 : q_ONE = qd 1 := rfl
  simp [List.replicate, q1, sFor_e, e]
  rfl
end

section
variable {st : Store} {ws vs us xs : List Int} {ns : List Int} {n k M : Nat}
theorem sum_swap {f : Nat → Nat → Int} {n : Nat} : ∀ k : Nat, ((List.range k).map fun b => ((List.range n).map fun a => f a b).sum).sum = ((List.range n).map fun a => ((List.range k).map fun b => f a b).sum).sum
  | 0 => by
    have : ∀ l : List Nat, (l.map fun _ => (0 : Int)).sum = 0 := fun l => by
      induction l with
      | nil => rfl
      | cons a l ih => rw [List.map_cons, List.sum_cons, ih]; rfl
    simp
    exact (this _).symm
  | k + 1 => by
    have add : ∀ (l : List Nat) (g h : Nat → Int), (l.map fun a => g a + h a).sum = (l.map g).sum + (l.map h).sum := fun l g h => by
      induction l with
      | nil => rfl
      | cons a l ih => rw [List.map_cons, List.map_cons, List.map_cons, List.sum_cons, List.sum_cons, List.sum_cons, ih]; omega
    rw [List.range_succ, List.map_append, List.sum_append, sum_swap k]
    simp only [List.map_append, List.sum_append, List.map_cons, List.map_nil, List.sum_cons, List.sum_nil, Int.add_zero]
    rw [add]
def lnof (ps : List (Nat × List Int)) (a : Nat) : List Int := (ps.getD a (0, [])).2
def sentb (ws : List Int) (ps : List (Nat × List Int)) (n b : Nat) : Int := ((List.range n).map fun a => gw ws a * gw (lnof ps a) b).sum
def sent (ws : List Int) (ps : List (Nat × List Int)) (n k : Nat) : List Int := (List.range k).map (sentb ws ps n)
theorem map_gw (h : ws.length = n) : (List.range n).map (gw ws) = ws := by
  refine List.ext_getElem (by simp [h]) fun i h1 h2 => ?_
  simp [gw, List.getD, h2]
theorem lnof_mem {ps : List (Nat × List Int)} {a : Nat} (h : a < ps.length) : ∃ r, ps[a]? = some (r, lnof ps a) := by
  refine ⟨(ps[a]).1, ?_⟩
  simp [lnof, List.getD, h]
theorem sent_sum {s : Store} {ps : List (Nat × List Int)} (S : Shr ns n k M s ps) (h : Rw n ws) : (sent ws ps n k).sum = ws.sum * 6 := by
  unfold sent sentb
  rw [sum_swap]
  have e : ((List.range n).map fun a => ((List.range k).map fun b => gw ws a * gw (lnof ps a) b).sum) = (List.range n).map fun a => gw ws a * 6 := by
    refine List.map_congr_left fun a ha => ?_
    obtain ⟨r, er⟩ := lnof_mem (ps := ps) (a := a) (by rw [S.len]; exact List.mem_range.mp ha)
    obtain ⟨l1, _, l3⟩ := S.ln _ (List.mem_of_getElem? er)
    have l1 : (lnof ps a).length = k := l1
    have l3 : (lnof ps a).sum = 6 := l3
    have e2 : ((List.range k).map fun b => gw ws a * gw (lnof ps a) b) = ((List.range k).map (gw (lnof ps a))).map (gw ws a * ·) := by rw [List.map_map]; rfl
    rw [e2, map_gw l1, sum_mulL, l3]
  rw [e]
  have e3 : ((List.range n).map fun a => gw ws a * 6) = ((List.range n).map (gw ws)).map (· * 6) := by rw [List.map_map]; rfl
  rw [e3, map_gw h.len, sum_mulF]
theorem gl_bd {s : Store} {ps : List (Nat × List Int)} (S : Shr ns n k M s ps) {a b : Nat} (ha : a < n) (hb : b < k) : 0 ≤ gw (lnof ps a) b ∧ gw (lnof ps a) b ≤ 6 := by
  obtain ⟨r, er⟩ := lnof_mem (ps := ps) (a := a) (by rw [S.len]; exact ha)
  obtain ⟨l1, l2, l3⟩ := S.ln _ (List.mem_of_getElem? er)
  have l1 : (lnof ps a).length = k := l1
  have l3 : (lnof ps a).sum = 6 := l3
  have hm := List.mem_of_getElem? (gw_get (ws := lnof ps a) (a := b) (by rw [l1]; exact hb))
  have := sum_ge l2 hm
  have := l2 _ hm
  omega
theorem sentb_nn {s : Store} {ps : List (Nat × List Int)} (S : Shr ns n k M s ps) (h : Rw n ws) {b : Nat} (hb : b < k) : 0 ≤ sentb ws ps n b := by
  refine sum_nn fun x hx => ?_
  obtain ⟨a, ha, rfl⟩ := List.mem_map.mp hx
  have ha := List.mem_range.mp ha
  exact Int.mul_nonneg (gw_bd h ha).1 (gl_bd S ha hb).1
theorem sent_wt {s : Store} {ps : List (Nat × List Int)} (S : Shr ns n k M s ps) (h : Rw n ws) (hn : n ≤ 70) (hk : k ≤ 10) : Wt 150 (sent ws ps n k) := by
  refine ⟨fun x hx => ?_, ?_, ?_, by unfold sent; rw [List.length_map, List.length_range]; omega⟩
  · obtain ⟨b, hb, rfl⟩ := List.mem_map.mp hx
    exact sentb_nn S h (List.mem_range.mp hb)
  · rw [sent_sum S h]
    have := h.pos
    omega
  · rw [sent_sum S h]
    exact lt_up (mul_lt (k := 140) (l := 4) (h.wt hn).bd (by decide)) (by decide)
theorem r_sent {ps : List (Nat × List Int)} (S : Shr ns n k M st ps) (h : Rw n ws) (hn : 0 < n) (hn2 : n ≤ 70) (hk : k ≤ 10) : ∃ st', f__law_sent_on [itup ws, .ref M] st = .ok (itup (sent ws ps n k)) st' ∧ Gr st st' := by
  obtain ⟨F, hF⟩ : ∃ F, F = st.length := ⟨_, rfl⟩
  have MF : M < F := by rw [hF]; exact lstAt_lt S.g
  have f : ∀ s, fLen [itup ws] s = .ok (.int (n : Nat)) s := fun s => by unfold itup; rw [fLen_tup, List.length_map, h.len]
  have hr : ∀ s, rg1 (.int (n : Nat)) s = .ok (.fix (rng 0 n)) s := fun s => rg1_int (by omega)
  have hrk : ∀ s, rg1 (.int (k : Nat)) s = .ok (.fix (rng 0 k)) s := fun s => rg1_int (by omega)
  obtain ⟨R, hR⟩ : ∃ R, R = rng 0 (n : Nat) := ⟨_, rfl⟩
  have lR : R.length ≤ 16777216 := by rw [hR, rng_len]; omega
  have hr2 : ∀ s, rg1 (.int (n : Nat)) s = .ok (.fix R) s := fun s => by rw [hr, hR]
  have ixM : ∀ s, Gr st s → ∀ a, a < n → ∃ r, oIx (.ref M) (.int (a : Nat)) s = .ok (.ref r) s ∧ lstAt s r = some ((lnof ps a).map D.int) ∧ (lnof ps a).length = k := fun s G a ha => by
    obtain ⟨r, er⟩ := lnof_mem (ps := ps) (a := a) (by rw [S.len]; exact ha)
    have hm := List.mem_of_getElem? er
    refine ⟨r, ?_, G.lst (S.at' _ hm).1, (S.ln _ hm).1⟩
    rw [oIx_ref (G.lst S.g)]
    have : atI (ps.map fun p => D.ref p.1) (a : Nat) = some (.ref r) := atI_nat (by rw [List.getElem?_map, er]; rfl)
    rw [this]
    rfl
  obtain ⟨τ', s1, e1, ⟨x3, rfl⟩, g1, G1⟩ := for_inv (q := .fix (rng 0 k)) (set := gN 3) (u := sExpr (eM "list" mAppend (eVar 2) (aCons (eCS gSum (lComp [4] (iRg1 (eCB fLen (aCons (eVar 0) aNil))) (gN 4) HM.tYes (eBin oMul (eBin oIx (eVar 0) (eVar 4)) (eBin oIx (eBin oIx (eVar 1) (eVar 4)) (eVar 3))))) aNil)))
    (fun j τ s => (∃ x3, τ = [some (itup ws), some (.ref M), some (.ref F), x3, none]) ∧ lstAt s F = some (((List.range j).map (sentb ws ps n)).map D.int) ∧ Gr st s) (fun _ _ _ _ => rfl) (rng 0 k) 0 [some (itup ws), some (.ref M), some (.ref F), none, none] (st ++ [.lst []]) ⟨⟨none, rfl⟩, by rw [hF]; simp [lstAt], .app⟩ (by
      intro i d τ s hi hp
      obtain ⟨⟨x3, rfl⟩, g, G⟩ := hp
      rw [Nat.zero_add] at g ⊢
      obtain ⟨hik, rfl⟩ := rngi hi
      have c := comp_map (q := .fix (rng 0 n)) (set := gN 4) (fe := eBin oMul (eBin oIx (eVar 0) (eVar 4)) (eBin oIx (eBin oIx (eVar 1) (eVar 4)) (eVar 3))) (τ := [some (itup ws), some (.ref M), some (.ref F), some (.int (i : Nat)), none]) (st := s) rfl (fun a : Nat => D.int (a : Nat)) (fun a => .int (gw ws a * gw (lnof ps a) i)) (List.range n) [] (fun a ha => by
        have ha := List.mem_range.mp ha
        obtain ⟨r, er, gr', lr⟩ := ixM s G a ha
        have i1 := ix_itup (gw_get (ws := ws) (a := a) (by rw [h.len]; exact ha)) (s := s)
        have i2 : oIx (.ref r) (.int (i : Nat)) s = .ok (.int (gw (lnof ps a) i)) s := by
          rw [oIx_ref gr']
          have : atI ((lnof ps a).map D.int) (i : Nat) = some (.int (gw (lnof ps a) i)) := atI_nat (by rw [List.getElem?_map, gw_get (by rw [lr]; exact hik)]; rfl)
          rw [this]
          rfl
        have b := gl_bd S ha hik
        have o : okMul (gw ws a) (gw (lnof ps a) i) = true := okMul_r (by omega)
        exact ⟨[some (itup ws), some (.ref M), some (.ref F), some (.int (i : Nat)), some (.int (a : Nat))], rfl, by simp [i1, er, i2, o]⟩)
      rw [← rng_eq, List.nil_append, ← hR, show ((List.range n).map fun a => D.int (gw ws a * gw (lnof ps a) i)) = ((List.range n).map fun a => gw ws a * gw (lnof ps a) i).map D.int by rw [List.map_map]; rfl] at c
      have sm : gSum (((List.range n).map fun a => gw ws a * gw (lnof ps a) i).map D.int) s = .ok (.int (sentb ws ps n i)) s := gSum_ints
      obtain ⟨Y, hY⟩ : ∃ Y, Y = ((List.range n).map fun a => gw ws a * gw (lnof ps a) i).map D.int := ⟨_, rfl⟩
      rw [← hY] at c sm
      have ap := mAppend_ref (x := .int (sentb ws ps n i)) g (by rw [List.length_map, List.length_map, List.length_range]; omega)
      have es : ((List.range (i + 1)).map (sentb ws ps n)).map D.int = ((List.range i).map (sentb ws ps n)).map D.int ++ [.int (sentb ws ps n i)] := by
        rw [List.range_succ, List.map_append, List.map_append]
        rfl
      obtain ⟨X, hX⟩ : ∃ X, X = ((List.range i).map (sentb ws ps n)).map D.int := ⟨_, rfl⟩
      rw [← hX] at g ap es
      refine ⟨[some (itup ws), some (.ref M), some (.ref F), some (.int (i : Nat)), none], rfl, [some (itup ws), some (.ref M), some (.ref F), some (.int (i : Nat)), none], s.set F (.lst (X ++ [.int (sentb ws ps n i)])), .inl ?_, ⟨_, rfl⟩, by rw [es]; exact lstAt_set g, G.put (by omega)⟩
      simp [okT_ref g, f, lComp_e, lc1, wipeD, hr2, lR, c, sm, ap])
  rw [Nat.zero_add, rng_len] at g1
  obtain ⟨r0, er0, gr0, lr0⟩ := ixM (st ++ [.lst []]) .app 0 hn
  have f0 : fLen [.ref r0] (st ++ [.lst []]) = .ok (.int (k : Nat)) (st ++ [.lst []]) := by rw [fLen_ref gr0, List.length_map, lr0]
  have er0 : oIx (.ref M) (.int 0) (st ++ [.lst []]) = .ok (.ref r0) (st ++ [.lst []]) := er0
  obtain ⟨RK, hRK⟩ : ∃ R, R = rng 0 (k : Nat) := ⟨_, rfl⟩
  have hrk : ∀ s, rg1 (.int (k : Nat)) s = .ok (.fix RK) s := fun s => by rw [hrk, hRK]
  rw [← hRK] at e1
  have eS : itup (sent ws ps n k) = .tup (((List.range k).map (sentb ws ps n)).map D.int) := rfl
  obtain ⟨X, hX⟩ : ∃ X, X = ((List.range k).map (sentb ws ps n)).map D.int := ⟨_, rfl⟩
  rw [← hX] at g1 eS
  rw [eS]
  refine ⟨s1, ?_, G1⟩
  unfold f__law_sent_on
  rw [runB_e]
  unfold m__law_sent_on
  simp [List.replicate, ← hF, er0, f0, sFor_e, hrk, e1, fTuple_ref g1]
theorem r_mill_right {ps : List (Nat × List Int)} (S : Shr ns n k M st ps) (h : Two n ws vs) (hk : k ≤ 10) : ∃ st', f__law_is_mill_right [itup ws, itup vs, .ref M] st = .ok (.bl true) st' ∧ Gr st st' := by
  obtain ⟨s1, e1, G1⟩ := r_sent S h.w h.n0 h.n70 hk
  obtain ⟨s2, e2, G2⟩ := r_sent (S.gr G1) h.v h.n0 h.n70 hk
  have w1 := sent_wt S h.w h.n70 hk
  have w2 := sent_wt S h.v h.n70 hk
  have hl : (sent ws ps n k).length = (sent vs ps n k).length := by unfold sent; simp
  obtain ⟨p1, p2, p3, p4⟩ := both w1 w2 hl (by decide) (by decide)
  obtain ⟨a1, a2, a3, a4⟩ := h.both
  obtain ⟨s3, e3, G3⟩ := p3 s2
  obtain ⟨s4, e4, G4⟩ := a3 s3
  have isn : ∀ (x : Rat) (s : Store), oIs (qd x) .non s = .ok (.bl false) s := fun _ _ => rfl
  have isn2 : ∀ (x : Rat) (s : Store), oIsNot (qd x) .non s = .ok (.bl true) s := fun _ _ => rfl
  obtain ⟨P1, hP1⟩ : ∃ P1, P1 = itup (sent ws ps n k) := ⟨_, rfl⟩
  obtain ⟨P2, hP2⟩ : ∃ P2, P2 = itup (sent vs ps n k) := ⟨_, rfl⟩
  rw [← hP1] at e1 p1 e3
  rw [← hP2] at e2 p1 e3
  obtain ⟨PL, hPL⟩ : ∃ PL, PL = od (lss (prw (sent ws ps n k) (sent vs ps n k))) := ⟨_, rfl⟩
  rw [← hPL] at p1 p4 e3
  refine ⟨s4, ?_, ((G1.trans G2).trans G3).trans G4⟩
  unfold f__law_is_mill_right
  rw [runB_e]
  unfold m__law_is_mill_right
  cases c1 : lss (prw ws vs) with
  | none =>
    rw [c1] at a1 a4 e4
    rw [show od none = D.non from rfl] at a1 a4 e4
    simp [List.replicate, e1, e2, p1, a1, e3, p4, e4, a4]
  | some L =>
    have i1 := lss_isL (prw ws vs)
    rw [c1] at i1
    have g1 : 1 ≤ L := i1.1
    have L0 : 0 ≤ L := Rat.le_trans (by decide) g1
    obtain ⟨le, _⟩ := two_some h c1
    have pp := prw_pp w1 w2 hl
    have le2 : ∀ p ∈ prw (sent ws ps n k) (sent vs ps n k), p.1 ≤ L * p.2 := fun p hp => by
      obtain ⟨b, x, y, hx, hy, rfl⟩ := prw_idx hp
      have hb : b < k := by
        have := (List.getElem?_eq_some_iff.mp hx).1
        unfold sent at this
        simpa using this
      have ex : x = sentb ws ps n b := by
        unfold sent at hx
        rw [List.getElem?_map, List.getElem?_range hb] at hx
        exact (Option.some.inj hx).symm
      have ey : y = sentb vs ps n b := by
        unfold sent at hy
        rw [List.getElem?_map, List.getElem?_range hb] at hy
        exact (Option.some.inj hy).symm
      have key : ((x * vs.sum : Int) : Rat) ≤ L * ((y * ws.sum : Int) : Rat) := by
        rw [ex, ey]
        unfold sentb
        have gen : ∀ l : List Nat, (∀ a ∈ l, a < n) → ((((l.map fun a => gw ws a * gw (lnof ps a) b).sum * vs.sum : Int)) : Rat) ≤ L * ((((l.map fun a => gw vs a * gw (lnof ps a) b).sum * ws.sum : Int)) : Rat) := fun l => by
          induction l with
          | nil => intro _; simp
          | cons a l ih =>
            intro hl
            have ih := ih fun x hx => hl x (List.mem_cons_of_mem _ hx)
            have ha := hl a (List.mem_cons_self ..)
            have l1 := le a (gw ws a) (gw vs a) (gw_get (by rw [h.w.len]; exact ha)) (gw_get (by rw [h.v.len]; exact ha))
            have m0 : (0 : Rat) ≤ (gw (lnof ps a) b : Int) := Rat.intCast_nonneg.mpr (gl_bd S ha hb).1
            have l2 := Rat.mul_le_mul_of_nonneg_right l1 m0
            rw [List.map_cons, List.map_cons, List.sum_cons, List.sum_cons, Int.add_mul, Int.add_mul, Rat.intCast_add, Rat.intCast_add]
            have e1 : ((gw ws a * gw (lnof ps a) b * vs.sum : Int) : Rat) = ((gw ws a * vs.sum : Int) : Rat) * (gw (lnof ps a) b : Int) := by
              rw [Rat.intCast_mul, Rat.intCast_mul, Rat.intCast_mul]
              grind
            have e2 : ((gw vs a * gw (lnof ps a) b * ws.sum : Int) : Rat) = ((gw vs a * ws.sum : Int) : Rat) * (gw (lnof ps a) b : Int) := by
              rw [Rat.intCast_mul, Rat.intCast_mul, Rat.intCast_mul]
              grind
            rw [e1, e2, Rat.mul_add, ← Rat.mul_assoc]
            exact Rat.le_trans (Rat.add_le_add_right.mpr l2) (Rat.add_le_add_left.mpr ih)
        exact gen _ fun a ha => List.mem_range.mp ha
      show ch (sent ws ps n k) x ≤ L * ch (sent vs ps n k) y
      have q1 : ch (sent ws ps n k) x * ((ws.sum * 6 : Int) : Rat) = x := by
        rcases ch_eq (ws := sent ws ps n k) (w := x) with e | e
        · rwa [sent_sum S h.w] at e
        · have := w1.pos; omega
      have q2 : ch (sent vs ps n k) y * ((vs.sum * 6 : Int) : Rat) = y := by
        rcases ch_eq (ws := sent vs ps n k) (w := y) with e | e
        · rwa [sent_sum S h.v] at e
        · have := w2.pos; omega
      have Sp := h.w.sq
      have Tp := h.v.sq
      have pos : (0 : Rat) < ((ws.sum * 6 : Int) : Rat) * ((vs.sum : Int) : Rat) := Rat.mul_pos (Rat.intCast_pos.mpr (by have := h.w.pos; omega)) Tp
      refine Rat.le_of_mul_le_mul_right ?_ pos
      have t1 : ch (sent ws ps n k) x * (((ws.sum * 6 : Int) : Rat) * ((vs.sum : Int) : Rat)) = ((x * vs.sum : Int) : Rat) := by
        rw [← Rat.mul_assoc, q1, Rat.intCast_mul]
      have t2 : L * ch (sent vs ps n k) y * (((ws.sum * 6 : Int) : Rat) * ((vs.sum : Int) : Rat)) = L * ((y * ws.sum : Int) : Rat) := by
        rw [Rat.intCast_mul y, ← q2, Rat.intCast_mul, Rat.intCast_mul]
        grind
      rw [t1, t2]
      exact key
    rw [c1] at a1 a4 e4
    rw [show od (some L) = qd L from rfl] at a1 a4 e4
    cases c2 : lss (prw (sent ws ps n k) (sent vs ps n k)) with
    | none => exact absurd c2 (not_none pp le2)
    | some P =>
      have i2 := lss_isL (prw (sent ws ps n k) (sent vs ps n k))
      rw [c2] at i2
      have hle := isL_le pp i2 g1 le2
      have z := r_llessQ (st := s4) (a2 L c1) (p2 P c2) (by decide)
      rw [decide_eq_false (Rat.not_lt.mpr hle)] at z
      rw [c2, show od (some P) = qd P from rfl] at hPL
      rw [hPL] at p1 p4 e3
      simp [List.replicate, e1, e2, p1, a1, e3, p4, e4, a4, isn, isn2, z]
end

section
variable {st : Store} {ws vs us xs : List Int} {ns : List Int} {n k M : Nat}
theorem lg10 {k : Int} (h : k.natAbs < 1000) : k.natAbs.log2 < 9000 := Nat.lt_of_le_of_lt (log2_le (k := 10) (by omega)) (by decide)
theorem r_small_right (H : DS ns st) : ∃ st', f__law_are_small_right [.ref 1] st = .ok (.bl true) st' ∧ DS ns st' ∧ Fr st st' := by
  obtain ⟨v1, s1, e1, a1, b1, D1, F1⟩ := r_draw (many := 5) H (by decide) (by decide)
  obtain ⟨n, hn⟩ : ∃ n : Nat, (n : Int) = 1 + v1 := ⟨(1 + v1).toNat, by omega⟩
  have n0 : 0 < n := by omega
  have n5 : n ≤ 70 := by omega
  obtain ⟨v2, s2, e2, a2, b2, D2, F2⟩ := r_draw (many := 2) D1 (by decide) (by decide)
  obtain ⟨ws, s3, e3, hw, D3, F3⟩ := r_row (n := n) (z := decide (v2 = 1)) D2 n0 n5
  obtain ⟨vs, s4, e4, hv, D4, F4⟩ := r_other_row D3 hw n0 n5
  obtain ⟨us, s5, e5, hu, D5, F5⟩ := r_other_row D4 hv n0 n5
  have t1 : Two n ws vs := ⟨hw, hv, n0, n5⟩
  have t2 : Two n vs us := ⟨hv, hu, n0, n5⟩
  obtain ⟨s6, e6, G6⟩ := r_three_right D5 t1 t2
  obtain ⟨v7, s7, e7, a7, b7, D7, F7⟩ := r_draw (many := 9) (G6.ds D5) (by decide) (by decide)
  obtain ⟨A, hA⟩ : ∃ A : Int, A = 1 + v7 := ⟨_, rfl⟩
  have m1 := r_multiplied (st := s7) (F := A) hw n5 (by omega) (by omega)
  obtain ⟨v8, s8, e8, a8, b8, D8, F8⟩ := r_draw (many := 9) D7 (by decide) (by decide)
  obtain ⟨B, hB⟩ : ∃ B : Int, B = 1 + v8 := ⟨_, rfl⟩
  have m2 := r_multiplied (st := s8) (F := B) hv n5 (by omega) (by omega)
  have w1 := mulF_wt (F := A) hw n5 (by omega) (by omega)
  have w2 := mulF_wt (F := B) hv n5 (by omega) (by omega)
  obtain ⟨p1, _, _, _⟩ := both w1 w2 (by rw [List.length_map, List.length_map, hw.len, hv.len]) (by decide) (by decide)
  rw [mulF_prw hw hv (by omega) (by omega)] at p1
  obtain ⟨_, _, q3, q4⟩ := t1.both
  obtain ⟨s9, e9, G9⟩ := q3 s8
  obtain ⟨L, hL⟩ : ∃ L, L = od (lss (prw ws vs)) := ⟨_, rfl⟩
  rw [← hL] at p1 e9 q4
  obtain ⟨v10, s10, e10, a10, b10, D10, F10⟩ := r_draw (many := 3) (G9.ds D8) (by decide) (by decide)
  obtain ⟨k, hk⟩ : ∃ k : Nat, (k : Int) = 1 + v10 := ⟨(1 + v10).toNat, by omega⟩
  obtain ⟨v11, s11, e11, a11, b11, D11, F11⟩ := r_draw (many := 3) D10 (by decide) (by decide)
  obtain ⟨ls, s12, e12, hl, D12, F12⟩ := r_row (n := k) (z := decide (v11 = 1)) D11 (by omega) (by omega)
  obtain ⟨rs, s13, e13, hrs, D13, F13⟩ := r_other_row D12 hl (by omega) (by omega)
  obtain ⟨s14, e14, G14⟩ := r_product_right (st := s13) t1 (⟨hl, hrs, by omega, by omega⟩ : Two k ls rs)
  obtain ⟨v15, s15, e15, a15, b15, D15, F15⟩ := r_draw (many := 4) (G14.ds D13) (by decide) (by decide)
  obtain ⟨j, hj⟩ : ∃ j : Nat, (j : Int) = 1 + v15 := ⟨(1 + v15).toNat, by omega⟩
  obtain ⟨M, ps, s16, e16, S16, F16⟩ := r_shares (n := n) (k := j) D15 n0 n5 (by omega) (by omega)
  obtain ⟨s17, e17, G17⟩ := r_mill_right S16 t1 (by omega)
  obtain ⟨XA, hXA⟩ : ∃ X, X = itup (ws.map (· * A)) := ⟨_, rfl⟩
  obtain ⟨XB, hXB⟩ : ∃ X, X = itup (vs.map (· * B)) := ⟨_, rfl⟩
  rw [← hXA] at m1 p1
  rw [← hXB] at m2 p1
  refine ⟨s17, ?_, G17.ds S16.ds, (((((((((((((((F1.trans F2).trans F3).trans F4).trans F5).trans G6.fr).trans F7).trans F8).trans G9.fr).trans F10).trans F11).trans F12).trans F13).trans G14.fr).trans F15).trans F16).trans G17.fr⟩
  unfold f__law_are_small_right
  rw [runB_e]
  unfold m__law_are_small_right
  simp [List.replicate, e1, ← hn, e2, e3, e4, e5, e6, e7, ← hA, m1, e8, ← hB, m2, p1, e9, q4, e10, ← hk, e11, e12, e13, e14, e15, ← hj, e16, e17]
theorem r_pairs_right (H : DS ns st) : ∃ st', f__law_are_pairs_right [.ref 1] st = .ok (.bl true) st' ∧ DS ns st' ∧ Fr st st' := by
  obtain ⟨v1, s1, e1, a1, b1, D1, F1⟩ := r_draw (many := 4) H (by decide) (by decide)
  obtain ⟨n, hn⟩ : ∃ n : Nat, (n : Int) = 1 + v1 := ⟨(1 + v1).toNat, by omega⟩
  have n0 : 0 < n := by omega
  have n70 : n ≤ 70 := by omega
  obtain ⟨v2, s2, e2, a2, b2, D2, F2⟩ := r_draw (many := 3) D1 (by decide) (by decide)
  obtain ⟨ws, s3, e3, hw, D3, F3⟩ := r_row (n := n) (z := decide (v2 = 1)) D2 n0 n70
  obtain ⟨M, hM⟩ : ∃ M, M = s3.length := ⟨_, rfl⟩
  have l3 := D3.len
  obtain ⟨v4, s4, e4, a4, b4, D4, F4⟩ := r_draw (st := s3 ++ [.lst [itup ws]]) (many := 5) D3.app (by decide) (by decide)
  obtain ⟨c, rfl⟩ : ∃ c : Nat, v4 = c := ⟨v4.toNat, by omega⟩
  have g4 : lstAt s4 M = some [itup ws] := F4.lst (by rw [hM]; exact lstAt_new) (by omega)
  have stM : st.length ≤ M := by rw [hM]; exact ((F1.trans F2).trans F3).len
  have hrc : ∀ s, rg1 (.int (c : Nat)) s = .ok (.fix (rng 0 c)) s := fun s => rg1_int (by omega)
  obtain ⟨τ', s5, e5, rows, ⟨x3, rfl⟩, g5, lr, lr2, hrows, D5, F5⟩ := for_inv (q := .fix (rng 0 c)) (set := gN 3) (u := sExpr (eM "list" mAppend (eVar 2) (aCons (eCall 2 f__law_other_row (aCons (eVar 0) (aCons (eCall 2 f__law_pick (aCons (eVar 0) (aCons (eVar 2) aNil))) aNil))) aNil)))
    (fun j τ s => ∃ rows : List (List Int), (∃ x3, τ = [some (.ref 1), some (.int (n : Nat)), some (.ref M), x3, none, none, none, none, none, none]) ∧ lstAt s M = some (rows.map itup) ∧ 0 < rows.length ∧ rows.length ≤ 1 + j ∧ (∀ xs ∈ rows, Rw n xs) ∧ DS ns s ∧ Fr st s) (fun _ _ _ _ => rfl) (rng 0 c) 0 [some (.ref 1), some (.int (n : Nat)), some (.ref M), none, none, none, none, none, none, none] s4 ⟨[ws], ⟨none, rfl⟩, g4, by simp, by simp, fun xs hx => by rw [List.mem_singleton.mp hx]; exact hw, D4, (((F1.trans F2).trans F3).trans .app).trans F4⟩ (by
      intro i d τ s hi hp
      obtain ⟨rows, ⟨x3, rfl⟩, g, lr, lr2, hrows, Dx, F⟩ := hp
      obtain ⟨hic, rfl⟩ := rngi hi
      obtain ⟨x, sa, ea, hx, Da, Fa⟩ := r_pick Dx g (by omega) (by rw [List.length_map]; exact lr) (by rw [List.length_map]; omega)
      obtain ⟨row, hrow, rfl⟩ := List.mem_map.mp hx
      obtain ⟨us, sb, eb, hu, Db, Fb⟩ := r_other_row Da (hrows row hrow) n0 n70
      have gb : lstAt sb M = some (rows.map itup) := Fb.lst (Fa.lst g (by omega)) (by omega)
      have ap := mAppend_ref (x := itup us) gb (by rw [List.length_map]; omega)
      have ok1 : okT "list" s (.ref M) = true := okT_ref g
      obtain ⟨X, hX⟩ : ∃ X, X = rows.map itup := ⟨_, rfl⟩
      rw [← hX] at ap
      refine ⟨[some (.ref 1), some (.int (n : Nat)), some (.ref M), some (.int (i : Nat)), none, none, none, none, none, none], rfl, [some (.ref 1), some (.int (n : Nat)), some (.ref M), some (.int (i : Nat)), none, none, none, none, none, none], sb.set M (.lst (X ++ [itup us])), .inl ?_, rows ++ [us], ⟨_, rfl⟩, by rw [lstAt_set gb, hX]; simp, by simp, by simp; omega, fun xs hx => ?_, Db.put2 (by omega) (by omega), ((F.trans Fa).trans Fb).put2 stM⟩
      · simp [ok1, ea, eb, ap]
      · rcases List.mem_append.mp hx with h | h
        · exact hrows xs h
        · rw [List.mem_singleton.mp h]; exact hu)
  rw [rng_len] at lr2
  -- how many pairs
  obtain ⟨v6, s6, e6, a6, b6, D6, F6⟩ := r_draw (many := 8) D5 (by decide) (by decide)
  obtain ⟨cnt, s7, e7, c60, D7, F7⟩ : ∃ (cnt : Nat) (s7 : Store), (eIf (tBl (eBin oEq (eCall 2 f__law_draw (aCons (eVar 0) (aCons (eC (.int 8)) aNil))) (eC (.int 3)))) (eC (.int 60)) (eCall 2 f__law_draw (aCons (eVar 0) (aCons (eC (.int 9)) aNil)))) [some (.ref 1), some (.int (n : Nat)), some (.ref M), x3, none, none, none, none, none, none] s5 = .ok (.int (cnt : Nat)) s7 ∧ cnt ≤ 60 ∧ DS ns s7 ∧ Fr s5 s7 := by
    by_cases h : v6 = 3
    · exact ⟨60, s6, by simp [e6, h], by decide, D6, F6⟩
    · obtain ⟨v, sx, ex, ax, bx, Dx, Fx⟩ := r_draw (many := 9) D6 (by decide) (by decide)
      obtain ⟨y, rfl⟩ : ∃ y : Nat, v = y := ⟨v.toNat, by omega⟩
      exact ⟨y, sx, by simp [e6, h, ex], by omega, Dx, F6.trans Fx⟩
  obtain ⟨K, hK⟩ : ∃ K, K = s7.length := ⟨_, rfl⟩
  have g7 : lstAt s7 M = some (rows.map itup) := F7.lst g5 (by omega)
  have MK : M < K := by rw [hK]; exact lstAt_lt g7
  have F07 : Fr st s7 := F5.trans F7
  have stK : st.length ≤ K := by omega
  have f : ∀ s, lstAt s M = some (rows.map itup) → fLen [.ref M] s = .ok (.int (rows.length : Nat)) s := fun s h => by rw [fLen_ref h, List.length_map]
  have hrn : ∀ s, rg1 (.int (cnt : Nat)) s = .ok (.fix (rng 0 cnt)) s := fun s => rg1_int (by omega)
  obtain ⟨τ', s8, e8, l, due, ⟨y3, y7, y8, y9, rfl⟩, gM8, gK8, hl, ll, hdue, D8, F8⟩ := for_inv (q := .fix (rng 0 cnt)) (set := gN 3) (u := sSeq (sSet 7 (eCall 2 f__law_draw (aCons (eVar 0) (aCons (eCB fLen (aCons (eVar 2) aNil)) aNil))))
    (sSeq (sSet 8 (eCall 2 f__law_draw (aCons (eVar 0) (aCons (eCB fLen (aCons (eVar 2) aNil)) aNil))))
    (sSeq (sExpr (eM "list" mAppend (eVar 5) (aCons (eTup (aCons (eVar 7) (aCons (eVar 8) aNil))) aNil)))
    (sSeq (sSet 9 (eCall 2 f__law_row_loss (aCons (eBin oIx (eVar 2) (eVar 7)) (aCons (eBin oIx (eVar 2) (eVar 8)) aNil))))
    (sSet 6 (eIf (HM.tOr (tBl (eBin oIs (eVar 6) (eC .non))) (tBl (eBin oIs (eVar 9) (eC .non)))) (eC .non) (eCall 1 f__law_great (aCons (eLst (aCons (eVar 6) (aCons (eVar 9) aNil))) aNil))))))))
    (fun j τ s => ∃ (l : List (Nat × Nat)) (due : Option Rat), (∃ x3 x7 x8 x9, τ = [some (.ref 1), some (.int (n : Nat)), some (.ref M), x3, some (.int (cnt : Nat)), some (.ref K), some (od due), x7, x8, x9]) ∧ lstAt s M = some (rows.map itup) ∧ lstAt s K = some (l.map prD) ∧ (∀ p ∈ l, p.1 < rows.length ∧ p.2 < rows.length) ∧ l.length ≤ j ∧ due = tot rows l ∧ DS ns s ∧ Fr st s) (fun _ _ _ _ => rfl) (rng 0 cnt) 0 [some (.ref 1), some (.int (n : Nat)), some (.ref M), x3, some (.int (cnt : Nat)), some (.ref K), some (qd 1), none, none, none] (s7 ++ [.lst []]) ⟨[], some 1, ⟨x3, none, none, none, rfl⟩, (Gr.app (c := Cell.lst [])).lst g7, by rw [hK]; exact lstAt_new, by simp, Nat.le_refl _, rfl, D7.app, F07.trans .app⟩ (by
      intro i d τ s hi hp
      obtain ⟨l, due, ⟨x3, x7, x8, x9, rfl⟩, gM, gK, hl, ll, hdue, Dx, F⟩ := hp
      obtain ⟨hic, rfl⟩ := rngi hi
      obtain ⟨vv, sa, ea, aa, ba, Da, Fa⟩ := r_draw (many := (rows.length : Nat)) Dx (by omega) (lg10 (by omega))
      obtain ⟨v, rfl⟩ : ∃ v : Nat, vv = v := ⟨vv.toNat, by omega⟩
      have gMa := Fa.lst gM (by omega)
      obtain ⟨vw, sb, eb, ab, bb, Db, Fb⟩ := r_draw (many := (rows.length : Nat)) Da (by omega) (lg10 (by omega))
      obtain ⟨w, rfl⟩ : ∃ w : Nat, vw = w := ⟨vw.toNat, by omega⟩
      have hv : v < rows.length := by omega
      have hw' : w < rows.length := by omega
      have gKb : lstAt sb K = some (l.map prD) := Fb.lst (Fa.lst gK (by omega)) (by omega)
      have gMb : lstAt sb M = some (rows.map itup) := Fb.lst gMa (by omega)
      have ap := mAppend_ref (x := prD (v, w)) gKb (by rw [List.length_map]; omega)
      obtain ⟨sc, hsc⟩ : ∃ sc, sc = sb.set K (.lst (l.map prD ++ [prD (v, w)])) := ⟨_, rfl⟩
      rw [← hsc] at ap
      have gKc : lstAt sc K = some ((l ++ [(v, w)]).map prD) := by rw [hsc, lstAt_set gKb]; simp
      have gMc : lstAt sc M = some (rows.map itup) := by rw [hsc, lstAt_ne (by omega)]; exact gMb
      have Dc : DS ns sc := hsc ▸ Db.put2 (by omega) (by omega)
      have Fc : Fr st sc := hsc ▸ ((F.trans Fa).trans Fb).put2 stK
      have r1 := hrows _ (List.mem_of_getElem? (gr_get hv))
      have r2 := hrows _ (List.mem_of_getElem? (gr_get hw'))
      obtain ⟨_, o, q3, _⟩ := (⟨r1, r2, n0, n70⟩ : Two n (gr rows v) (gr rows w)).both
      obtain ⟨sd, ed, Gd⟩ := q3 sc
      have i1 : oIx (.ref M) (.int (v : Nat)) sc = .ok (itup (gr rows v)) sc := by
        rw [oIx_ref gMc]
        have : atI (rows.map itup) (v : Nat) = some (itup (gr rows v)) := atI_nat (by rw [List.getElem?_map, gr_get hv]; rfl)
        rw [this]
        rfl
      have i2 : oIx (.ref M) (.int (w : Nat)) sc = .ok (itup (gr rows w)) sc := by
        rw [oIx_ref gMc]
        have : atI (rows.map itup) (w : Nat) = some (itup (gr rows w)) := atI_nat (by rw [List.getElem?_map, gr_get hw']; rfl)
        rw [this]
        rfl
      obtain ⟨L, hL⟩ : ∃ L, L = lss (prw (gr rows v) (gr rows w)) := ⟨_, rfl⟩
      rw [← hL] at ed o
      have bd := (r_rows_loss (st := sd) hrows n70 hl).2
      rw [← hdue] at bd
      have tt : tot rows (l ++ [(v, w)]) = glo due L := by
        unfold tot
        rw [List.foldl_append, hdue, hL]
        rfl
      obtain ⟨se, Ge, ee⟩ : ∃ se, Gr sd se ∧ (eIf (HM.tOr (tBl (eBin oIs (eVar 6) (eC .non))) (tBl (eBin oIs (eVar 9) (eC .non)))) (eC .non) (eCall 1 f__law_great (aCons (eLst (aCons (eVar 6) (aCons (eVar 9) aNil))) aNil))) [some (.ref 1), some (.int (n : Nat)), some (.ref M), some (.int (i : Nat)), some (.int (cnt : Nat)), some (.ref K), some (od due), some (.int (v : Nat)), some (.int (w : Nat)), some (od L)] sd = .ok (od (glo due L)) se := by
        cases due with
        | none => exact ⟨sd, .refl, by simp [od, glo]⟩
        | some a =>
          have i3 : ∀ s, oIs (qd a) .non s = .ok (.bl false) s := fun _ => rfl
          cases L with
          | none => exact ⟨sd, .refl, by simp [od, glo, i3]⟩
          | some b =>
            have i4 : ∀ s, oIs (qd b) .non s = .ok (.bl false) s := fun _ => rfl
            have g := r_lgreatQ (k := 280) (st := sd ++ [.lst [qd a, qd b]]) (m := sd.length) (x := a) (l := [b]) lstAt_new (by
              intro z hz
              simp only [List.mem_cons, List.not_mem_nil, or_false] at hz
              rcases hz with rfl | rfl
              · exact bd.1 _ rfl
              · exact o _ rfl) (by decide)
            have hg : gmax a [a, b] = if a < b then b else a := by simp [gmax, Rat.lt_irrefl]
            rw [hg] at g
            exact ⟨_, .app (c := .lst [qd a, qd b]), by simp [od, glo, i3, i4, g]⟩
      refine ⟨[some (.ref 1), some (.int (n : Nat)), some (.ref M), some (.int (i : Nat)), some (.int (cnt : Nat)), some (.ref K), some (od due), x7, x8, x9], rfl, [some (.ref 1), some (.int (n : Nat)), some (.ref M), some (.int (i : Nat)), some (.int (cnt : Nat)), some (.ref K), some (od (glo due L)), some (.int (v : Nat)), some (.int (w : Nat)), some (od L)], se, .inl ?_, l ++ [(v, w)], glo due L, ⟨_, _, _, _, rfl⟩, (Gd.trans Ge).lst gMc, (Gd.trans Ge).lst gKc, ?_, by simp; omega, tt.symm, (Gd.trans Ge).ds Dc, Fc.trans (Gd.trans Ge).fr⟩
      · have ap : mAppend (.ref K) [.tup [.int (v : Nat), .int (w : Nat)]] sb = _ := ap
        have f1 := f s gM
        have f2 := f sa gMa
        simp [-eIf_e, f1, ea, f2, eb, okT_ref gKb, ap, i1, i2, ed, ee]
      · intro x hx
        rcases List.mem_append.mp hx with hx | hx
        · exact hl x hx
        · rw [List.mem_singleton.mp hx]
          exact ⟨hv, hw'⟩)
  obtain ⟨z1, o1, ge1⟩ := r_rows_loss (st := s8) hrows n70 hl
  rw [← hdue] at z1 o1 ge1
  have y1 := r_is_lossQ (st := s8) o1 (by decide) ge1
  refine ⟨s8, ?_, D8, F8⟩
  have t2 : D.tup [.int 1, .int 1] = qd 1 := rfl
  have tR : D.tup (rows.map itup) = rowsD rows := rfl
  obtain ⟨R1, hR1⟩ : ∃ R, R = rng 0 (c : Nat) := ⟨_, rfl⟩
  have hrc : ∀ s, rg1 (.int (c : Nat)) s = .ok (.fix R1) s := fun s => by rw [hrc, hR1]
  rw [← hR1] at e5
  obtain ⟨R2, hR2⟩ : ∃ R, R = rng 0 (cnt : Nat) := ⟨_, rfl⟩
  have hrn : ∀ s, rg1 (.int (cnt : Nat)) s = .ok (.fix R2) s := fun s => by rw [hrn, hR2]
  rw [← hR2] at e8
  obtain ⟨XR, hXR⟩ : ∃ X, X = rows.map itup := ⟨_, rfl⟩
  rw [← hXR] at gM8 tR
  unfold f__law_are_pairs_right
  rw [runB_e]
  unfold m__law_are_pairs_right
  simp [-eIf_e, List.replicate, e1, ← hn, e2, e3, ← hM, e4, sFor_e, hrc, e5, e7, ← hK, t2, hrn, e8, fTuple_ref gM8, tR, fTuple_ref gK8, z1, y1]
end
theorem law_holds : ∀ ns : List Int, ns.length ≤ 63 → ∃ st, f_law [.rol (ns.map D.int)] [] = .ok (.bl true) st := by
  intro ns hns
  obtain ⟨s0, e0, D0, _⟩ := r_begin hns
  obtain ⟨v1, s1, e1, a1, b1, D1, F1⟩ := r_draw (many := 6) D0 (by decide) (by decide)
  obtain ⟨v2, s2, e2, a2, b2, D2, F2⟩ := r_draw (many := 6) D1 (by decide) (by decide)
  obtain ⟨SC, hSC⟩ : ∃ SC, SC = D.rol (ns.map D.int) := ⟨_, rfl⟩
  obtain ⟨n, s3, e3, n0, n70, D3⟩ : ∃ (n : Nat) (s3 : Store), sIf (tBl (eBin oEq (eCall 2 f__law_draw (aCons (eVar 1) (aCons (eC (.int 6)) aNil))) (eC (.int 3)))) (sSet 2 (eBin oAdd (eC (.int 7)) (eCall 2 f__law_draw (aCons (eVar 1) (aCons (eC (.int 64)) aNil))))) sNil [some SC, some (.ref 1), some (.int (1 + v1)), none, none] s1 = .nx [some SC, some (.ref 1), some (.int (n : Nat)), none, none] s3 ∧ 0 < n ∧ n ≤ 70 ∧ DS ns s3 := by
    by_cases c : v2 = 3
    · obtain ⟨v3, s3, e3, a3, b3, D3, F3⟩ := r_draw (many := 64) D2 (by decide) (by decide)
      refine ⟨(7 + v3).toNat, s3, ?_, by omega, by omega, D3⟩
      rw [show (((7 + v3).toNat : Nat) : Int) = 7 + v3 by omega]
      simp [e2, c, e3]
    · refine ⟨(1 + v1).toNat, s2, ?_, by omega, by omega, D2⟩
      rw [show (((1 + v1).toNat : Nat) : Int) = 1 + v1 by omega]
      simp [e2, c]
  obtain ⟨ws, s4, e4, hw, D4, F4⟩ := r_first_row D3 n0 n70
  obtain ⟨vs, s5, e5, hv, D5, F5⟩ := r_other_row D4 hw n0 n70
  obtain ⟨s6, e6, D6, F6⟩ := r_pair_right D5 (⟨hw, hv, n0, n70⟩ : Two n ws vs)
  obtain ⟨s7, e7, D7, F7⟩ := r_small_right D6
  obtain ⟨s8, e8, D8, F8⟩ := r_pairs_right D7
  refine ⟨s8, ?_⟩
  rw [← hSC] at e0 ⊢
  unfold f_law
  rw [runB_e]
  unfold m_law
  simp [-sIf_e, List.replicate, e0, e1, e3, e4, e5, e6, e7, e8]

/-! ### the head -/
def fn : List He.DefD := [⟨("ratio", none), "ratio", "ratio", defArgs s_ratio, defBody s_ratio, defScope s_ratio, [], []⟩,
  ⟨("over", none), "over", "over", defArgs s_over, defBody s_over, defScope s_over, [], []⟩,
  ⟨("is_below", none), "is_below", "is_below", defArgs s_is_below, defBody s_is_below, defScope s_is_below, [], []⟩,
  ⟨("chances", none), "chances", "chances", defArgs s_chances, defBody s_chances, defScope s_chances, [], []⟩,
  ⟨("factor_of", none), "factor_of", "factor_of", defArgs s_factor_of, defBody s_factor_of, defScope s_factor_of, [], []⟩,
  ⟨("greater_loss", none), "greater_loss", "greater_loss", defArgs s_greater_loss, defBody s_greater_loss, defScope s_greater_loss, [], []⟩,
  ⟨("row_loss", none), "row_loss", "row_loss", defArgs s_row_loss, defBody s_row_loss, defScope s_row_loss, [], []⟩,
  ⟨("rows_loss", none), "rows_loss", "rows_loss", defArgs s_rows_loss, defBody s_rows_loss, defScope s_rows_loss, [], []⟩,
  ⟨("_law_begin", none), "_law_begin", "_law_begin", defArgs s__law_begin, defBody s__law_begin, defScope s__law_begin, [], []⟩,
  ⟨("_law_draw", none), "_law_draw", "_law_draw", defArgs s__law_draw, defBody s__law_draw, defScope s__law_draw, [], []⟩,
  ⟨("_law_pick", none), "_law_pick", "_law_pick", defArgs s__law_pick, defBody s__law_pick, defScope s__law_pick, [], []⟩,
  ⟨("_law_shuffled", none), "_law_shuffled", "_law_shuffled", defArgs s__law_shuffled, defBody s__law_shuffled, defScope s__law_shuffled, [], []⟩,
  ⟨("_law_is_int", none), "_law_is_int", "_law_is_int", defArgs s__law_is_int, defBody s__law_is_int, defScope s__law_is_int, [], []⟩,
  ⟨("_law_gcd", none), "_law_gcd", "_law_gcd", defArgs s__law_gcd, defBody s__law_gcd, defScope s__law_gcd, [], []⟩,
  ⟨("_law_f", none), "_law_f", "_law_f", defArgs s__law_f, defBody s__law_f, defScope s__law_f, [], []⟩,
  ⟨("_law_times", none), "_law_times", "_law_times", defArgs s__law_times, defBody s__law_times, defScope s__law_times, [], []⟩,
  ⟨("_law_over", none), "_law_over", "_law_over", defArgs s__law_over, defBody s__law_over, defScope s__law_over, [], []⟩,
  ⟨("_law_less", none), "_law_less", "_law_less", defArgs s__law_less, defBody s__law_less, defScope s__law_less, [], []⟩,
  ⟨("_law_great", none), "_law_great", "_law_great", defArgs s__law_great, defBody s__law_great, defScope s__law_great, [], []⟩,
  ⟨("_law_is_frac", none), "_law_is_frac", "_law_is_frac", defArgs s__law_is_frac, defBody s__law_is_frac, defScope s__law_is_frac, [], []⟩,
  ⟨("_law_is_ratio", none), "_law_is_ratio", "_law_is_ratio", defArgs s__law_is_ratio, defBody s__law_is_ratio, defScope s__law_is_ratio, [], []⟩,
  ⟨("_law_row", none), "_law_row", "_law_row", defArgs s__law_row, defBody s__law_row, defScope s__law_row, [], []⟩,
  ⟨("_law_chances", none), "_law_chances", "_law_chances", defArgs s__law_chances, defBody s__law_chances, defScope s__law_chances, [], []⟩,
  ⟨("_law_row_loss", none), "_law_row_loss", "_law_row_loss", defArgs s__law_row_loss, defBody s__law_row_loss, defScope s__law_row_loss, [], []⟩,
  ⟨("_law_is_loss", none), "_law_is_loss", "_law_is_loss", defArgs s__law_is_loss, defBody s__law_is_loss, defScope s__law_is_loss, [], []⟩,
  ⟨("_law_first_row", none), "_law_first_row", "_law_first_row", defArgs s__law_first_row, defBody s__law_first_row, defScope s__law_first_row, [], []⟩,
  ⟨("_law_other_row", none), "_law_other_row", "_law_other_row", defArgs s__law_other_row, defBody s__law_other_row, defScope s__law_other_row, [], []⟩,
  ⟨("_law_sets", none), "_law_sets", "_law_sets", defArgs s__law_sets, defBody s__law_sets, defScope s__law_sets, [], []⟩,
  ⟨("_law_are_equal", none), "_law_are_equal", "_law_are_equal", defArgs s__law_are_equal, defBody s__law_are_equal, defScope s__law_are_equal, [], []⟩,
  ⟨("_law_are_sets_kept", none), "_law_are_sets_kept", "_law_are_sets_kept", defArgs s__law_are_sets_kept, defBody s__law_are_sets_kept, defScope s__law_are_sets_kept, [], []⟩,
  ⟨("_law_is_pair_right", none), "_law_is_pair_right", "_law_is_pair_right", defArgs s__law_is_pair_right, defBody s__law_is_pair_right, defScope s__law_is_pair_right, [], []⟩,
  ⟨("_law_is_three_right", none), "_law_is_three_right", "_law_is_three_right", defArgs s__law_is_three_right, defBody s__law_is_three_right, defScope s__law_is_three_right, [], []⟩,
  ⟨("_law_multiplied", none), "_law_multiplied", "_law_multiplied", defArgs s__law_multiplied, defBody s__law_multiplied, defScope s__law_multiplied, [], []⟩,
  ⟨("_law_product", none), "_law_product", "_law_product", defArgs s__law_product, defBody s__law_product, defScope s__law_product, [], []⟩,
  ⟨("_law_is_product_right", none), "_law_is_product_right", "_law_is_product_right", defArgs s__law_is_product_right, defBody s__law_is_product_right, defScope s__law_is_product_right, [], []⟩,
  ⟨("_law_shares_of_six", none), "_law_shares_of_six", "_law_shares_of_six", defArgs s__law_shares_of_six, defBody s__law_shares_of_six, defScope s__law_shares_of_six, [], []⟩,
  ⟨("_law_sent_on", none), "_law_sent_on", "_law_sent_on", defArgs s__law_sent_on, defBody s__law_sent_on, defScope s__law_sent_on, [], []⟩,
  ⟨("_law_is_mill_right", none), "_law_is_mill_right", "_law_is_mill_right", defArgs s__law_is_mill_right, defBody s__law_is_mill_right, defScope s__law_is_mill_right, [], []⟩,
  ⟨("_law_are_small_right", none), "_law_are_small_right", "_law_are_small_right", defArgs s__law_are_small_right, defBody s__law_are_small_right, defScope s__law_are_small_right, [], []⟩,
  ⟨("_law_are_pairs_right", none), "_law_are_pairs_right", "_law_are_pairs_right", defArgs s__law_are_pairs_right, defBody s__law_are_pairs_right, defScope s__law_are_pairs_right, [], []⟩,
  ⟨("law", none), "law", "law", defArgs s_law, defBody s_law, defScope s_law, [], []⟩]
def fa : List He.Fa := [.glo "ratio", .glo "over", .glo "is_below", .glo "chances", .glo "factor_of", .glo "greater_loss", .glo "row_loss", .glo "rows_loss", .glo "_law_begin", .glo "_law_draw", .glo "_law_pick", .glo "_law_shuffled", .glo "_law_is_int", .glo "_law_gcd", .glo "_law_f", .glo "_law_times", .glo "_law_over", .glo "_law_less", .glo "_law_great", .glo "_law_is_frac", .glo "_law_is_ratio", .glo "_law_row", .glo "_law_chances", .glo "_law_row_loss", .glo "_law_is_loss", .glo "_law_first_row", .glo "_law_other_row", .glo "_law_sets", .glo "_law_are_equal", .glo "_law_are_sets_kept", .glo "_law_is_pair_right", .glo "_law_is_three_right", .glo "_law_multiplied", .glo "_law_product", .glo "_law_is_product_right", .glo "_law_shares_of_six", .glo "_law_sent_on", .glo "_law_is_mill_right", .glo "_law_are_small_right", .glo "_law_are_pairs_right", .glo "law", .free "ZeroDivisionError", .free "sum", .free "tuple", .free "zip", .free "int", .free "len", .free "abs", .free "list", .free "range", .free "isinstance", .free "bool", .free "max", .free "all"]
def fx : List Fx := [.blt "gcd" "math.gcd", .con "ONE" q_ONE]
abbrev hk : PySem.W.Hook := hookM 5 fa fx fn
def ob (s : PySem.W.SharedT) : He.AlD := obsMG 5 fa fx fn (HandSHeadRun.getT s)
theorem ob_eq (s : PySem.W.SharedT) : ob s = hk.obs s.abs := obsMG_eq (HandSHeadRun.getT_eq s)
def nm0 : List PySem.Str := ["ONE", "ratio", "over", "is_below", "chances", "factor_of", "greater_loss", "row_loss", "rows_loss", "_law_begin", "_law_draw", "_law_pick", "_law_shuffled", "_law_is_int", "_law_gcd", "_law_f", "_law_times", "_law_over", "_law_less", "_law_great", "_law_is_frac", "_law_is_ratio", "_law_row", "_law_chances", "_law_row_loss", "_law_is_loss", "_law_first_row", "_law_other_row", "_law_sets", "_law_are_equal"]
def nm1 : List PySem.Str := ["_law_are_sets_kept", "_law_is_pair_right", "_law_is_three_right", "_law_multiplied", "_law_product", "_law_is_product_right", "_law_shares_of_six", "_law_sent_on", "_law_is_mill_right", "_law_are_small_right", "_law_are_pairs_right"]
def nms : List PySem.Str := nm0 ++ nm1
theorem run (w : World) : HandSHeadRun.RunEqI (PySem.W.OpenLaw.row PySem.Challenge.rw_closedratios_k27_whole_row_losses) (PySem.W.view (PySem.W.OpenLaw.row PySem.Challenge.rw_closedratios_k27_whole_row_losses).prog [0, 46]) hk ob 6000 nms w := by
  unfold HandSHeadRun.RunEqI
  kernel_rfl
theorem facts {P : Program} {w : World} {K : PySem.W.Frag} {h : Heap} {mg : PySem.Str → Option Value} {f : Addr} (X : K.In h) (G : h.Ns mainGlobals mg) (hfa : mg ("law" : PySem.Str) = some (.ref f)) (c : SaysM fa fx fn K) :
    ∃ fd : FuncData, (∀ (s : Shared) (v : Value), BindsTo s fd ⟨[v], []⟩ [("script", v)]) ∧ ∀ base : Heap, K.In base → base.Ns mainGlobals mg → FnM P w K mg base 7 f fd ["script"] f_law := by
  obtain ⟨fd_ratio, F_ratio⟩ := c.def_ 0 rfl
  have gx_ratio := He.glo_ok X G (c.fact 0 (f := .glo "ratio") rfl)
  obtain ⟨fd_over, F_over⟩ := c.def_ 1 rfl
  have gx_over := He.glo_ok X G (c.fact 1 (f := .glo "over") rfl)
  obtain ⟨fd_is_below, F_is_below⟩ := c.def_ 2 rfl
  have gx_is_below := He.glo_ok X G (c.fact 2 (f := .glo "is_below") rfl)
  obtain ⟨fd_chances, F_chances⟩ := c.def_ 3 rfl
  have gx_chances := He.glo_ok X G (c.fact 3 (f := .glo "chances") rfl)
  obtain ⟨fd_factor_of, F_factor_of⟩ := c.def_ 4 rfl
  have gx_factor_of := He.glo_ok X G (c.fact 4 (f := .glo "factor_of") rfl)
  obtain ⟨fd_greater_loss, F_greater_loss⟩ := c.def_ 5 rfl
  have gx_greater_loss := He.glo_ok X G (c.fact 5 (f := .glo "greater_loss") rfl)
  obtain ⟨fd_row_loss, F_row_loss⟩ := c.def_ 6 rfl
  have gx_row_loss := He.glo_ok X G (c.fact 6 (f := .glo "row_loss") rfl)
  obtain ⟨fd_rows_loss, F_rows_loss⟩ := c.def_ 7 rfl
  have gx_rows_loss := He.glo_ok X G (c.fact 7 (f := .glo "rows_loss") rfl)
  obtain ⟨fd__law_begin, F__law_begin⟩ := c.def_ 8 rfl
  have gx__law_begin := He.glo_ok X G (c.fact 8 (f := .glo "_law_begin") rfl)
  obtain ⟨fd__law_draw, F__law_draw⟩ := c.def_ 9 rfl
  have gx__law_draw := He.glo_ok X G (c.fact 9 (f := .glo "_law_draw") rfl)
  obtain ⟨fd__law_pick, F__law_pick⟩ := c.def_ 10 rfl
  have gx__law_pick := He.glo_ok X G (c.fact 10 (f := .glo "_law_pick") rfl)
  obtain ⟨fd__law_shuffled, F__law_shuffled⟩ := c.def_ 11 rfl
  have gx__law_shuffled := He.glo_ok X G (c.fact 11 (f := .glo "_law_shuffled") rfl)
  obtain ⟨fd__law_is_int, F__law_is_int⟩ := c.def_ 12 rfl
  have gx__law_is_int := He.glo_ok X G (c.fact 12 (f := .glo "_law_is_int") rfl)
  obtain ⟨fd__law_gcd, F__law_gcd⟩ := c.def_ 13 rfl
  have gx__law_gcd := He.glo_ok X G (c.fact 13 (f := .glo "_law_gcd") rfl)
  obtain ⟨fd__law_f, F__law_f⟩ := c.def_ 14 rfl
  have gx__law_f := He.glo_ok X G (c.fact 14 (f := .glo "_law_f") rfl)
  obtain ⟨fd__law_times, F__law_times⟩ := c.def_ 15 rfl
  have gx__law_times := He.glo_ok X G (c.fact 15 (f := .glo "_law_times") rfl)
  obtain ⟨fd__law_over, F__law_over⟩ := c.def_ 16 rfl
  have gx__law_over := He.glo_ok X G (c.fact 16 (f := .glo "_law_over") rfl)
  obtain ⟨fd__law_less, F__law_less⟩ := c.def_ 17 rfl
  have gx__law_less := He.glo_ok X G (c.fact 17 (f := .glo "_law_less") rfl)
  obtain ⟨fd__law_great, F__law_great⟩ := c.def_ 18 rfl
  have gx__law_great := He.glo_ok X G (c.fact 18 (f := .glo "_law_great") rfl)
  obtain ⟨fd__law_is_frac, F__law_is_frac⟩ := c.def_ 19 rfl
  have gx__law_is_frac := He.glo_ok X G (c.fact 19 (f := .glo "_law_is_frac") rfl)
  obtain ⟨fd__law_is_ratio, F__law_is_ratio⟩ := c.def_ 20 rfl
  have gx__law_is_ratio := He.glo_ok X G (c.fact 20 (f := .glo "_law_is_ratio") rfl)
  obtain ⟨fd__law_row, F__law_row⟩ := c.def_ 21 rfl
  have gx__law_row := He.glo_ok X G (c.fact 21 (f := .glo "_law_row") rfl)
  obtain ⟨fd__law_chances, F__law_chances⟩ := c.def_ 22 rfl
  have gx__law_chances := He.glo_ok X G (c.fact 22 (f := .glo "_law_chances") rfl)
  obtain ⟨fd__law_row_loss, F__law_row_loss⟩ := c.def_ 23 rfl
  have gx__law_row_loss := He.glo_ok X G (c.fact 23 (f := .glo "_law_row_loss") rfl)
  obtain ⟨fd__law_is_loss, F__law_is_loss⟩ := c.def_ 24 rfl
  have gx__law_is_loss := He.glo_ok X G (c.fact 24 (f := .glo "_law_is_loss") rfl)
  obtain ⟨fd__law_first_row, F__law_first_row⟩ := c.def_ 25 rfl
  have gx__law_first_row := He.glo_ok X G (c.fact 25 (f := .glo "_law_first_row") rfl)
  obtain ⟨fd__law_other_row, F__law_other_row⟩ := c.def_ 26 rfl
  have gx__law_other_row := He.glo_ok X G (c.fact 26 (f := .glo "_law_other_row") rfl)
  obtain ⟨fd__law_sets, F__law_sets⟩ := c.def_ 27 rfl
  have gx__law_sets := He.glo_ok X G (c.fact 27 (f := .glo "_law_sets") rfl)
  obtain ⟨fd__law_are_equal, F__law_are_equal⟩ := c.def_ 28 rfl
  have gx__law_are_equal := He.glo_ok X G (c.fact 28 (f := .glo "_law_are_equal") rfl)
  obtain ⟨fd__law_are_sets_kept, F__law_are_sets_kept⟩ := c.def_ 29 rfl
  have gx__law_are_sets_kept := He.glo_ok X G (c.fact 29 (f := .glo "_law_are_sets_kept") rfl)
  obtain ⟨fd__law_is_pair_right, F__law_is_pair_right⟩ := c.def_ 30 rfl
  have gx__law_is_pair_right := He.glo_ok X G (c.fact 30 (f := .glo "_law_is_pair_right") rfl)
  obtain ⟨fd__law_is_three_right, F__law_is_three_right⟩ := c.def_ 31 rfl
  have gx__law_is_three_right := He.glo_ok X G (c.fact 31 (f := .glo "_law_is_three_right") rfl)
  obtain ⟨fd__law_multiplied, F__law_multiplied⟩ := c.def_ 32 rfl
  have gx__law_multiplied := He.glo_ok X G (c.fact 32 (f := .glo "_law_multiplied") rfl)
  obtain ⟨fd__law_product, F__law_product⟩ := c.def_ 33 rfl
  have gx__law_product := He.glo_ok X G (c.fact 33 (f := .glo "_law_product") rfl)
  obtain ⟨fd__law_is_product_right, F__law_is_product_right⟩ := c.def_ 34 rfl
  have gx__law_is_product_right := He.glo_ok X G (c.fact 34 (f := .glo "_law_is_product_right") rfl)
  obtain ⟨fd__law_shares_of_six, F__law_shares_of_six⟩ := c.def_ 35 rfl
  have gx__law_shares_of_six := He.glo_ok X G (c.fact 35 (f := .glo "_law_shares_of_six") rfl)
  obtain ⟨fd__law_sent_on, F__law_sent_on⟩ := c.def_ 36 rfl
  have gx__law_sent_on := He.glo_ok X G (c.fact 36 (f := .glo "_law_sent_on") rfl)
  obtain ⟨fd__law_is_mill_right, F__law_is_mill_right⟩ := c.def_ 37 rfl
  have gx__law_is_mill_right := He.glo_ok X G (c.fact 37 (f := .glo "_law_is_mill_right") rfl)
  obtain ⟨fd__law_are_small_right, F__law_are_small_right⟩ := c.def_ 38 rfl
  have gx__law_are_small_right := He.glo_ok X G (c.fact 38 (f := .glo "_law_are_small_right") rfl)
  obtain ⟨fd__law_are_pairs_right, F__law_are_pairs_right⟩ := c.def_ 39 rfl
  have gx__law_are_pairs_right := He.glo_ok X G (c.fact 39 (f := .glo "_law_are_pairs_right") rfl)
  obtain ⟨fd_law, F_law⟩ := c.def_ 40 rfl
  have z_ZeroDivisionError := He.free_ok X G (c.fact 41 (f := .free "ZeroDivisionError") rfl)
  have z_sum := He.free_ok X G (c.fact 42 (f := .free "sum") rfl)
  have z_tuple := He.free_ok X G (c.fact 43 (f := .free "tuple") rfl)
  have z_zip := He.free_ok X G (c.fact 44 (f := .free "zip") rfl)
  have z_int := He.free_ok X G (c.fact 45 (f := .free "int") rfl)
  have z_len := He.free_ok X G (c.fact 46 (f := .free "len") rfl)
  have z_abs := He.free_ok X G (c.fact 47 (f := .free "abs") rfl)
  have z_list := He.free_ok X G (c.fact 48 (f := .free "list") rfl)
  have z_range := He.free_ok X G (c.fact 49 (f := .free "range") rfl)
  have z_isinstance := He.free_ok X G (c.fact 50 (f := .free "isinstance") rfl)
  have z_bool := He.free_ok X G (c.fact 51 (f := .free "bool") rfl)
  have z_max := He.free_ok X G (c.fact 52 (f := .free "max") rfl)
  have z_all := He.free_ok X G (c.fact 53 (f := .free "all") rfl)
  have g_gcd := blt_ok X G (c.more 0 (f := .blt "gcd" "math.gcd") rfl)
  have k_ONE := con_ok X G (c.more 1 (f := .con "ONE" q_ONE) rfl)
  have e := hfa.symm.trans (He.glo_ok X G (c.fact 40 (f := .glo "law") rfl))
  cases e
  refine ⟨fd_law, fun s v => FunD.bindsA (ps := ["script"]) F_law (fun _ _ _ _ _ _ us hl => match us, hl with | [_], _ => rfl) s [v] rfl, fun base _ _ => ?_⟩
  have c_ratio := (ok_ratio (P := P) (w := w) (base := base) F_ratio gx_ratio g_gcd z_ZeroDivisionError).le le_ratio
  have c_over := (ok_over (P := P) (w := w) (base := base) F_over gx_over c_ratio).le le_over
  have c_is_below := (ok_is_below (P := P) (w := w) (base := base) F_is_below gx_is_below ).le le_is_below
  have c_chances := (ok_chances (P := P) (w := w) (base := base) F_chances gx_chances c_ratio z_sum z_tuple).le le_chances
  have c_factor_of := (ok_factor_of (P := P) (w := w) (base := base) F_factor_of gx_factor_of c_over).le le_factor_of
  have c_greater_loss := (ok_greater_loss (P := P) (w := w) (base := base) F_greater_loss gx_greater_loss c_is_below).le le_greater_loss
  have c_row_loss := (ok_row_loss (P := P) (w := w) (base := base) F_row_loss gx_row_loss c_chances c_greater_loss c_factor_of k_ONE z_zip).le le_row_loss
  have c_rows_loss := (ok_rows_loss (P := P) (w := w) (base := base) F_rows_loss gx_rows_loss c_greater_loss c_row_loss k_ONE).le le_rows_loss
  have c__law_begin := (ok__law_begin (P := P) (w := w) (base := base) F__law_begin gx__law_begin z_int).le le__law_begin
  have c__law_draw := (ok__law_draw (P := P) (w := w) (base := base) F__law_draw gx__law_draw z_int z_len z_abs).le le__law_draw
  have c__law_pick := (ok__law_pick (P := P) (w := w) (base := base) F__law_pick gx__law_pick c__law_draw z_len).le le__law_pick
  have c__law_shuffled := (ok__law_shuffled (P := P) (w := w) (base := base) F__law_shuffled gx__law_shuffled c__law_draw z_list z_range z_len).le le__law_shuffled
  have c__law_is_int := (ok__law_is_int (P := P) (w := w) (base := base) F__law_is_int gx__law_is_int z_int z_isinstance z_bool).le le__law_is_int
  have c__law_gcd := (ok__law_gcd (P := P) (w := w) (base := base) F__law_gcd gx__law_gcd z_abs z_int).le le__law_gcd
  have c__law_f := (ok__law_f (P := P) (w := w) (base := base) F__law_f gx__law_f c__law_gcd).le le__law_f
  have c__law_times := (ok__law_times (P := P) (w := w) (base := base) F__law_times gx__law_times c__law_f).le le__law_times
  have c__law_over := (ok__law_over (P := P) (w := w) (base := base) F__law_over gx__law_over c__law_f).le le__law_over
  have c__law_less := (ok__law_less (P := P) (w := w) (base := base) F__law_less gx__law_less ).le le__law_less
  have c__law_great := (ok__law_great (P := P) (w := w) (base := base) F__law_great gx__law_great c__law_less).le le__law_great
  have c__law_is_frac := (ok__law_is_frac (P := P) (w := w) (base := base) F__law_is_frac gx__law_is_frac c__law_is_int c__law_gcd z_tuple z_isinstance z_len).le le__law_is_frac
  have c__law_is_ratio := (ok__law_is_ratio (P := P) (w := w) (base := base) F__law_is_ratio gx__law_is_ratio c__law_is_frac).le le__law_is_ratio
  have c__law_row := (ok__law_row (P := P) (w := w) (base := base) F__law_row gx__law_row c__law_draw z_range z_sum z_tuple).le le__law_row
  have c__law_chances := (ok__law_chances (P := P) (w := w) (base := base) F__law_chances gx__law_chances c__law_f z_sum z_tuple).le le__law_chances
  have c__law_row_loss := (ok__law_row_loss (P := P) (w := w) (base := base) F__law_row_loss gx__law_row_loss c__law_chances c__law_great c__law_over z_zip).le le__law_row_loss
  have c__law_is_loss := (ok__law_is_loss (P := P) (w := w) (base := base) F__law_is_loss gx__law_is_loss c__law_is_ratio).le le__law_is_loss
  have c__law_first_row := (ok__law_first_row (P := P) (w := w) (base := base) F__law_first_row gx__law_first_row c__law_draw c__law_row c__law_pick z_range z_sum z_tuple).le le__law_first_row
  have c__law_other_row := (ok__law_other_row (P := P) (w := w) (base := base) F__law_other_row gx__law_other_row c__law_draw c__law_shuffled c__law_row z_len z_max z_list z_tuple z_sum).le le__law_other_row
  have c__law_sets := (ok__law_sets (P := P) (w := w) (base := base) F__law_sets gx__law_sets c__law_draw z_range).le le__law_sets
  have c__law_are_equal := (ok__law_are_equal (P := P) (w := w) (base := base) F__law_are_equal gx__law_are_equal z_zip z_sum z_all).le le__law_are_equal
  have c__law_are_sets_kept := (ok__law_are_sets_kept (P := P) (w := w) (base := base) F__law_are_sets_kept gx__law_are_sets_kept c__law_sets z_sum z_len).le le__law_are_sets_kept
  have c__law_is_pair_right := (ok__law_is_pair_right (P := P) (w := w) (base := base) F__law_is_pair_right gx__law_is_pair_right c_row_loss c__law_is_loss c__law_row_loss c__law_are_equal c__law_are_sets_kept).le le__law_is_pair_right
  have c__law_is_three_right := (ok__law_is_three_right (P := P) (w := w) (base := base) F__law_is_three_right gx__law_is_three_right c_row_loss c__law_is_loss c__law_row_loss c__law_less c__law_times).le le__law_is_three_right
  have c__law_multiplied := (ok__law_multiplied (P := P) (w := w) (base := base) F__law_multiplied gx__law_multiplied z_tuple).le le__law_multiplied
  have c__law_product := (ok__law_product (P := P) (w := w) (base := base) F__law_product gx__law_product z_tuple).le le__law_product
  have c__law_is_product_right := (ok__law_is_product_right (P := P) (w := w) (base := base) F__law_is_product_right gx__law_is_product_right c_row_loss c__law_product c__law_is_loss c__law_row_loss c__law_times).le le__law_is_product_right
  have c__law_shares_of_six := (ok__law_shares_of_six (P := P) (w := w) (base := base) F__law_shares_of_six gx__law_shares_of_six c__law_draw z_range).le le__law_shares_of_six
  have c__law_sent_on := (ok__law_sent_on (P := P) (w := w) (base := base) F__law_sent_on gx__law_sent_on z_range z_len z_sum z_tuple).le le__law_sent_on
  have c__law_is_mill_right := (ok__law_is_mill_right (P := P) (w := w) (base := base) F__law_is_mill_right gx__law_is_mill_right c__law_sent_on c_row_loss c__law_is_loss c__law_row_loss c__law_less).le le__law_is_mill_right
  have c__law_are_small_right := (ok__law_are_small_right (P := P) (w := w) (base := base) F__law_are_small_right gx__law_are_small_right c__law_draw c__law_row c__law_other_row c__law_is_three_right c__law_multiplied c__law_is_loss c_row_loss c__law_row_loss c__law_is_product_right c__law_is_mill_right c__law_shares_of_six).le le__law_are_small_right
  have c__law_are_pairs_right := (ok__law_are_pairs_right (P := P) (w := w) (base := base) F__law_are_pairs_right gx__law_are_pairs_right c__law_draw c__law_row c__law_other_row c__law_pick c__law_row_loss c__law_great c__law_is_loss c_rows_loss z_range z_len z_tuple).le le__law_are_pairs_right
  exact (ok_law (P := P) (w := w) (base := base) F_law c__law_begin c__law_draw c__law_first_row c__law_other_row c__law_is_pair_right c__law_are_small_right c__law_are_pairs_right).le le_law
end K27
open PySem PySem.W PySem.Calls PyProof.Rows
set_option maxHeartbeats 0 in
theorem PySem.Challenge.cw_closedratios_k27_whole_row_losses_holds : PySem.Challenge.rw_closedratios_k27_whole_row_losses.Holds := by
  w_on; o_law
  refine HandSHeadRun.head_imp (r := OpenLaw.row PySem.Challenge.rw_closedratios_k27_whole_row_losses) (q := view (OpenLaw.row PySem.Challenge.rw_closedratios_k27_whole_row_losses).prog [0, 46]) (H := K27.hk) (ob := K27.ob) (M := 6000) (loose := K27.nms) (d := HandSHeadRun.topDef (OpenLaw.row PySem.Challenge.rw_closedratios_k27_whole_row_losses).prog 46) (kwd := []) K27.ob_eq
    K27.run (by kernel_rfl) (by kernel_rfl) (by kernel_rfl) (by rfl) (by first | assumption | decide +kernel) (by decide +kernel) ⟨rfl, rfl, rfl, rfl, rfl, by decide +kernel⟩ ?hw ?hc
  case hw => w_witness2
  case hc =>
    refine L2.walk_ofE (l := PySem.Challenge.rw_closedratios_k27_whole_row_losses) (n := 63) (k := 7) (x := "script") (CX := L2.CX0) rfl (by decide) (by kernel_rfl) ⟨rfl, by decide, by decide⟩ ?F (fun _ _ _ _ z => z)
    intro w mg fa h Y G hmg0
    obtain ⟨K, KX, c⟩ := Y
    have hmg : mg ("law" : PySem.Str) = some (.ref fa) := by
      have e : (HandSHeadRun.topDef (OpenLaw.row PySem.Challenge.rw_closedratios_k27_whole_row_losses).prog 46).name = ("law" : PySem.Str) := by kernel_rfl
      rw [← e]
      exact hmg0
    obtain ⟨fd, hb, hF⟩ := K27.facts (P := (PySem.Challenge.rw_closedratios_k27_whole_row_losses).prog) (w := w) KX G hmg c
    exact ⟨K, fd, (fun vs H Q _ => HM.spM K 1 K27.f_law vs H Q fun _ _ _ => False), KX, hb, fun H a ns hl ho hS => HM.law_sp (n := 63) K27.law_holds H a ns hl ho hS, fun base h1 h2 => (hF base h1 h2).shut⟩
