import PyProof.Rows.All
import Wide.All
import OpenK.AllK
import Wide.FinOn
import HandS.ForMost
import HandS.Exc
import HandS.HeadHook2
import HandS.Nested
import HandS.TupAny
import HandS.IsInst
import HandS.Wide
import HandS.Style
import HandS.Conv
import HandS.NoneIn
import HandS.TryOnly
import HandS.ExcOwn
import HandS.CallSlots
import HandS.Zip
import HandS.Small
import HandS.Defaults
import HandS.EndTab
import HandS.HeadHook4
import HandS.HeadWalk
import PySem.Challenge.RW_lacuna_k66_cuts_that_double
import KE.KStateDown
import Lean
import HandS.Ends
import HandS.WordsExc
import HandS.Head0
import HandS.Head1
import HandS.Head2
import HandS.HeadEnd
set_option Elab.async false
set_option linter.all false
set_option maxRecDepth 100000
set_option maxHeartbeats 4000000
/-! Lx: a layer of trees over HandS. A tuple is a tree (AV.tup), lists, dicts, instances lie in an abstract store AH. -/
namespace Lx
open PySem PySem.Spec PyProof.Rows L2 LamX NdefX

inductive AV where
  | non | bl (b : Bool) | int (i : Int) | str (s : Str) | tup (xs : List AV) | rol (xs : List AV) | ref (a : Addr)

/-- an exception: its class by name, what its own dict tells (nothing where it has none) -/
structure AX where
  cls : Str
  arg : Option (Str × AV) := none

inductive AObj where
  | lst (xs : List AV) | dic (kvs : List (Key × AV)) | ins (c : Str) (fs : List (Str × AV))
  /-- a nested def of the running frame (its cells: κ); one of a caller's, with what its captured names hold -/
  | lcl (t : Nat) (κ : List (Str × Addr)) | clo (t : Nat) (ws : List (Option AV))
/-- a nested def: its words, parameters, captured names, all names by slot, and the captured names' slots in the frame that makes it -/
structure NFd where
  name : Str
  qual : Str
  params : Arguments
  body : List Stmt
  scope : Scope
  ps : List Str
  fr : List Str
  N : List Str
  js : List Nat
abbrev NFd.mk' (n : NFd) (κ : List (Str × Addr)) (c : Addr) : NF := ⟨n.name, n.qual, n.params, n.body, n.scope, cloFrom κ n.scope.names [], c⟩
/-- what a law's program has of nested defs: the tables of code objects, the defs by number -/
class LawTb where
  tb : PySem.W.Frag → List (Addr × Str)
  nt : Nat → NFd

abbrev AH := Addr → Option AObj
def aup (h : AH) (a : Addr) (o : AObj) : AH := fun b => if b = a then some o else h b
theorem aup_same {h : AH} {a : Addr} {o : AObj} : aup h a o a = some o := by unfold aup; rw [if_pos rfl]
theorem aup_ne {h : AH} {a b : Addr} {o : AObj} (e : b ≠ a) : aup h a o b = h b := by unfold aup; rw [if_neg e]
theorem aup_aup {h : AH} {a : Addr} {o u : AObj} : aup (aup h a o) a u = aup h a u := by
  funext b; unfold aup; split <;> rfl
/-- less is known -/
def ALe (h h' : AH) : Prop := ∀ a o, h a = some o → h' a = some o
theorem ALe.refl (h : AH) : ALe h h := fun _ _ e => e
theorem ALe.trans {h h1 h2 : AH} (p : ALe h h1) (q : ALe h1 h2) : ALe h h2 := fun a o e => q a o (p a o e)
theorem ALe.up {h : AH} {a : Addr} {o : AObj} (e : h a = none) : ALe h (aup h a o) := fun b u q => by
  by_cases z : b = a
  · subst z; rw [e] at q; cases q
  · rw [aup_ne z]; exact q

/-- a list that is never written: locked, or of the module -/
def SqR (K : PySem.W.Frag) (H : Hp) (a : Addr) (xs : List V) : Prop :=
  (∃ o, H a = some (.frz o (.lst xs))) ∨
    ∃ (o : Obj) (its : Array Value) (n : Nat), K.lookup a = some o ∧ o.cls = .type "list" ∧ o.dict = none ∧ o.data = .seq its n ∧ its.size ≤ sizeLine ∧ Vals xs its.toList
theorem SqR.l {K : PySem.W.Frag} {H : Hp} {a : Addr} {xs : List V} (h : SqR K H a xs) : SqL K H a xs := h.elim (fun z => .inl (.inr z)) .inr

section
variable [LawTb] (K : PySem.W.Frag) (H : Hp)
mutual
inductive RV : AV → V → Prop
  | non : RV .non .non
  | bl (b : Bool) : RV (.bl b) (.bl b)
  | int (i : Int) : RV (.int i) (.int i)
  | str (s : Str) : RV (.str s) (.str s)
  | ref (a : Addr) : RV (.ref a) (.ref a)
  | tup {a : Addr} {xs : List AV} {vs : List V} : SqT K H a vs → RVs xs vs → RV (.tup xs) (.ref a)
  | rol {a : Addr} {xs : List AV} {vs : List V} : SqR K H a vs → RVs xs vs → RV (.rol xs) (.ref a)
inductive RVs : List AV → List V → Prop
  | nil : RVs [] []
  | cons {x : AV} {xs : List AV} {v : V} {vs : List V} : RV x v → RVs xs vs → RVs (x :: xs) (v :: vs)
end
/-- entries by keys -/
inductive RKs {κ : Type} : List (κ × AV) → List (κ × V) → Prop
  | nil : RKs [] []
  | cons {k : κ} {x : AV} {v : V} {xs : List (κ × AV)} {vs : List (κ × V)} : RV K H x v → RKs xs vs → RKs ((k, x) :: xs) ((k, v) :: vs)
/-- a new rule for closures comes with its module: what a closure object is -/
def RO (a : Addr) : AObj → Prop
  | .lst xs => ∃ vs, H a = some (.lst vs) ∧ RVs K H xs vs
  | .dic kvs => ∃ ws, H a = some (.dK ws) ∧ RKs K H kvs ws
  | .ins c fs => ∃ dx ws, H a = some (.ins (He.ga K c) dx ws) ∧ H dx = some (.own a) ∧ RKs K H fs ws
  | .lcl t κ => ∃ c, H a = some (FnO a ((LawTb.nt t).mk' κ c)) ∧ H c = some (CodeO c (LawTb.nt t).qual)
  | .clo t ws => ∃ κ c, H a = some (FnO a ((LawTb.nt t).mk' κ c)) ∧ H c = some (CodeO c (LawTb.nt t).qual) ∧ ws.length = (LawTb.nt t).fr.length ∧
      (∀ x y b, (cloFrom κ (LawTb.nt t).scope.names []).lookup x = some b → (cloFrom κ (LawTb.nt t).scope.names []).lookup y = some b → x = y) ∧
      (∀ y b, (cloFrom κ (LawTb.nt t).scope.names []).lookup y = some b → ∃ o v, H b = some (.frz o (.ext fun _ => True)) ∧ o.data = .cell v) ∧
      ∀ (i : Nat) (y : Str), (LawTb.nt t).fr[i]? = some y → ∃ b o v, (cloFrom κ (LawTb.nt t).scope.names []).lookup y = some b ∧ H b = some (.frz o (.ext fun _ => True)) ∧ o.data = .cell v ∧
        ∀ x, ws[i]? = some (some x) → ∃ z u, v = some u ∧ L2.RelV z u ∧ RV K H x z
structure HR (h : AH) : Prop where
  st : ∀ a o, h a = some o → RO K H a o
  tb : Tabs (LawTb.tb K) H
/-- slots -/
def RS (σa : List (Option AV)) (σ : List (Option V)) : Prop := σa.length = σ.length ∧ ∀ (i : Nat) (x : AV), σa[i]? = some (some x) → ∃ v : V, σ[i]? = some (some v) ∧ RV K H x v
/-- an exception -/
def RX (x : AX) (cls : Value) (d : Option Addr) : Prop := cls = .ref (He.ga K x.cls) ∧ match x.arg with
  | none => True
  | some (f, y) => ∃ dd v, d = some dd ∧ H dd = some (.xd [(f, v)]) ∧ RV K H y v
end

section
variable [LawTb] {K : PySem.W.Frag} {H H1 H2 : Hp}
/-- what trees lean on stays -/
structure Keep (K : PySem.W.Frag) (H H1 : Hp) : Prop where
  tup : ∀ a xs, SqT K H a xs → SqT K H1 a xs
  rol : ∀ a xs, SqR K H a xs → SqR K H1 a xs
theorem Keep.refl : Keep K H H := ⟨fun _ _ h => h, fun _ _ h => h⟩
theorem Keep.trans (p : Keep K H H1) (q : Keep K H1 H2) : Keep K H H2 := ⟨fun a xs h => q.tup a xs (p.tup a xs h), fun a xs h => q.rol a xs (p.rol a xs h)⟩
mutual
theorem RV.keep (k : Keep K H H1) : ∀ {x : AV} {v : V}, RV K H x v → RV K H1 x v
  | _, _, .non => .non
  | _, _, .bl b => .bl b
  | _, _, .int i => .int i
  | _, _, .str s => .str s
  | _, _, .ref a => .ref a
  | _, _, .tup h r => .tup (k.tup _ _ h) (RVs.keep k r)
  | _, _, .rol h r => .rol (k.rol _ _ h) (RVs.keep k r)
theorem RVs.keep (k : Keep K H H1) : ∀ {xs : List AV} {vs : List V}, RVs K H xs vs → RVs K H1 xs vs
  | _, _, .nil => .nil
  | _, _, .cons r t => .cons (RV.keep k r) (RVs.keep k t)
end
theorem RKs.keep {κ : Type} (k : Keep K H H1) {xs : List (κ × AV)} {vs : List (κ × V)} (r : RKs K H xs vs) : RKs K H1 xs vs := by
  induction r with
  | nil => exact .nil
  | cons q _ ih => exact .cons (q.keep k) ih
theorem RS.keep (k : Keep K H H1) {σa : List (Option AV)} {σ : L2.St} (r : RS K H σa σ) : RS K H1 σa σ := ⟨r.1, fun i x e => let ⟨v, p, q⟩ := r.2 i x e; ⟨v, p, q.keep k⟩⟩
theorem RVs.length {xs : List AV} {vs : List V} (r : RVs K H xs vs) : xs.length = vs.length := by
  induction xs generalizing vs with
  | nil => cases r; rfl
  | cons x xs ih => cases r with | cons _ t => rw [List.length_cons, List.length_cons, ih t]
theorem RVs.get {xs : List AV} {vs : List V} (r : RVs K H xs vs) {i : Nat} {x : AV} (e : xs[i]? = some x) : ∃ v, vs[i]? = some v ∧ RV K H x v := by
  induction xs generalizing vs i with
  | nil => simp at e
  | cons y ys ih =>
    cases r with
    | cons p t =>
      cases i with
      | zero => simp at e; subst e; exact ⟨_, rfl, p⟩
      | succ i => simpa using ih t (by simpa using e)
theorem RVs.get' {xs : List AV} {vs : List V} (r : RVs K H xs vs) {i : Nat} {v : V} (e : vs[i]? = some v) : ∃ x, xs[i]? = some x ∧ RV K H x v := by
  induction xs generalizing vs i with
  | nil => cases r; simp at e
  | cons y ys ih =>
    cases r with
    | cons p t =>
      cases i with
      | zero => simp at e; subst e; exact ⟨_, rfl, p⟩
      | succ i => simpa using ih t (by simpa using e)
theorem RVs.append {xs ys : List AV} {vs ws : List V} (r : RVs K H xs vs) (q : RVs K H ys ws) : RVs K H (xs ++ ys) (vs ++ ws) := by
  induction xs generalizing vs with
  | nil => cases r; exact q
  | cons x xs ih => cases r with | cons p t => exact .cons p (ih t)
theorem RVs.take {xs : List AV} {vs : List V} (n : Nat) (r : RVs K H xs vs) : RVs K H (xs.take n) (vs.take n) := by
  induction xs generalizing vs n with
  | nil => cases r; simpa using RVs.nil
  | cons x xs ih => cases r with | cons p t => cases n with
    | zero => exact .nil
    | succ n => exact .cons p (ih n t)
theorem RVs.drop {xs : List AV} {vs : List V} (n : Nat) (r : RVs K H xs vs) : RVs K H (xs.drop n) (vs.drop n) := by
  induction xs generalizing vs n with
  | nil => cases r; simpa using RVs.nil
  | cons x xs ih => cases r with | cons p t => cases n with
    | zero => exact .cons p t
    | succ n => exact ih n t
theorem RVs.reverse {xs : List AV} {vs : List V} (r : RVs K H xs vs) : RVs K H xs.reverse vs.reverse := by
  induction xs generalizing vs with
  | nil => cases r; exact .nil
  | cons x xs ih => cases r with | cons p t => rw [List.reverse_cons, List.reverse_cons]; exact (ih t).append (.cons p .nil)
theorem RVs.set {xs : List AV} {vs : List V} (r : RVs K H xs vs) (i : Nat) {x : AV} {v : V} (q : RV K H x v) : RVs K H (xs.set i x) (vs.set i v) := by
  induction xs generalizing vs i with
  | nil => cases r; exact .nil
  | cons y xs ih => cases r with | cons p t => cases i with
    | zero => exact .cons q t
    | succ i => exact .cons p (ih t i)
theorem RVs.dropLast {xs : List AV} {vs : List V} (r : RVs K H xs vs) : RVs K H xs.dropLast vs.dropLast := by
  rw [List.dropLast_eq_take, List.dropLast_eq_take, r.length]; exact r.take _
theorem RKs.lookup {κ : Type} [BEq κ] {xs : List (κ × AV)} {vs : List (κ × V)} (r : RKs K H xs vs) {k : κ} {x : AV} (e : xs.lookup k = some x) : ∃ v, vs.lookup k = some v ∧ RV K H x v := by
  induction r with
  | nil => cases e
  | @cons k' y v ys ws p t ih =>
    rw [List.lookup_cons] at e ⊢
    cases q : k == k' with
    | true => rw [q] at e; cases e; exact ⟨v, rfl, p⟩
    | false => rw [q] at e; exact ih e
theorem RKs.lookup_none {κ : Type} [BEq κ] {xs : List (κ × AV)} {vs : List (κ × V)} (r : RKs K H xs vs) {k : κ} (e : xs.lookup k = none) : vs.lookup k = none := by
  induction r with
  | nil => rfl
  | @cons k' y v ys ws p t ih =>
    rw [List.lookup_cons] at e ⊢
    cases q : k == k' with
    | true => rw [q] at e; cases e
    | false => rw [q] at e; exact ih e
theorem RKs.keys {κ : Type} {xs : List (κ × AV)} {vs : List (κ × V)} (r : RKs K H xs vs) : xs.map (·.1) = vs.map (·.1) := by
  induction r with
  | nil => rfl
  | cons _ _ ih => rw [List.map_cons, List.map_cons, ih]
theorem RKs.length {κ : Type} {xs : List (κ × AV)} {vs : List (κ × V)} (r : RKs K H xs vs) : xs.length = vs.length := by
  have := congrArg List.length r.keys
  simpa using this
/-- what stands at an abstract address is tracked -/
theorem RO.some {a : Addr} {o : AObj} (r : RO K H a o) : ∃ u, H a = some u := by
  cases o with
  | lst xs => obtain ⟨vs, e, _⟩ := r; exact ⟨_, e⟩
  | dic kvs => obtain ⟨ws, e, _⟩ := r; exact ⟨_, e⟩
  | ins c fs => obtain ⟨dx, ws, e, _⟩ := r; exact ⟨_, e⟩
  | lcl t κ => obtain ⟨c, e, _⟩ := r; exact ⟨_, e⟩
  | clo t ws => obtain ⟨κ, c, e, _⟩ := r; exact ⟨_, e⟩
theorem HR.dom {h : AH} (r : HR K H h) {a : Addr} (e : H a = none) : h a = none := by
  cases q : h a with
  | none => rfl
  | some o => obtain ⟨u, z⟩ := (r.st a o q).some; rw [e] at z; cases z
theorem HR.le {h h' : AH} (r : HR K H h') (l : ALe h h') : HR K H h := ⟨fun a o e => r.st a o (l a o e), r.tb⟩

/-- all but p stays, p held no tree -/
structure Kp (K : PySem.W.Frag) (p : Addr) (H H1 : Hp) : Prop where
  kp : ∀ b u, b ≠ p → H b = some u → H1 b = some u
  nt : ∀ xs, ¬ Rd H p (.tup xs)
  no : ∀ y, H p ≠ some (.own y)
  nf : ∀ o u, H p ≠ some (.frz o u)
  nx : ∀ φ, H p ≠ some (.ext φ)
  nb : ∀ ps, H p ≠ some (.tbl ps)
theorem Kp.fresh {p : Addr} {o : HO} (e : H p = none) : Kp K p H (upd H p o) :=
  ⟨fun b u z q => (upd_ne z).trans q, fun xs z => (by rcases z with z | ⟨_, z⟩ <;> (rw [e] at z; cases z)), fun y z => (by rw [e] at z; cases z), fun _ _ z => (by rw [e] at z; cases z), fun _ z => (by rw [e] at z; cases z), fun _ z => (by rw [e] at z; cases z)⟩
theorem Kp.lst {p : Addr} {o : HO} {xs : List V} (e : H p = some (.lst xs)) : Kp K p H (upd H p o) :=
  ⟨fun b u z q => (upd_ne z).trans q, fun xs z => (by rcases z with z | ⟨_, z⟩ <;> (rw [e] at z; cases z)), fun y z => (by rw [e] at z; cases z), fun _ _ z => (by rw [e] at z; cases z), fun _ z => (by rw [e] at z; cases z), fun _ z => (by rw [e] at z; cases z)⟩
theorem Kp.dK {p : Addr} {o : HO} {xs : List (Key × V)} (e : H p = some (.dK xs)) : Kp K p H (upd H p o) :=
  ⟨fun b u z q => (upd_ne z).trans q, fun xs z => (by rcases z with z | ⟨_, z⟩ <;> (rw [e] at z; cases z)), fun y z => (by rw [e] at z; cases z), fun _ _ z => (by rw [e] at z; cases z), fun _ z => (by rw [e] at z; cases z), fun _ z => (by rw [e] at z; cases z)⟩
theorem Kp.ins {p C dx : Addr} {o : HO} {xs : List (Str × V)} (e : H p = some (.ins C dx xs)) : Kp K p H (upd H p o) :=
  ⟨fun b u z q => (upd_ne z).trans q, fun xs z => (by rcases z with z | ⟨_, z⟩ <;> (rw [e] at z; cases z)), fun y z => (by rw [e] at z; cases z), fun _ _ z => (by rw [e] at z; cases z), fun _ z => (by rw [e] at z; cases z), fun _ z => (by rw [e] at z; cases z)⟩
theorem Kp.keep {p : Addr} (k : Kp K p H H1) : Keep K H H1 := by
  refine ⟨fun a xs h => ?_, fun a xs h => ?_⟩
  · rcases h with h | h
    · have z : a ≠ p := fun z => k.nt xs (z ▸ h)
      rcases h with h | ⟨o, h⟩
      · exact .inl (.inl (k.kp _ _ z h))
      · exact .inl (.inr ⟨o, k.kp _ _ z h⟩)
    · exact .inr h
  · rcases h with ⟨o, h⟩ | h
    · exact .inl ⟨o, k.kp _ _ (fun z => k.nf _ _ (z ▸ h)) h⟩
    · exact .inr h
theorem RO.kp {p a : Addr} {o : AObj} (k : Kp K p H H1) (ne : a ≠ p) (r : RO K H a o) : RO K H1 a o := by
  cases o with
  | lst xs => obtain ⟨vs, e, q⟩ := r; exact ⟨vs, k.kp _ _ ne e, q.keep k.keep⟩
  | dic kvs => obtain ⟨ws, e, q⟩ := r; exact ⟨ws, k.kp _ _ ne e, q.keep k.keep⟩
  | ins c fs => obtain ⟨dx, ws, e, d, q⟩ := r; exact ⟨dx, ws, k.kp _ _ ne e, k.kp _ _ (fun z => k.no a (z ▸ d)) d, q.keep k.keep⟩
  | lcl t κ => obtain ⟨c, e, d⟩ := r; exact ⟨c, k.kp _ _ ne e, k.kp _ _ (fun z => k.nx _ (z ▸ d)) d⟩
  | clo t ws =>
    obtain ⟨κ, c, e, d, l, i, al, q⟩ := r
    refine ⟨κ, c, k.kp _ _ ne e, k.kp _ _ (fun z => k.nx _ (z ▸ d)) d, l, i, fun y b z => ?_, fun j y z => ?_⟩
    · obtain ⟨o, v, h1, h2⟩ := al y b z
      exact ⟨o, v, k.kp _ _ (fun z => k.nf _ _ (z ▸ h1)) h1, h2⟩
    · obtain ⟨b, o, v, h0, h1, h2, h3⟩ := q j y z
      refine ⟨b, o, v, h0, k.kp _ _ (fun z => k.nf _ _ (z ▸ h1)) h1, h2, fun x ex => ?_⟩
      obtain ⟨z1, u, e1, e2, e3⟩ := h3 x ex
      exact ⟨z1, u, e1, e2, e3.keep k.keep⟩
theorem tabs_kp {p : Addr} (k : Kp K p H H1) (t : Tabs (LawTb.tb K) H) : Tabs (LawTb.tb K) H1 := fun q hq => by
  obtain ⟨ps, h1, h2, h3⟩ := t q hq
  refine ⟨ps, k.kp _ _ (fun z => k.nb _ (z ▸ h1)) h1, h2, fun pos cv hc => ?_⟩
  obtain ⟨c, e1, e2⟩ := h3 pos cv hc
  exact ⟨c, e1, k.kp _ _ (fun z => k.nx _ (z ▸ e2)) e2⟩
/-- the store behind a change at p -/
theorem HR.put {h : AH} {p : Addr} {o : AObj} (r : HR K H h) (k : Kp K p H H1) (q : RO K H1 p o) : HR K H1 (aup h p o) := ⟨fun a u e => by
  by_cases z : a = p
  · subst z; rw [aup_same] at e; cases e; exact q
  · rw [aup_ne z] at e; exact (r.st a u e).kp k z, tabs_kp k r.tb⟩
/-- a new thing that the store does not tell -/
theorem HR.new {h : AH} {p : Addr} (r : HR K H h) (k : Kp K p H H1) (e : h p = none) : HR K H1 h := ⟨fun a u q => (r.st a u q).kp k (fun z => by subst z; rw [e] at q; cases q), tabs_kp k r.tb⟩

/-- what lay outside of the store stays (tables may grow), what is new in it was not there -/
structure Fr (h : AH) (H : Hp) (h1 : AH) (H1 : Hp) : Prop where
  ext : ∀ a o, h a = none → H a = some o → (∀ ps, o ≠ .tbl ps) → H1 a = some o
  new : ∀ a, h a = none → h1 a ≠ none → H a = none ∨ ∃ ps, H a = some (.tbl ps)
theorem Fr.refl {h : AH} : Fr h H h H := ⟨fun _ _ _ e _ => e, fun a e z => absurd e z⟩
theorem Fr.trans {h h1 h2 : AH} (p : Fr h H h1 H1) (q : Fr h1 H1 h2 H2) : Fr h H h2 H2 := by
  refine ⟨fun a o e1 e2 n => ?_, fun a e1 z => ?_⟩
  · refine q.ext a o ?_ (p.ext a o e1 e2 n) n
    cases w : h1 a with
    | none => rfl
    | some u =>
      rcases p.new a e1 (by rw [w]; simp) with y | ⟨ps, y⟩
      · rw [e2] at y; cases y
      · rw [e2] at y; cases y; exact (n ps rfl).elim
  · cases w : h1 a with
    | none =>
      cases y : H a with
      | none => exact .inl rfl
      | some o =>
        by_cases b : ∃ ps, o = .tbl ps
        · obtain ⟨ps, rfl⟩ := b
          exact .inr ⟨ps, rfl⟩
        · have g := p.ext a o e1 y fun ps z => b ⟨ps, z⟩
          rcases q.new a w z with n | ⟨ps, n⟩
          · rw [g] at n; cases n
          · rw [g] at n; cases n; exact (b ⟨ps, rfl⟩).elim
    | some u => exact p.new a e1 (by rw [w]; simp)
theorem Fr.le {h h1 h2 : AH} (p : Fr h H h1 H1) (l : ALe h2 h1) : Fr h H h2 H1 := ⟨p.ext, fun a e z => p.new a e (fun w => by
  cases y : h2 a with
  | none => exact z y
  | some o => rw [l a o y] at w; cases w)⟩
/-- what is neither a list, a dict, an instance nor a def -/
theorem HR.out {h : AH} (r : HR K H h) {a : Addr} {u : HO} (e : H a = some u) (n1 : ∀ xs, u ≠ .lst xs) (n2 : ∀ xs, u ≠ .dK xs) (n3 : ∀ C d fs, u ≠ .ins C d fs) (n4 : ∀ φ, u ≠ .ext φ) : h a = none := by
  cases w : h a with
  | none => rfl
  | some o =>
    have q := r.st a o w
    cases o with
    | lst xs => obtain ⟨vs, z, _⟩ := q; rw [e] at z; cases z; exact (n1 _ rfl).elim
    | dic xs => obtain ⟨vs, z, _⟩ := q; rw [e] at z; cases z; exact (n2 _ rfl).elim
    | ins c fs => obtain ⟨d, vs, z, _⟩ := q; rw [e] at z; cases z; exact (n3 _ _ _ rfl).elim
    | lcl t κ => obtain ⟨c, z, _⟩ := q; rw [e] at z; cases z; exact (n4 _ rfl).elim
    | clo t ws => obtain ⟨κ, c, z, _⟩ := q; rw [e] at z; cases z; exact (n4 _ rfl).elim
theorem Fr.keep {h h1 : AH} (p : Fr h H h1 H1) (r : HR K H h) : Keep K H H1 := by
  refine ⟨fun a xs q => ?_, fun a xs q => ?_⟩
  · rcases q with (q | ⟨o, q⟩) | q
    · exact .inl (.inl (p.ext _ _ (r.out q (fun _ z => by cases z) (fun _ z => by cases z) (fun _ _ _ z => by cases z) (fun _ z => by cases z)) q fun _ z => by cases z))
    · exact .inl (.inr ⟨o, p.ext _ _ (r.out q (fun _ z => by cases z) (fun _ z => by cases z) (fun _ _ _ z => by cases z) (fun _ z => by cases z)) q fun _ z => by cases z⟩)
    · exact .inr q
  · rcases q with ⟨o, q⟩ | q
    · exact .inl ⟨o, p.ext _ _ (r.out q (fun _ z => by cases z) (fun _ z => by cases z) (fun _ _ _ z => by cases z) (fun _ z => by cases z)) q fun _ z => by cases z⟩
    · exact .inr q
/-- the change at p, in the store and beneath -/
theorem Fr.put {h : AH} {p : Addr} {o : AObj} {u : HO} (e : h p ≠ none ∨ H p = none) : Fr h H (aup h p o) (upd H p u) := by
  refine ⟨fun a w e1 e2 _ => ?_, fun a e1 z => ?_⟩
  · refine (upd_ne fun q => ?_).trans e2
    subst q
    rcases e with e | e
    · exact e e1
    · rw [e2] at e; cases e
  · by_cases q : a = p
    · subst q
      rcases e with e | e
      · exact absurd e1 e
      · exact .inl e
    · rw [aup_ne q] at z; exact absurd e1 z
theorem Fr.putn {h : AH} {p : Addr} {o : AObj} {u : HO} (e : H p = none) : Fr h H (aup h p o) (upd H p u) := .put (.inr e)
theorem Fr.puto {h : AH} {p : Addr} {o o1 : AObj} {u : HO} (k : Kp K p H (upd H p u)) (e : h p = some o1) : Fr h H (aup h p o) (upd H p u) := .put (.inl (by rw [e]; simp))
theorem Fr.fresh {h : AH} {p : Addr} {u : HO} (e : H p = none) : Fr h H h (upd H p u) :=
  ⟨fun a w _ e2 _ => (upd_ne (ne_of_none e2 e)).trans e2, fun a e1 z => absurd e1 z⟩
end

/-! ### abstract readings and what they are worth -/
abbrev AEnv := List (Option AV)
abbrev KE := AX → AH → Prop
/-- an abstract reading that gives an α -/
abbrev M (α : Type) := AEnv → AH → (α → AH → Prop) → KE → Prop
def M.bind {α β : Type} (w : M α) (f : α → M β) : M β := fun σ h Q E => w σ h (fun x h1 => f x σ h1 Q E) E
def M.ret {α : Type} (x : α) : M α := fun _ h Q _ => Q x h
variable [LawTb]
structure Ab (K : PySem.W.Frag) (σ : L2.St) (H : Hp) (σa : AEnv) (h : AH) : Prop where
  env : RS K H σa σ
  hp : HR K H h
/-- the reading w, over what is tracked: R relates what is given -/
def tG {α β : Type} (K : PySem.W.Frag) (W : WX) (R : Hp → α → β → Prop) (w : M α) : L2.St → Hp → (β → Hp → Prop) → Prop := fun σ H Q => ∃ σa h Qa Ea, Ab K σ H σa h ∧ w σa h Qa Ea ∧
  (∀ x h1 y H1, Qa x h1 → HR K H1 h1 → R H1 x y → Fr h H h1 H1 → Q y H1) ∧
  ∀ x h1 c d H1, Ea x h1 → HR K H1 h1 → RX K H1 x c d → Fr h H h1 H1 → W c d σ H1
section
variable {K : PySem.W.Frag} {W : WX} {α β γ δ : Type} {R : Hp → α → β → Prop} {S : Hp → γ → δ → Prop} {σ : L2.St} {H : Hp}
/-- one after the other -/
theorem tG.bind {w : M α} {f : α → M γ} {Q : δ → Hp → Prop} {T : β → Hp → Prop} (t : tG K W S (w.bind f) σ H Q)
    (step : ∀ x y H1, R H1 x y → Keep K H H1 → tG K W S (f x) σ H1 Q → T y H1) : tG K W R w σ H T := by
  obtain ⟨σa, h, Qa, Ea, ab, hw, hq, he⟩ := t
  refine ⟨σa, h, _, Ea, ab, hw, fun x h1 y H1 q r1 rr fr => ?_, he⟩
  have k := fr.keep ab.hp
  exact step x y H1 rr k ⟨σa, h1, Qa, Ea, ⟨ab.env.keep k, r1⟩, q, fun x2 h2 y2 H2 q2 r2 rr2 fr2 => hq x2 h2 y2 H2 q2 r2 rr2 (fr.trans fr2),
    fun x2 h2 c d H2 q2 r2 rx fr2 => he x2 h2 c d H2 q2 r2 rx (fr.trans fr2)⟩
theorem tG.mono {w w' : M α} {Q Q' : β → Hp → Prop} (t : tG K W R w σ H Q) (hw : ∀ σ h Q E, w σ h Q E → w' σ h Q E) (hQ : ∀ y H, Q y H → Q' y H) : tG K W R w' σ H Q' := by
  obtain ⟨σa, h, Qa, Ea, ab, q, hq, he⟩ := t
  exact ⟨σa, h, Qa, Ea, ab, hw _ _ _ _ q, fun x h1 y H1 q r1 rr fr => hQ _ _ (hq x h1 y H1 q r1 rr fr), he⟩
/-- no change -/
theorem tG.pure {C : AEnv → AH → Prop} {x : α} {Q : β → Hp → Prop} (t : tG K W R (fun σ h Q _ => C σ h ∧ Q x h) σ H Q) : (∃ σa h, Ab K σ H σa h ∧ C σa h) ∧ ∀ y, R H x y → Q y H := by
  obtain ⟨σa, h, Qa, Ea, ab, ⟨c, q⟩, hq, he⟩ := t
  exact ⟨⟨σa, h, ab, c⟩, fun y r => hq x h y H q ab.hp r .refl⟩
theorem tG.ret {x : α} {Q : β → Hp → Prop} (t : tG K W R (M.ret x) σ H Q) {y : β} (r : R H x y) : Q y H := by
  obtain ⟨σa, h, Qa, Ea, ab, q, hq, he⟩ := t
  exact hq x h y H q ab.hp r .refl
/-- a new thing beneath, not in the store (a tuple) -/
theorem tG.under {x : α} {Q : β → Hp → Prop} (t : tG K W R (M.ret x) σ H Q) {p : Addr} {u : HO} (e : H p = none) {y : β} (r : R (upd H p u) x y) : Q y (upd H p u) := by
  obtain ⟨σa, h, Qa, Ea, ab, q, hq, he⟩ := t
  exact hq x h y _ q (ab.hp.new (Kp.fresh e) (ab.hp.dom e)) r (.fresh e)
/-- a new thing in the store -/
theorem tG.alloc {o : AObj} {f : Addr → α} {Q : β → Hp → Prop} (t : tG K W R (fun _ h Q _ => ∀ p, h p = none → Q (f p) (aup h p o)) σ H Q) {p : Addr} {u : HO} (e : H p = none) (ro : RO K (upd H p u) p o) {y : β} (r : R (upd H p u) (f p) y) : Q y (upd H p u) := by
  obtain ⟨σa, h, Qa, Ea, ab, q, hq, he⟩ := t
  exact hq _ _ y _ (q p (ab.hp.dom e)) (ab.hp.put (Kp.fresh e) ro) r (.putn e)
end
/-- expressions, tests, arguments -/
abbrev tE (K : PySem.W.Frag) (W : WX) (w : M AV) : TE := tG K W (RV K) w
abbrev tT (K : PySem.W.Frag) (W : WX) (w : M Bool) : TT := tG K W (fun _ a b => a = b) w
abbrev tA (K : PySem.W.Frag) (W : WX) (w : M (List AV)) : TA := tG K W (RVs K) w
abbrev XE (X : Cx) (W : WX) (e : Expr) (w : M AV) : Prop := PE X e (tE X.K W w)
abbrev XT (X : Cx) (W : WX) (e : Expr) (w : M Bool) : Prop := PT X e (tT X.K W w)
abbrev XA (X : Cx) (W : WX) (es : List Expr) (w : M (List AV)) : Prop := PA X es (tA X.K W w)
theorem PE.imp {X : Cx} {e : Expr} {t t' : TE} (h : PE X e t) (i : ∀ σ H Q, t' σ H Q → t σ H Q) : PE X e t' := ⟨fun pins s σ H Q I q => h.run pins s σ H Q I (i _ _ _ q)⟩
theorem PT.imp {X : Cx} {e : Expr} {t t' : TT} (h : PT X e t) (i : ∀ σ H Q, t' σ H Q → t σ H Q) : PT X e t' := ⟨fun pins s σ H Q I q => h.run pins s σ H Q I (i _ _ _ q)⟩
theorem PA.imp {X : Cx} {es : List Expr} {t t' : TA} (h : PA X es t) (i : ∀ σ H Q, t' σ H Q → t σ H Q) : PA X es t' := ⟨fun pos pins s σ H Q I q => h.run pos pins s σ H Q I (i _ _ _ q)⟩
theorem PS.imp {X : Cx} {e : Stmt} {t t' : TS} (h : PS X e t) (i : ∀ D σ H, t' D σ H → t D σ H) : PS X e t' := ⟨fun pins s σ H D I q => h.run pins s σ H D I (i _ _ _ q)⟩
theorem PSs.imp {X : Cx} {es : List Stmt} {t t' : TS} (h : PSs X es t) (i : ∀ D σ H, t' D σ H → t D σ H) : PSs X es t' := ⟨fun pins s σ H D I q => h.run pins s σ H D I (i _ _ _ q)⟩
end Lx

/-! Lx: expressions. -/
namespace Lx
open PySem PySem.Spec PyProof.Rows L2
variable [LawTb]
/-- a primitive's reading: no slots, nothing raised -/
abbrev P1 := AH → (AV → AH → Prop) → Prop
def tP (K : PySem.W.Frag) (w : P1) : Hp → VK → Prop := fun H Q => ∃ h Qa, HR K H h ∧ w h Qa ∧ ∀ x h1 y H1, Qa x h1 → HR K H1 h1 → RV K H1 x y → Fr h H h1 H1 → Q y H1
def M.prim (w : P1) : M AV := fun _ h Q _ => w h Q
section
variable {K : PySem.W.Frag} {W : WX} {σ : L2.St} {H : Hp} {Q : VK}
theorem tG.prim {w : P1} (t : tE K W (M.prim w) σ H Q) : tP K w H Q := by
  obtain ⟨σa, h, Qa, Ea, ab, q, hq, _⟩ := t
  exact ⟨h, Qa, ab.hp, q, hq⟩
theorem tP.val {x : AV} {y : V} (t : tP K (fun h Q => Q x h) H Q) (r : RV K H x y) : Q y H := by
  obtain ⟨h, Qa, hr, q, hq⟩ := t
  exact hq x h y H q hr r .refl
theorem tP.if_ {C : Prop} {w : P1} (t : tP K (fun h Q => C ∧ w h Q) H Q) : C ∧ tP K w H Q := by
  obtain ⟨h, Qa, hr, ⟨c, q⟩, hq⟩ := t
  exact ⟨c, h, Qa, hr, q, hq⟩
theorem tP.no (t : tP K (fun _ _ => False) H Q) : False := by
  obtain ⟨h, Qa, hr, q, hq⟩ := t
  exact q
theorem tP.ex {ι : Type} {w : ι → P1} (t : tP K (fun h Q => ∃ i, w i h Q) H Q) : ∃ i, tP K (w i) H Q := by
  obtain ⟨h, Qa, hr, ⟨i, q⟩, hq⟩ := t
  exact ⟨i, h, Qa, hr, q, hq⟩
/-- a look at the store -/
theorem tP.at {a : Addr} {o : AObj} {w : P1} (t : tP K (fun h Q => h a = some o ∧ w h Q) H Q) : RO K H a o ∧ tP K w H Q := by
  obtain ⟨h, Qa, hr, ⟨e, q⟩, hq⟩ := t
  exact ⟨hr.st a o e, h, Qa, hr, q, hq⟩
theorem tP.under {x : AV} (t : tP K (fun h Q => Q x h) H Q) {p : Addr} {u : HO} (e : H p = none) {y : V} (r : RV K (upd H p u) x y) : Q y (upd H p u) := by
  obtain ⟨h, Qa, hr, q, hq⟩ := t
  exact hq x h y _ q (hr.new (Kp.fresh e) (hr.dom e)) r (.fresh e)
theorem tP.alloc {o : AObj} (t : tP K (fun h Q => ∀ p, h p = none → Q (.ref p) (aup h p o)) H Q) {p : Addr} {u : HO} (e : H p = none) (ro : RO K (upd H p u) p o) : Q (.ref p) (upd H p u) := by
  obtain ⟨h, Qa, hr, q, hq⟩ := t
  exact hq _ _ (.ref p) _ (q p (hr.dom e)) (hr.put (Kp.fresh e) ro) (.ref p) (.putn e)
/-- a change at a place that the store tells -/
theorem tP.chg {a : Addr} {o o' : AObj} {x : AV} (t : tP K (fun h Q => h a = some o ∧ Q x (aup h a o')) H Q) {u : HO} (k : Kp K a H (upd H a u)) (ro : RO K (upd H a u) a o') {y : V} (r : RV K (upd H a u) x y) : Q y (upd H a u) := by
  obtain ⟨h, Qa, hr, ⟨e, q⟩, hq⟩ := t
  exact hq _ _ y _ q (hr.put k ro) r (.puto k e)
end
/-- an operator by values -/
def XOp (X : Cx) (f : Value → Value → Sem Value) (r : AV → AV → P1) : Prop := OpR X f fun v u H Q => ∃ x y, RV X.K H x v ∧ RV X.K H y u ∧ tP X.K (r x y) H Q
def XUn (X : Cx) (f : Value → Sem Value) (r : AV → P1) : Prop := UnR X f fun v H Q => ∃ x, RV X.K H x v ∧ tP X.K (r x) H Q
def XCall (X : Cx) (f : Value) (r : List AV → P1) : Prop := CallR X f fun vs H Q => ∃ xs, RVs X.K H xs vs ∧ tP X.K (r xs) H Q
def wBin (r : AV → AV → P1) (wa wb : M AV) : M AV := wa.bind fun x => wb.bind fun y => M.prim (r x y)
def wUn (r : AV → P1) (wa : M AV) : M AV := wa.bind fun x => M.prim (r x)
def wBlt (r : List AV → P1) (wa : M (List AV)) : M AV := wa.bind fun x => M.prim (r x)
section
variable {X : Cx} {W : WX} {a b c : Expr} {wa wb wc : M AV} {pos : Pos}
theorem bin_r {r : AV → AV → P1} {σ : L2.St} {H : Hp} {Q : VK} (t : tE X.K W (wBin r wa wb) σ H Q) :
    tE X.K W wa σ H fun v H1 => tE X.K W wb σ H1 fun u H2 => ∃ x y, RV X.K H2 x v ∧ RV X.K H2 y u ∧ tP X.K (r x y) H2 Q :=
  tG.bind t fun x v H1 r1 _ t1 => tG.bind t1 fun y u H2 r2 k2 t2 => ⟨x, y, r1.keep k2, r2, t2.prim⟩
theorem xe_op {op : Operator} {r : AV → AV → P1} (ho : XOp X (binaryOp op) r) (ha : XE X W a wa) (hb : XE X W b wb) : XE X W (.BinOp a op b pos) (wBin r wa wb) :=
  PE.imp (pe_op ho ha hb) fun σ H Q t => bin_r t
theorem xe_cmp {op : CmpOp} {r : AV → AV → P1} (ho : XOp X (compareOp op) r) (ha : XE X W a wa) (hb : XE X W b wb) (hm : behindInMarks op b = false) : XE X W (.Compare a [op] [b] pos) (wBin r wa wb) :=
  PE.imp (pe_cmpR ho ha hb hm) fun σ H Q t => bin_r t
theorem xe_un {op : UnaryOp} {r : AV → P1} (ho : XUn X (unaryOp op) r) (ha : XE X W a wa) : XE X W (.UnaryOp op a pos) (wUn r wa) :=
  PE.imp (pe_un ho ha) fun σ H Q t => tG.bind t fun x v H1 r1 _ t1 => ⟨x, r1, t1.prim⟩
theorem xe_int {i j} : XE X W (.Constant (.int i) j pos) (M.ret (.int i)) := PE.imp pe_int fun σ H Q t => t.ret (.int i)
theorem xe_bl {i j} : XE X W (.Constant (.bool i) j pos) (M.ret (.bl i)) := PE.imp pe_bl fun σ H Q t => t.ret (.bl i)
theorem xe_non {j} : XE X W (.Constant .none j pos) (M.ret .non) := PE.imp pe_non fun σ H Q t => t.ret .non
theorem xe_str {i j} : XE X W (.Constant (.str i) j pos) (M.ret (.str i)) := PE.imp pe_str fun σ H Q t => t.ret (.str i)
/-- a slot -/
def wVar (i : Nat) : M AV := fun σ h Q _ => ∃ x, σ[i]? = some (some x) ∧ Q x h
theorem xe_var {i : Nat} {x : Str} (h : PE X (.Name x pos) (tVar i)) : XE X W (.Name x pos) (wVar i) := PE.imp h fun σ H Q t => by
  obtain ⟨σa, h, Qa, Ea, ab, ⟨x, e, q⟩, hq, _⟩ := t
  obtain ⟨v, e', r⟩ := ab.env.2 i x e
  exact ⟨v, e', hq x h v H q ab.hp r .refl⟩
theorem xv (i : Nat) {x : Str} (hN : X.N[i]? = some x := by rfl) (hv : Vis X.env.scope x := by first | exact Or.inl rfl | exact Or.inr (Or.inl rfl) | exact Or.inr (Or.inr rfl)) (hd : (x == ("__debug__" : Str)) = false := by decide)
    (hcd : (x == ("__classdict__" : Str)) = false := by decide) : XE X W (.Name x pos) (wVar i) := xe_var (pe_var hN hv hd hcd)
/-- a module's int -/
theorem xe_gint {x : Str} {i : Int} (hg : Gl X x) (hm : ∃ t, X.mg x = some (.int i t)) (hd : (x == ("__debug__" : Str)) = false := by decide) : XE X W (.Name x pos) (M.ret (.int i)) := by
  obtain ⟨t, e⟩ := hm
  exact PE.imp (pe_glob (v := .int i) hg e ⟨t, rfl⟩ hd) fun σ H Q t => t.ret (.int i)
theorem xe_gstr {x z : Str} (hg : Gl X x) (hm : ∃ t, X.mg x = some (.str z t)) (hd : (x == ("__debug__" : Str)) = false := by decide) : XE X W (.Name x pos) (M.ret (.str z)) := by
  obtain ⟨t, e⟩ := hm
  exact PE.imp (pe_glob (v := .str z) hg e ⟨t, rfl⟩ hd) fun σ H Q t => t.ret (.str z)
/-- a module's tree -/
theorem xe_gtree {x : Str} {y : AV} {p : Addr} (hg : Gl X x) (hm : X.mg x = some (.ref p)) (hr : ∀ H, RV X.K H y (.ref p)) (hd : (x == ("__debug__" : Str)) = false := by decide) : XE X W (.Name x pos) (M.ret y) :=
  PE.imp (pe_glob (v := .ref p) hg hm rfl hd) fun σ H Q t => t.ret (hr H)

/-! arguments -/
def wNil : M (List AV) := M.ret []
def wCons (w : M AV) (ws : M (List AV)) : M (List AV) := w.bind fun x => ws.bind fun xs => M.ret (x :: xs)
theorem xa_nil : XA X W [] wNil := PA.imp pa_nil fun σ H Q t => t.ret .nil
theorem xa_cons {es : List Expr} {ws : M (List AV)} (h : XE X W a wa) (hs : XA X W es ws) (he : starEach (a :: es) X.env = (false, eval a X.env) :: starEach es X.env := by rfl) : XA X W (a :: es) (wCons wa ws) :=
  PA.imp (pa_cons h hs he) fun σ H Q t => tG.bind t fun x v H1 r1 _ t1 => tG.bind t1 fun xs vs H2 r2 k2 t2 => t2.ret (.cons (r1.keep k2) r2)

/-! displays -/
def wTup (ws : M (List AV)) : M AV := ws.bind fun xs => fun _ h Q _ => xs.length ≤ sizeLine ∧ Q (.tup xs) h
def wLst (ws : M (List AV)) : M AV := ws.bind fun xs => fun _ h Q _ => xs.length ≤ sizeLine ∧ ∀ p, h p = none → Q (.ref p) (aup h p (.lst xs))
theorem tG.len {n : Nat} {w : M AV} {K : PySem.W.Frag} {σ : L2.St} {H : Hp} {Q : VK} (t : tE K W (fun σ h Q E => n ≤ sizeLine ∧ w σ h Q E) σ H Q) : n ≤ sizeLine ∧ tE K W w σ H Q := by
  obtain ⟨σa, h, Qa, Ea, ab, ⟨z, q⟩, hq⟩ := t
  exact ⟨z, σa, h, Qa, Ea, ab, q, hq⟩
end
end Lx

/-! Lx: operators, subscripts, slices, built-ins. -/
namespace Lx
open PySem PySem.Spec PyProof.Rows L2
variable [LawTb]
section
variable {X : Cx} {W : WX} {a b c : Expr} {wa wb wc : M AV} {es : List Expr} {ws : M (List AV)} {pos : Pos}
/-! displays -/
theorem xe_tup {x1} (h : XA X W es ws) : XE X W (.Tuple es x1 pos) (wTup ws) := PE.imp (pe_tup h) fun σ H Q t => tG.bind t fun xs vs H1 r1 _ t1 => by
  obtain ⟨z, t2⟩ := tG.len t1
  exact ⟨by rw [← r1.length]; exact z, fun p e => tG.under t2 e (.tup (SqT.of upd_same) (r1.keep (Kp.fresh (K := X.K) e).keep))⟩
theorem xe_lst (h : XA X W es ws) : XE X W (.List es pos) (wLst ws) := PE.imp (pe_lst h) fun σ H Q t => tG.bind t fun xs vs H1 r1 _ t1 => by
  obtain ⟨z, t2⟩ := tG.len t1
  exact ⟨by rw [← r1.length]; exact z, fun p e => tG.alloc t2 e ⟨vs, upd_same, r1.keep (Kp.fresh (K := X.K) e).keep⟩ (.ref p)⟩
/-! ints -/
def aInt (C : Int → Int → Prop) (f : Int → Int → AV) : AV → AV → P1
  | .int i, .int j => fun h Q => C i j ∧ Q (f i j) h
  | _, _ => fun _ _ => False
theorem xop_int {f : Value → Value → Sem Value} {C : Int → Int → Prop} {g : Int → Int → V} {ga : Int → Int → AV} (ho : OpR X f (rI C g)) (hg : ∀ i j K H, RV K H (ga i j) (g i j)) : XOp X f (aInt C ga) := by
  intro P s σ H v u vv uu Q I rv ru q
  obtain ⟨x, y, r1, r2, t⟩ := q
  cases r1 with
  | int i => cases r2 with
    | int j =>
      obtain ⟨c, t⟩ := t.if_
      exact ho P s σ H _ _ vv uu Q I rv ru ⟨i, j, rfl, rfl, c, t.val (hg i j _ _)⟩
    | _ => exact t.no.elim
  | _ => cases r2 <;> exact t.no.elim
theorem OpR.of0 {f : Value → Value → Sem Value} {g : Int → Int → V} (ho : OpR X f (rI0 g)) : OpR X f (rI (fun _ _ => True) g) := by
  intro P s σ H v u vv uu Q I rv ru q
  obtain ⟨i, j, e1, e2, _, q⟩ := q
  exact ho P s σ H _ _ vv uu Q I rv ru ⟨i, j, e1, e2, q⟩
abbrev aSub := aInt (fun _ _ => True) fun i j => .int (i - j)
theorem xo_sub : XOp X (binaryOp .Sub) aSub := xop_int (OpR.of0 op_sub) fun _ _ _ _ => .int _
abbrev aMod := aInt (fun _ j => 0 < j) fun i j => .int (i % j)
theorem xo_mod : XOp X (binaryOp .Mod) aMod := xop_int op_mod fun _ _ _ _ => .int _
abbrev aDiv := aInt CDivW fun i j => .int (i / j)
theorem xo_div : XOp X (binaryOp .FloorDiv) aDiv := xop_int op_fdivW fun _ _ _ _ => .int _
abbrev aPow := aInt CPow fun i j => .int (i ^ j.toNat)
theorem xo_pow : XOp X (binaryOp .Pow) aPow := xop_int op_pow fun _ _ _ _ => .int _
abbrev aLt := aInt (fun _ _ => True) fun i j => .bl (decide (i < j))
abbrev aLe := aInt (fun _ _ => True) fun i j => .bl (decide (i ≤ j))
abbrev aGt := aInt (fun _ _ => True) fun i j => .bl (decide (j < i))
abbrev aGe := aInt (fun _ _ => True) fun i j => .bl (decide (j ≤ i))
theorem xo_lt : XOp X (compareOp .Lt) aLt := xop_int (OpR.of0 op_lt) fun _ _ _ _ => .bl _
theorem xo_le : XOp X (compareOp .LtE) aLe := xop_int (OpR.of0 op_le) fun _ _ _ _ => .bl _
theorem xo_gt : XOp X (compareOp .Gt) aGt := xop_int (OpR.of0 op_gt) fun _ _ _ _ => .bl _
theorem xo_ge : XOp X (compareOp .GtE) aGe := xop_int (OpR.of0 op_ge) fun _ _ _ _ => .bl _
def aNeg : AV → P1
  | .int i => fun h Q => Q (.int (-i)) h
  | _ => fun _ _ => False
theorem xu_neg : XUn X (unaryOp .USub) aNeg := by
  intro P s σ H v vv Q I rv q
  obtain ⟨x, r1, t⟩ := q
  cases r1 with
  | int i => exact un_neg P s σ H _ vv Q I rv ⟨i, rfl, t.val (.int _)⟩
  | _ => exact t.no.elim
/-! + -/
def aAdd : AV → AV → P1
  | .int i, .int j => fun h Q => Q (.int (i + j)) h
  | .str s, .str z => fun h Q => s.length + z.length ≤ sizeLine ∧ Q (.str (s ++ z)) h
  | .tup xs, .tup ys => fun h Q => xs.length + ys.length ≤ sizeLine ∧ Q (.tup (xs ++ ys)) h
  | .ref a, .ref b => fun h Q => ∃ xs, h a = some (.lst xs) ∧ ∃ ys, h b = some (.lst ys) ∧ xs.length + ys.length ≤ sizeLine ∧ ∀ p, h p = none → Q (.ref p) (aup h p (.lst (xs ++ ys)))
  | _, _ => fun _ _ => False
theorem xo_add : XOp X (binaryOp .Add) aAdd := by
  intro P s σ H v u vv uu Q I rv ru q
  obtain ⟨x, y, r1, r2, t⟩ := q
  cases r1 with
  | int i => cases r2 with
    | int j => exact op_add P s σ H _ _ vv uu Q I rv ru ⟨i, j, rfl, rfl, t.val (.int _)⟩
    | _ => exact t.no.elim
  | str i => cases r2 with
    | str j =>
      obtain ⟨c, t⟩ := t.if_
      exact op_add_str P s σ H _ _ vv uu Q I rv ru ⟨i, j, rfl, rfl, c, t.val (.str _)⟩
    | _ => exact t.no.elim
  | @tup a xs vs hs1 rs1 => cases r2 with
    | @tup b ys us hs2 rs2 =>
      obtain ⟨c, t⟩ := t.if_
      have l1 := rs1.length
      have l2 := rs2.length
      refine op_catA P s σ H _ _ vv uu Q I rv ru ⟨a, b, vs, us, rfl, rfl, hs1, hs2, by omega, fun e => ?_, fun e1 e2 => ?_, fun e1 e2 p ep => ?_⟩
      · subst e
        cases rs1
        exact t.val (.tup hs2 rs2)
      · subst e2
        cases rs2
        rw [List.append_nil] at t
        exact t.val (.tup hs1 rs1)
      · exact t.under ep (.tup (SqT.of upd_same) ((rs1.append rs2).keep (Kp.fresh (K := X.K) ep).keep))
    | _ => exact t.no.elim
  | ref a => cases r2 with
    | ref b =>
      obtain ⟨xs, t⟩ := t.ex
      obtain ⟨⟨vs, e1, rs1⟩, t⟩ := t.at
      obtain ⟨ys, t⟩ := t.ex
      obtain ⟨⟨us, e2, rs2⟩, t⟩ := t.at
      obtain ⟨c, t⟩ := t.if_
      have l1 := rs1.length
      have l2 := rs2.length
      exact op_cat P s σ H _ _ vv uu Q I rv ru ⟨a, b, vs, us, rfl, rfl, e1, e2, by omega, fun p ep => t.alloc ep ⟨_, upd_same, (rs1.append rs2).keep (Kp.fresh (K := X.K) ep).keep⟩⟩
    | _ => exact t.no.elim
  | _ => cases r2 <;> exact t.no.elim
/-! * -/
def aMul : AV → AV → P1
  | .int i, .int j => fun h Q => CMulW i j ∧ Q (.int (i * j)) h
  | .ref a, .int k => fun h Q => ∃ xs, h a = some (.lst xs) ∧ (-(2 ^ 63) ≤ k ∧ k < 2 ^ 63 ∧ xs.length * k.toNat ≤ sizeLine) ∧ ∀ p, h p = none → Q (.ref p) (aup h p (.lst (List.replicate k.toNat xs).flatten))
  | _, _ => fun _ _ => False
end
end Lx

/-! Lx: == and in, subscripts, slices, built-ins, tests. -/
namespace Lx
open PySem PySem.Spec PyProof.Rows L2
variable [LawTb]
mutual
/-- data, lists looked up -/
inductive AD (h : AH) : AV → PyData → Prop
  | non : AD h .non .none
  | bl (b : Bool) : AD h (.bl b) (.bool b)
  | int (i : Int) : AD h (.int i) (.int i)
  | str (s : Str) : AD h (.str s) (.str s)
  | tup {xs : List AV} {ds : List PyData} : ADs h xs ds → AD h (.tup xs) (.tuple ds)
  | rol {xs : List AV} {ds : List PyData} : ADs h xs ds → AD h (.rol xs) (.list ds)
  | lst {a : Addr} {xs : List AV} {ds : List PyData} : h a = some (.lst xs) → ADs h xs ds → AD h (.ref a) (.list ds)
inductive ADs (h : AH) : List AV → List PyData → Prop
  | nil : ADs h [] []
  | cons {x : AV} {xs : List AV} {d : PyData} {ds : List PyData} : AD h x d → ADs h xs ds → ADs h (x :: xs) (d :: ds)
end
section
variable {K : PySem.W.Frag} {H : Hp} {h : AH}
mutual
theorem AD.dp (hr : HR K H h) : ∀ {x : AV} {d : PyData} {v : V}, AD h x d → RV K H x v → Dp K H v d
  | _, _, _, .non, .non => .non
  | _, _, _, .bl b, .bl _ => .bl b
  | _, _, _, .int b, .int _ => .int b
  | _, _, _, .str b, .str _ => .str b
  | _, _, _, .tup q, .tup s r => .tup s (ADs.dp hr q r)
  | _, _, _, .rol q, .rol s r => .lst s.l (ADs.dp hr q r)
  | _, _, _, .lst e q, z => by
    obtain ⟨_, e', r⟩ := hr.st _ _ e
    cases z
    exact .lst (SqL.of e') (ADs.dp hr q r)
theorem ADs.dp (hr : HR K H h) : ∀ {xs : List AV} {ds : List PyData} {vs : List V}, ADs h xs ds → RVs K H xs vs → DpAll K H vs ds
  | _, _, _, .nil, .nil => .nil
  | _, _, _, .cons q qs, .cons r rs => .cons (AD.dp hr q r) (ADs.dp hr qs rs)
end
end
def aEq (lim : Nat) (x y : AV) : P1 := fun h Q => ∃ d e, AD h x d ∧ AD h y e ∧ d.canLay0 = true ∧ e.canLay0 = true ∧ min d.depth e.depth ≤ lim ∧ Q (.bl (PyData.eqv d e)) h
def aNe (lim : Nat) (x y : AV) : P1 := fun h Q => ∃ d e, AD h x d ∧ AD h y e ∧ d.canLay0 = true ∧ e.canLay0 = true ∧ min d.depth e.depth ≤ lim ∧ Q (.bl (!PyData.eqv d e)) h
def flatA : AV → Bool
  | .non | .bl _ | .int _ | .str _ => true
  | _ => false
def eqA : AV → AV → Bool
  | .non, .non => true
  | .bl a, .bl b => a == b
  | .bl a, .int b => (if a then 1 else 0) == b
  | .int a, .bl b => a == (if b then 1 else 0)
  | .int a, .int b => a == b
  | .str a, .str b => a == b
  | _, _ => false
theorem flatA_v {K : PySem.W.Frag} {H : Hp} {x : AV} {v : V} (r : RV K H x v) (f : flatA x = true) : flatV v = true := by
  cases r <;> first | rfl | cases f
theorem flatA_vs {K : PySem.W.Frag} {H : Hp} : ∀ {xs : List AV} {vs : List V}, RVs K H xs vs → xs.all flatA = true → vs.all flatV = true
  | _, _, .nil, _ => rfl
  | _, _, .cons r t, f => by
    rw [List.all_cons, Bool.and_eq_true] at f ⊢
    exact ⟨flatA_v r f.1, flatA_vs t f.2⟩
theorem eqA_v {K : PySem.W.Frag} {H : Hp} {x y : AV} {v u : V} (r : RV K H x v) (q : RV K H y u) (f : flatA x = true) (g : flatA y = true) : eqV v u = eqA x y := by
  cases r <;> first | (simp [flatA] at f; done) | (cases q <;> first | rfl | (simp [flatA] at g; done))
theorem inA_v {K : PySem.W.Frag} {H : Hp} {x : AV} {v : V} (r : RV K H x v) (f : flatA x = true) : ∀ {xs : List AV} {vs : List V}, RVs K H xs vs → xs.all flatA = true → inV v vs = xs.any fun y => eqA y x
  | _, _, .nil, _ => rfl
  | _, _, .cons p t, g => by
    rw [List.all_cons, Bool.and_eq_true] at g
    have ih := inA_v r f t g.2
    unfold inV at ih ⊢
    rw [List.any_cons, List.any_cons, ih, eqA_v p r g.1 f]
/-- the items that a value walks: a tuple, a list -/
def seqA (h : AH) : AV → Option (List AV)
  | .tup xs => some xs
  | .rol xs => some xs
  | .ref a => match h a with
    | some (.lst xs) => some xs
    | _ => none
  | _ => none
theorem seqA_v {K : PySem.W.Frag} {H : Hp} {h : AH} {x : AV} {v : V} {xs : List AV} (hr : HR K H h) (r : RV K H x v) (e : seqA h x = some xs) : ∃ p vs, v = .ref p ∧ (SqL K H p vs ∨ SqT K H p vs) ∧ RVs K H xs vs := by
  cases r with
  | tup s rs => cases e; exact ⟨_, _, rfl, .inr s, rs⟩
  | rol s rs => cases e; exact ⟨_, _, rfl, .inl s.l, rs⟩
  | ref a =>
    dsimp only [seqA] at e
    cases q : h a with
    | none => rw [q] at e; cases e
    | some o =>
      rw [q] at e
      cases o with
      | lst ys => cases e; obtain ⟨vs, e1, rs⟩ := hr.st _ _ q; exact ⟨_, _, rfl, .inl (SqL.of e1), rs⟩
      | _ => cases e
  | _ => cases e
def keyA : AV → Option Key
  | .int i => some (.inl i)
  | .str s => some (.inr s)
  | _ => none
theorem keyA_v {K : PySem.W.Frag} {H : Hp} {x : AV} {v : V} {k : Key} (r : RV K H x v) (e : keyA x = some k) : v = kV k := by
  cases r <;> cases e <;> rfl
def getA {κ : Type} [DecidableEq κ] (kvs : List (κ × AV)) (k : κ) : Option AV := (kvs.find? fun kv => decide (kv.1 = k)).map (·.2)
def putA {κ : Type} [DecidableEq κ] (kvs : List (κ × AV)) (k : κ) (v : AV) : List (κ × AV) :=
  if (kvs.any fun kv => decide (kv.1 = k)) = true then kvs.map (fun kv => if kv.1 = k then (kv.1, v) else kv) else kvs ++ [(k, v)]
section
variable {κ : Type} [DecidableEq κ] {K : PySem.W.Frag} {H : Hp}
theorem getA_v {k : κ} : ∀ {kvs : List (κ × AV)} {ws : List (κ × V)}, RKs K H kvs ws → (∀ x, getA kvs k = some x → ∃ v, valV ws k = some v ∧ RV K H x v) ∧ (getA kvs k = none → valV ws k = none)
  | _, _, .nil => ⟨fun _ e => (by cases e), fun _ => rfl⟩
  | _, _, @RKs.cons _ _ _ k' x v xs vs p t => by
    have ih := getA_v (k := k) t
    by_cases e : k' = k
    · have e1 : getA ((k', x) :: xs) k = some x := by simp [getA, List.find?_cons, e]
      have e2 : valV ((k', v) :: vs) k = some v := valV_pos e
      rw [e1, e2]
      exact ⟨fun y q => (by cases q; exact ⟨v, rfl, p⟩), fun q => (by cases q)⟩
    · have e1 : getA ((k', x) :: xs) k = getA xs k := by simp [getA, List.find?_cons, e]
      have e2 : valV ((k', v) :: vs) k = valV vs k := valV_neg e
      rw [e1, e2]
      exact ih
theorem any_v {k : κ} : ∀ {kvs : List (κ × AV)} {ws : List (κ × V)}, RKs K H kvs ws → (kvs.any fun kv => decide (kv.1 = k)) = ws.any fun kv => decide (kv.1 = k)
  | _, _, .nil => rfl
  | _, _, .cons p t => by rw [List.any_cons, List.any_cons, any_v t]
theorem map_v {k : κ} {x : AV} {v : V} (r : RV K H x v) : ∀ {kvs : List (κ × AV)} {ws : List (κ × V)}, RKs K H kvs ws →
    RKs K H (kvs.map fun kv => if kv.1 = k then (kv.1, x) else kv) (ws.map fun kv => if kv.1 = k then (kv.1, v) else kv)
  | _, _, .nil => .nil
  | _, _, @RKs.cons _ _ _ k' y u xs vs p t => by
    rw [List.map_cons, List.map_cons]
    by_cases e : k' = k
    · simp only [e, if_true]
      exact .cons r (map_v r t)
    · simp only [e, if_false]
      exact .cons p (map_v r t)
theorem RKs.snoc {k : κ} {x : AV} {v : V} (r : RV K H x v) : ∀ {kvs : List (κ × AV)} {ws : List (κ × V)}, RKs K H kvs ws → RKs K H (kvs ++ [(k, x)]) (ws ++ [(k, v)])
  | _, _, .nil => .cons r .nil
  | _, _, .cons p t => .cons p (RKs.snoc r t)
theorem putA_v {k : κ} {x : AV} {v : V} (r : RV K H x v) {kvs : List (κ × AV)} {ws : List (κ × V)} (t : RKs K H kvs ws) : RKs K H (putA kvs k x) (putK ws k v) := by
  unfold putA putK
  rw [any_v t]
  split
  · exact map_v r t
  · exact RKs.snoc r t
end
/-- in: a sequence of flat items, a dict, a sign in a text -/
def aIn (neg : Bool) (x y : AV) : P1 := fun h Q =>
  (∃ xs, seqA h y = some xs ∧ flatA x = true ∧ xs.all flatA = true ∧ Q (.bl (if neg then !(xs.any fun z => eqA z x) else xs.any fun z => eqA z x)) h) ∨
  (∃ a kvs k, y = .ref a ∧ h a = some (.dic kvs) ∧ keyA x = some k ∧ Q (.bl (if neg then !(getA kvs k).isSome else (getA kvs k).isSome)) h) ∨
  ∃ c z, x = .str ⟨#[c]⟩ ∧ y = .str z ∧ Q (.bl (if neg then !decide (c ∈ z.cps.toList) else decide (c ∈ z.cps.toList))) h
section
variable {X : Cx} {W : WX} {a b c : Expr} {wa wb wc : M AV} {es : List Expr} {ws : M (List AV)} {pos : Pos}
theorem xo_mul : XOp X (binaryOp .Mult) aMul := by
  intro P s σ H v u vv uu Q I rv ru q
  obtain ⟨x, y, r1, r2, t⟩ := q
  cases r1 with
  | int i => cases r2 with
    | int j =>
      obtain ⟨c, t⟩ := t.if_
      exact op_mulW P s σ H _ _ vv uu Q I rv ru ⟨i, j, rfl, rfl, c, t.val (.int _)⟩
    | _ => exact t.no.elim
  | ref a => cases r2 with
    | int k =>
      obtain ⟨xs, t⟩ := t.ex
      obtain ⟨⟨vs, e1, rs1⟩, t⟩ := t.at
      obtain ⟨⟨c1, c2, c3⟩, t⟩ := t.if_
      have l1 := rs1.length
      refine op_rep P s σ H _ _ vv uu Q I rv ru ⟨a, k, vs, rfl, rfl, e1, c1, c2, by rw [← l1]; exact c3, fun p ep => t.alloc ep ⟨_, upd_same, ?_⟩⟩
      refine RVs.keep (Kp.fresh (K := X.K) ep).keep ?_
      have go : ∀ n : Nat, RVs X.K H (List.replicate n xs).flatten (List.replicate n vs).flatten := fun n => by
        induction n with
        | zero => exact .nil
        | succ n ih => rw [List.replicate_succ, List.replicate_succ, List.flatten_cons, List.flatten_cons]; exact rs1.append ih
      exact go _
    | _ => exact t.no.elim
  | _ => cases r2 <;> exact t.no.elim
theorem xo_eq {lim : Nat} (hl : X.A.units + lim < cLine) : XOp X (compareOp .Eq) (aEq lim) := by
  intro P s σ H v u vv uu Q I rv ru q
  obtain ⟨x, y, r1, r2, h, Qa, hr, ⟨d, e, h1, h2, h3, h4, h5, q⟩, hq⟩ := q
  obtain ⟨as, p1⟩ := Dp.reads I d v vv (h1.dp hr r1) rv
  obtain ⟨bs, p2⟩ := Dp.reads I e u uu (h2.dp hr r2) ru
  exact SeqAt.compareEq_reads p1 p2 h3 h4 (by omega) ⟨.bl _, H, I, rfl, hq _ _ (.bl _) H q hr (.bl _) .refl⟩
theorem xo_ne {lim : Nat} (hl : X.A.units + lim < cLine) : XOp X (compareOp .NotEq) (aNe lim) := by
  intro P s σ H v u vv uu Q I rv ru q
  obtain ⟨x, y, r1, r2, h, Qa, hr, ⟨d, e, h1, h2, h3, h4, h5, q⟩, hq⟩ := q
  obtain ⟨as, p1⟩ := Dp.reads I d v vv (h1.dp hr r1) rv
  obtain ⟨bs, p2⟩ := Dp.reads I e u uu (h2.dp hr r2) ru
  exact SeqAt.compareNe_reads p1 p2 h3 h4 (by omega) ⟨.bl _, H, I, rfl, hq _ _ (.bl _) H q hr (.bl _) .refl⟩
theorem dget_of {h : AH} {H : Hp} {K : PySem.W.Frag} {x : AV} {v : V} {p : Addr} {kvs : List (Key × AV)} {k : Key} (hr : HR K H h) (e : h p = some (.dic kvs)) (ek : keyA x = some k) (r : RV K H x v) :
    ∃ ws, H p = some (.dK ws) ∧ RKs K H kvs ws ∧ v = kV k ∧ DGet H p v (valV ws k) := by
  obtain ⟨ws, e1, rk⟩ := hr.st _ _ e
  have ev := keyA_v r ek
  exact ⟨ws, e1, rk, ev, ev ▸ DGet.k e1⟩
theorem get_some {K : PySem.W.Frag} {H : Hp} {kvs : List (Key × AV)} {ws : List (Key × V)} {k : Key} (rk : RKs K H kvs ws) : (valV ws k).isSome = (getA kvs k).isSome := by
  cases q : getA kvs k with
  | none => rw [(getA_v rk).2 q]; rfl
  | some y => obtain ⟨v, e, _⟩ := (getA_v rk).1 y q; rw [e]; rfl
theorem xo_in (hu : X.A.units + 1 < cLine) : XOp X (compareOp .In) (aIn false) := by
  intro P s σ H v u vv uu Q I rv ru q
  obtain ⟨x, y, r1, r2, h, Qa, hr, q, hq⟩ := q
  rcases q with ⟨xs, e, f1, f2, q⟩ | ⟨p, kvs, k, e1, e2, e3, q⟩ | ⟨c, z, e1, e2, q⟩
  · obtain ⟨p, vs, rfl, sq, rs⟩ := seqA_v hr r2 e
    refine op_in_seq P s σ H _ _ vv uu Q I rv ru ⟨p, vs, rfl, sq, flatA_v r1 f1, flatA_vs rs f2, ?_⟩
    rw [inA_v r1 f1 rs f2]
    exact hq _ _ (.bl _) H q hr (.bl _) .refl
  · subst e1
    cases r2
    obtain ⟨ws, w1, rk, ev, g⟩ := dget_of hr e2 e3 r1
    cases ru
    refine d_in hu I g rv fun s1 I1 => ⟨.bl _, H, I1, rfl, ?_⟩
    rw [get_some rk]
    exact hq _ _ (.bl _) H q hr (.bl _) .refl
  · subst e1 e2
    cases r1
    cases r2
    exact op_in_sign P s σ H _ _ vv uu Q I rv ru ⟨c, z, rfl, rfl, hq _ _ (.bl _) H q hr (.bl _) .refl⟩
theorem xo_nin (hu : X.A.units + 1 < cLine) : XOp X (compareOp .NotIn) (aIn true) := by
  intro P s σ H v u vv uu Q I rv ru q
  obtain ⟨x, y, r1, r2, h, Qa, hr, q, hq⟩ := q
  rcases q with ⟨xs, e, f1, f2, q⟩ | ⟨p, kvs, k, e1, e2, e3, q⟩ | ⟨c, z, e1, e2, q⟩
  · obtain ⟨p, vs, rfl, sq, rs⟩ := seqA_v hr r2 e
    refine op_notIn_seq P s σ H _ _ vv uu Q I rv ru ⟨p, vs, rfl, sq, flatA_v r1 f1, flatA_vs rs f2, ?_⟩
    rw [inA_v r1 f1 rs f2]
    exact hq _ _ (.bl _) H q hr (.bl _) .refl
  · subst e1
    cases r2
    obtain ⟨ws, w1, rk, ev, g⟩ := dget_of hr e2 e3 r1
    cases ru
    refine d_notIn hu I g rv fun s1 I1 => ⟨.bl _, H, I1, rfl, ?_⟩
    rw [get_some rk]
    exact hq _ _ (.bl _) H q hr (.bl _) .refl
  · subst e1 e2
    cases r1
    cases r2
    exact op_notIn_sign P s σ H _ _ vv uu Q I rv ru ⟨c, z, rfl, rfl, hq _ _ (.bl _) H q hr (.bl _) .refl⟩
/-! is None -/
def isNonA : AV → Bool
  | .non => true
  | _ => false
theorem isNon_v {K : PySem.W.Frag} {H : Hp} {x : AV} {v : V} (r : RV K H x v) : decide (v = .non) = isNonA x := by cases r <;> rfl
def aIs (neg : Bool) (x y : AV) : P1 := fun h Q => y = .non ∧ Q (.bl (if neg then !isNonA x else isNonA x)) h
theorem xo_is : XOp X (compareOp .Is) (aIs false) := by
  intro P s σ H v u vv uu Q I rv ru q
  obtain ⟨x, y, r1, r2, t⟩ := q
  obtain ⟨rfl, t2⟩ := tP.if_ (w := fun h Q => Q (.bl (isNonA x)) h) t
  cases r2
  refine op_isN P s σ H _ _ vv uu Q I rv ru ⟨rfl, ?_⟩
  rw [isNon_v r1]
  exact t2.val (.bl _)
theorem xo_isn : XOp X (compareOp .IsNot) (aIs true) := by
  intro P s σ H v u vv uu Q I rv ru q
  obtain ⟨x, y, r1, r2, t⟩ := q
  obtain ⟨rfl, t2⟩ := tP.if_ (w := fun h Q => Q (.bl (!isNonA x)) h) t
  cases r2
  refine op_notN P s σ H _ _ vv uu Q I rv ru ⟨rfl, ?_⟩
  rw [isNon_v r1]
  exact t2.val (.bl _)
end
end Lx

/-! Lx: subscripts, slices, built-ins, tests. -/
namespace Lx
open PySem PySem.Spec PyProof.Rows L2
variable [LawTb]
theorem atI_v {K : PySem.W.Frag} {H : Hp} {xs : List AV} {vs : List V} {i : Int} {z : AV} (r : RVs K H xs vs) (e : atI xs i = some z) : ∃ v, atI vs i = some v ∧ RV K H z v := by
  unfold atI at e ⊢
  rw [← r.length]
  cases q : ixN xs.length i with
  | none => rw [q] at e; cases e
  | some j => rw [q] at e; exact r.get (i := j) e
def aIx (x y : AV) : P1 := fun h Q =>
  (∃ xs i z, seqA h x = some xs ∧ y = .int i ∧ atI xs i = some z ∧ Q z h) ∨
  (∃ s i c, x = .str s ∧ y = .int i ∧ s.length ≤ sizeLine ∧ atI s.cps.toList i = some c ∧ Q (.str ⟨#[c]⟩) h) ∨
  ∃ a kvs k z, x = .ref a ∧ h a = some (.dic kvs) ∧ keyA y = some k ∧ getA kvs k = some z ∧ Q z h
/-- from a to b, within a sequence of that length -/
def cutA (xs : List AV) (lo hi : Option Int) : List AV := (xs.drop (HT.sIx xs.length 0 lo)).take (HT.sIx xs.length xs.length hi - HT.sIx xs.length 0 lo)
theorem cutA_v {K : PySem.W.Frag} {H : Hp} {xs : List AV} {vs : List V} (r : RVs K H xs vs) (lo hi : Option Int) : RVs K H (cutA xs lo hi) (cutV vs lo hi) := by
  unfold cutA cutV
  rw [r.length]
  exact (r.drop _).take _
section
variable {X : Cx} {W : WX} {a b c : Expr} {wa wb wc : M AV} {es : List Expr} {ws : M (List AV)} {pos : Pos}
theorem ix_dict (hu : X.A.units + 1 < cLine) : IxR X (fun x y H Q => ∃ p v, x = .ref p ∧ DGet H p y (some v) ∧ Q v H) := by
  intro value slice P s σ H x y v u Q I rx ry q hs
  obtain ⟨p, z, rfl, g, q⟩ := q
  cases rx
  exact tail_any (dict_typeIs I g) PySem.F.slot_dict_getitem.lookup (d_getItem hu I g ry fun w1 s1 I1 r1 => ⟨z, H, I1, r1, q⟩) hs
theorem xe_ix (hu : X.A.units + 1 < cLine) (ha : XE X W a wa) (hb : XE X W b wb) (hs : PlainIx b) : XE X W (.Subscript a b pos) (wBin aIx wa wb) :=
  PE.imp (pe_ix (ix_seq.or (ix_dict hu)) ha hb hs) fun σ H Q t => by
    refine tG.mono (bin_r t) (fun _ _ _ _ q => q) fun v H1 q => ?_
    refine tG.mono q (fun _ _ _ _ q => q) fun u H2 q => ?_
    obtain ⟨x, y, r1, r2, h, Qa, hr, q5, hq⟩ := q
    rcases q5 with ⟨xs, i, z, e, rfl, e2, q6⟩ | ⟨z, i, c, rfl, rfl, e1, e2, q6⟩ | ⟨p, kvs, k, z, rfl, e1, e2, e3, q6⟩
    · obtain ⟨p, vs, rfl, sq, rs⟩ := seqA_v hr r1 e
      obtain ⟨w, ew, rw'⟩ := atI_v rs e2
      cases r2
      refine .inl ?_
      rcases sq with sq | sq
      · exact .inl ⟨p, vs, i, w, rfl, rfl, sq, ew, hq _ _ w H2 q6 hr rw' .refl⟩
      · exact .inr (.inl ⟨p, vs, i, w, rfl, rfl, sq, ew, hq _ _ w H2 q6 hr rw' .refl⟩)
    · cases r1
      cases r2
      exact .inl (.inr (.inr ⟨z, i, c, rfl, rfl, e1, e2, hq _ _ _ H2 q6 hr (.str _) .refl⟩))
    · cases r1
      obtain ⟨ws, w1, rk, ev, g⟩ := dget_of hr e1 e2 r2
      obtain ⟨w, ew, rw'⟩ := (getA_v rk).1 z e3
      rw [ew] at g
      exact .inr ⟨p, w, rfl, g, hq _ _ w H2 q6 hr rw' .refl⟩
/-! slices -/
def wNoPart : M (Option Int) := M.ret none
def wPart (w : M AV) : M (Option Int) := w.bind fun x => fun _ h Q _ => ∃ i, x = .int i ∧ Q (some i) h
abbrev XO (X : Cx) (W : WX) (e : Option Expr) (w : M (Option Int)) : Prop := PO X e (tG X.K W (fun _ a b => a = b) w)
theorem PO.imp {e : Option Expr} {t t' : TO} (h : PO X e t) (i : ∀ σ H Q, t' σ H Q → t σ H Q) : PO X e t' := ⟨fun P s σ H Q I q => h.run P s σ H Q I (i _ _ _ q)⟩
theorem xo_none : XO X W none wNoPart := PO.imp po_none fun σ H Q t => t.ret rfl
theorem xo_some (h : XE X W a wa) : XO X W (some a) (wPart wa) := PO.imp (po_some h) fun σ H Q t => tG.bind t fun x v H1 r1 _ t1 => by
  obtain ⟨σa, h, Qa, Ea, ab, ⟨i, rfl, q⟩, hq, _⟩ := t1
  cases r1
  exact ⟨i, rfl, hq _ _ _ H1 q ab.hp rfl .refl⟩
def aSl (x : AV) (lo hi : Option Int) : P1 := fun h Q => match x with
  | .tup xs => Q (.tup (cutA xs lo hi)) h
  | .rol xs => ∀ p, h p = none → Q (.ref p) (aup h p (.lst (cutA xs lo hi)))
  | .ref a => ∃ xs, h a = some (.lst xs) ∧ ∀ p, h p = none → Q (.ref p) (aup h p (.lst (cutA xs lo hi)))
  | _ => False
def wSl (wa : M AV) (wl wh : M (Option Int)) : M AV := wa.bind fun x => wl.bind fun lo => wh.bind fun hi => M.prim (aSl x lo hi)
theorem cut_whole {α : Type} (xs : List α) {lo hi : Option Int} (e : HT.sIx xs.length 0 lo = 0 ∧ HT.sIx xs.length xs.length hi = xs.length) : (xs.drop (HT.sIx xs.length 0 lo)).take (HT.sIx xs.length xs.length hi - HT.sIx xs.length 0 lo) = xs := by
  rw [e.1, e.2]
  simp
theorem xe_sl {lo hi : Option Expr} {wl wh : M (Option Int)} {p2 : Pos} (ha : XE X W a wa) (hl : XO X W lo wl) (hh : XO X W hi wh) : XE X W (.Subscript a (.Slice lo hi none p2) pos) (wSl wa wl wh) :=
  PE.imp (pe_slice (sl_list.or sl_tupA) ha hl hh) fun σ H Q t => tG.bind t fun x v H1 r1 _ t1 => tG.bind t1 fun lo lo' H2 e2 k2 t2 => tG.bind t2 fun hi hi' H3 e3 k3 t3 => by
    subst e2 e3
    have r := (r1.keep k2).keep k3
    have t := t3.prim
    cases r with
    | @tup p xs vs hs rs =>
      have z := rs.length
      refine .inr ⟨p, vs, rfl, hs, fun e => ?_, fun _ q eq => ?_⟩
      · rw [← z] at e
        have w : cutA xs lo hi = xs := cut_whole xs e
        have t : tP X.K (fun h Q => Q (.tup (cutA xs lo hi)) h) H3 Q := t
        rw [w] at t
        exact t.val (.tup hs rs)
      · have t : tP X.K (fun h Q => Q (.tup (cutA xs lo hi)) h) H3 Q := t
        exact t.under eq (.tup (SqT.of upd_same) ((cutA_v rs lo hi).keep (Kp.fresh (K := X.K) eq).keep))
    | @rol p xs vs hs rs =>
      refine .inl ⟨p, vs, rfl, hs.l, fun q eq => ?_⟩
      have t : tP X.K (fun h Q => ∀ p, h p = none → Q (.ref p) (aup h p (.lst (cutA xs lo hi)))) H3 Q := t
      exact t.alloc eq ⟨_, upd_same, (cutA_v rs lo hi).keep (Kp.fresh (K := X.K) eq).keep⟩
    | ref p =>
      have t : tP X.K (fun h Q => ∃ xs, h p = some (.lst xs) ∧ ∀ p, h p = none → Q (.ref p) (aup h p (.lst (cutA xs lo hi)))) H3 Q := t
      obtain ⟨xs, t⟩ := t.ex
      obtain ⟨⟨vs, e1, rs⟩, t⟩ := t.at
      exact .inl ⟨p, vs, rfl, SqL.of e1, fun q eq => t.alloc eq ⟨_, upd_same, (cutA_v rs lo hi).keep (Kp.fresh (K := X.K) eq).keep⟩⟩
    | _ => exact t.no.elim
/-! built-ins by name -/
theorem xe_blt {id : String} {x : Str} {r : List AV → P1} {p : Pos} (hc : XCall X (.builtin id) r) (hg : Gl X x) (hm : X.mg x = none) (hv : bootBuiltins x = some (.builtin id)) (ha : XA X W (a :: es) ws) (hn : x ≠ "__name__" := by decide) (hdb : (x == ("__debug__" : Str)) = false := by decide)
    (he : starEach (a :: es) X.env = (false, eval a X.env) :: starEach es X.env := by rfl) (hpl : (backTo pos (starEach es X.env)).any (·.1) = false := by rfl) : XE X W (.Call (.Name x p) (a :: es) [] pos) (wBlt r ws) :=
  PE.imp (pe_callB hc hg hm hv ha hn hdb he hpl) fun σ H Q t => tG.bind t fun xs vs H1 r1 _ t1 => ⟨xs, r1, t1.prim⟩
theorem xe_ty {T : String} {x : Str} {r : List AV → P1} {p : Pos} (hc : XCall X (.type T) r) (hg : Gl X x) (hm : X.mg x = none) (hv : bootBuiltins x = some (.type T)) (ha : XA X W (a :: es) ws) (hn : x ≠ "__name__" := by decide) (hdb : (x == ("__debug__" : Str)) = false := by decide)
    (he : starEach (a :: es) X.env = (false, eval a X.env) :: starEach es X.env := by rfl) (hpl : (backTo pos (starEach es X.env)).any (·.1) = false := by rfl) : XE X W (.Call (.Name x p) (a :: es) [] pos) (wBlt r ws) :=
  PE.imp (pe_callTy hc hg hm hv ha hn hdb he hpl) fun σ H Q t => tG.bind t fun xs vs H1 r1 _ t1 => ⟨xs, r1, t1.prim⟩
def lenA (h : AH) : AV → Option Nat
  | .str s => if s.length ≤ sizeLine then some s.length else none
  | .ref a => match h a with
    | some (.lst xs) => some xs.length
    | some (.dic kvs) => some kvs.length
    | _ => none
  | .tup xs => some xs.length
  | .rol xs => some xs.length
  | _ => none
def aLen : List AV → P1
  | [x] => fun h Q => ∃ n, lenA h x = some n ∧ Q (.int n) h
  | _ => fun _ _ => False
theorem xc_len : XCall X (.builtin "len") aLen := by
  intro P s σ H vs us Q I rv q
  obtain ⟨xs, rs, h, Qa, hr, q, hq⟩ := q
  cases rs with
  | nil => exact q.elim
  | cons r rs => cases rs with
    | cons _ _ => exact q.elim
    | nil =>
      obtain ⟨n, e, q⟩ := q
      have fin := hq _ _ (.int n) H q hr (.int _) .refl
      have seq := (call_len (X := X) P s σ H _ us Q I rv)
      cases r with
      | str z =>
        have e : (if z.length ≤ sizeLine then some z.length else none) = some n := e
        split at e
        · cases e; exact seq ⟨_, _, rfl, ⟨by assumption, rfl⟩, fin⟩
        · cases e
      | tup s rs => cases e; exact seq ⟨_, _, rfl, .inr ⟨_, s, rs.length⟩, fin⟩
      | rol s rs => cases e; exact seq ⟨_, _, rfl, .inl ⟨_, s.l, rs.length⟩, fin⟩
      | ref p =>
        dsimp only [lenA] at e
        cases w : h p with
        | none => rw [w] at e; cases e
        | some o =>
          rw [w] at e
          cases o with
          | lst ys => cases e; obtain ⟨vs, e1, rs⟩ := hr.st _ _ w; exact seq ⟨_, _, rfl, .inl ⟨_, SqL.of e1, rs.length⟩, fin⟩
          | dic kvs =>
            cases e
            obtain ⟨ws, e1, rk⟩ := hr.st _ _ w
            exact call_lenD P s σ H _ us Q I rv ⟨p, ws, rfl, e1, by rw [← rk.length]; exact fin⟩
          | _ => cases e
      | _ => cases e
def aTuple : List AV → P1
  | [x] => fun h Q => ∃ xs, seqA h x = some xs ∧ Q (.tup xs) h
  | _ => fun _ _ => False
def aList : List AV → P1
  | [x] => fun h Q => ∃ xs, seqA h x = some xs ∧ ∀ p, h p = none → Q (.ref p) (aup h p (.lst xs))
  | _ => fun _ _ => False
theorem xc_tuple : XCall X (.type "tuple") aTuple := by
  intro P s σ H vs us Q I rv q
  obtain ⟨xs, rs, h, Qa, hr, q, hq⟩ := q
  cases rs with
  | nil => exact q.elim
  | cons r rs => cases rs with
    | cons _ _ => exact q.elim
    | nil =>
      obtain ⟨ys, e, q⟩ := q
      have t : tP X.K (fun h Q => Q (.tup ys) h) H Q := ⟨h, Qa, hr, q, hq⟩
      obtain ⟨p, ws, rfl, sq, rs⟩ := seqA_v hr r e
      refine call_tuple_of P s σ H _ us Q I rv ⟨p, ws, rfl, ?_⟩
      rcases sq with sq | sq
      · exact .inl ⟨sq, fun l el => t.under el (.tup (SqT.of upd_same) (rs.keep (Kp.fresh (K := X.K) el).keep))⟩
      · exact .inr ⟨sq, t.val (.tup sq rs)⟩
theorem xc_list : XCall X (.type "list") aList := by
  intro P s σ H vs us Q I rv q
  obtain ⟨xs, rs, h, Qa, hr, q, hq⟩ := q
  cases rs with
  | nil => exact q.elim
  | cons r rs => cases rs with
    | cons _ _ => exact q.elim
    | nil =>
      obtain ⟨ys, e, q⟩ := q
      have t : tP X.K (fun h Q => ∀ p, h p = none → Q (.ref p) (aup h p (.lst ys))) H Q := ⟨h, Qa, hr, q, hq⟩
      obtain ⟨p, ws, rfl, sq, rs⟩ := seqA_v hr r e
      exact call_list_of P s σ H _ us Q I rv ⟨p, ws, rfl, sq, fun l el => t.alloc el ⟨_, upd_same, rs.keep (Kp.fresh (K := X.K) el).keep⟩⟩
def aAbs : List AV → P1
  | [.int i] => fun h Q => Q (.int (if i < 0 then -i else i)) h
  | _ => fun _ _ => False
theorem xc_abs : XCall X (.builtin "abs") aAbs := by
  intro P s σ H vs us Q I rv q
  obtain ⟨xs, rs, t⟩ := q
  cases rs with
  | nil => exact t.no.elim
  | cons r rs => cases rs with
    | nil => cases r with
      | int i => exact call_abs P s σ H _ us Q I rv ⟨i, rfl, t.val (.int _)⟩
      | _ => exact t.no.elim
    | cons r2 rs => cases r <;> exact t.no.elim
def aToInt : List AV → P1
  | [.int i] => fun h Q => Q (.int i) h
  | [.bl b] => fun h Q => Q (.int (if b then 1 else 0)) h
  | _ => fun _ _ => False
theorem xc_int : XCall X (.type "int") aToInt := by
  intro P s σ H vs us Q I rv q
  obtain ⟨xs, rs, t⟩ := q
  cases rs with
  | nil => exact t.no.elim
  | cons r rs => cases rs with
    | nil => cases r with
      | int i => exact call_int1 P s σ H _ us Q I rv (.inl ⟨i, rfl, t.val (.int _)⟩)
      | bl i => exact call_int1 P s σ H _ us Q I rv (.inr ⟨i, rfl, t.val (.int _)⟩)
      | _ => exact t.no.elim
    | cons r2 rs => cases r <;> exact t.no.elim
/-! tests -/
def truA (h : AH) : AV → Option Bool
  | .non => some false
  | .bl b => some b
  | .int i => some (i != 0)
  | .str s => if s.length ≤ sizeLine then some ((s.length : Int) != 0) else none
  | .tup xs => some (!xs.isEmpty)
  | .rol xs => some (!xs.isEmpty)
  | .ref a => match h a with
    | some (.lst xs) => some (!xs.isEmpty)
    | some (.dic kvs) => some (!kvs.isEmpty)
    | _ => none
theorem isE_v {K : PySem.W.Frag} {H : Hp} {xs : List AV} {vs : List V} (r : RVs K H xs vs) : (!xs.isEmpty) = !vs.isEmpty := by cases r <;> rfl
theorem isE_k {κ : Type} {K : PySem.W.Frag} {H : Hp} {xs : List (κ × AV)} {vs : List (κ × V)} (r : RKs K H xs vs) : (!xs.isEmpty) = !vs.isEmpty := by cases r <;> rfl
theorem truA_v {K : PySem.W.Frag} {H : Hp} {h : AH} {x : AV} {v : V} {k : Bool} (hr : HR K H h) (r : RV K H x v) (e : truA h x = some k) : TruV K v H k := by
  cases r with
  | non => cases e; rfl
  | bl b => cases e; rfl
  | int b => cases e; rfl
  | str z =>
    have e : (if z.length ≤ sizeLine then some ((z.length : Int) != 0) else none) = some k := e
    split at e
    · cases e; exact ⟨by assumption, rfl⟩
    · cases e
  | tup s rs => cases e; exact .inr (.inl ⟨_, s, isE_v rs⟩)
  | rol s rs => cases e; exact .inl ⟨_, s.l, isE_v rs⟩
  | ref p =>
    dsimp only [truA] at e
    cases w : h p with
    | none => rw [w] at e; cases e
    | some o =>
      rw [w] at e
      cases o with
      | lst ys => cases e; obtain ⟨vs, e1, rs⟩ := hr.st _ _ w; exact .inl ⟨_, SqL.of e1, isE_v rs⟩
      | dic kvs => cases e; obtain ⟨ws, e1, rk⟩ := hr.st _ _ w; exact .inr (.inr ⟨_, e1, isE_k rk⟩)
      | _ => cases e
def wTru (w : M AV) : M Bool := w.bind fun x => fun _ h Q _ => ∃ k, truA h x = some k ∧ Q k h
/-- any expression's truth -/
theorem xt_tru (ha : XE X W a wa) (he : ∀ whole, isTrue a X.env whole = (do let v ← whole; standAt a.pos; holding [v] (truthy v)) := by intro _; rfl) : XT X W a (wTru wa) :=
  PT.imp (pt_truth ha he) fun σ H Q t => tG.bind t fun x v H1 r1 _ t1 => by
    obtain ⟨σa, h, Qa, Ea, ab, ⟨k, e, q⟩, hq, _⟩ := t1
    exact ⟨k, truA_v ab.hp r1 e, hq _ _ _ H1 q ab.hp rfl .refl⟩
/-- a comparison as a test -/
def wBt (r : AV → AV → P1) (wa wb : M AV) : M Bool := (wBin r wa wb).bind fun x => fun _ h Q _ => ∃ k, x = .bl k ∧ Q k h
theorem xt_cmp {op : CmpOp} {r : AV → AV → P1} (ho : XOp X (compareOp op) r) (ha : XE X W a wa) (hb : XE X W b wb) (hm : behindInMarks op b = false) : XT X W (.Compare a [op] [b] pos) (wBt r wa wb) :=
  PT.imp (pt_cmpR ho ha hb hm) fun σ H Q t => by
    have t2 : tE X.K W (wBin r wa wb) σ H (fun v H1 => ∃ k, v = .bl k ∧ Q k H1) := tG.bind t fun x v H1 r1 _ t1 => by
      obtain ⟨σa, h, Qa, Ea, ab, ⟨k, e, q⟩, hq, _⟩ := t1
      subst e
      cases r1
      exact ⟨k, rfl, hq _ _ _ H1 q ab.hp rfl .refl⟩
    exact bin_r t2
def wAnd (w u : M Bool) : M Bool := w.bind fun c => if c = true then u else M.ret false
def wOr (w u : M Bool) : M Bool := w.bind fun c => if c = true then M.ret true else u
def wNot (w : M Bool) : M Bool := w.bind fun c => M.ret (!c)
abbrev XW (X : Cx) (W : WX) (e : Expr) (w : M Bool) : Prop := PW X e (tT X.K W w)
theorem PW.imp {e : Expr} {t t' : TT} (h : PW X e t) (i : ∀ σ H Q, t' σ H Q → t σ H Q) : PW X e t' := ⟨fun whole P s σ H Q I q => h.run whole P s σ H Q I (i _ _ _ q)⟩
variable {ta tb : M Bool} {rest : List Expr}
theorem xw_and1 (ha : XT X W a ta) : XW X W (.BoolOp .And [a] pos) ta := pw_and1 ha
theorem xw_or1 (ha : XT X W a ta) : XW X W (.BoolOp .Or [a] pos) ta := pw_or1 ha
theorem xw_and (ha : XT X W a ta) (hb : XW X W (.BoolOp .And (b :: rest) pos) tb) : XW X W (.BoolOp .And (a :: b :: rest) pos) (wAnd ta tb) :=
  PW.imp (pw_and ha hb) fun σ H Q t => tG.bind t fun x v H1 r1 _ t1 => by
    subst r1
    cases x with
    | true => exact t1
    | false => exact t1.ret rfl
theorem xw_or (ha : XT X W a ta) (hb : XW X W (.BoolOp .Or (b :: rest) pos) tb) : XW X W (.BoolOp .Or (a :: b :: rest) pos) (wOr ta tb) :=
  PW.imp (pw_or ha hb) fun σ H Q t => tG.bind t fun x v H1 r1 _ t1 => by
    subst r1
    cases x with
    | true => exact t1.ret rfl
    | false => exact t1
theorem xt_not (ha : XT X W a ta) : XT X W (.UnaryOp .Not a pos) (wNot ta) := PT.imp (pt_not ha) fun σ H Q t => tG.bind t fun x v H1 r1 _ t1 => by
  subst r1
  exact t1.ret rfl
def wIf (c : M Bool) (u v : M AV) : M AV := c.bind fun b => if b = true then u else v
theorem xe_if {c : Expr} {tc : M Bool} (hc : XT X W c tc) (ha : XE X W a wa) (hb : XE X W b wb) : XE X W (.IfExp c a b pos) (wIf tc wa wb) := PE.imp (pe_ifExp hc ha hb) fun σ H Q t => tG.bind t fun x v H1 r1 _ t1 => by
  subst r1
  cases x with
  | true => exact t1
  | false => exact t1
/-! a chain of two comparisons -/
def wChn (r r' : AV → AV → P1) (wa wb wc : M AV) : M Bool := wa.bind fun x => wb.bind fun y => (M.prim (r x y)).bind fun z => fun σ h Q E => ∃ k, z = .bl k ∧ if k = true then (wc.bind fun w => (M.prim (r' y w)).bind fun z => fun _ h Q _ => ∃ k, z = .bl k ∧ Q k h) σ h Q E else Q false h
theorem tP.q {K : PySem.W.Frag} {H : Hp} {w : P1} {Q Q' : VK} (t : tP K w H Q) (f : ∀ v H, Q v H → Q' v H) : tP K w H Q' := by
  obtain ⟨h, Qa, hr, q, hq⟩ := t
  exact ⟨h, Qa, hr, q, fun x h1 y H1 a b c d => f _ _ (hq x h1 y H1 a b c d)⟩
end
end Lx

/-! Lx: statements. -/
namespace Lx
open PySem PySem.Spec PyProof.Rows L2
variable [LawTb]
structure AEnds where
  nx : AEnv → AH → Prop
  rt : AV → AH → Prop
  bk : AEnv → AH → Prop := fun _ _ => False
  ct : AEnv → AH → Prop := fun _ _ => False
  ex : AX → AEnv → AH → Prop
abbrev WS := AEnv → AH → AEnds → Prop
/-- what the abstract ends are worth -/
structure LEn (K : PySem.W.Frag) (W : WX) (h : AH) (H : Hp) (Da : AEnds) (D : Ends) : Prop where
  nx : ∀ σa h1 σ H1, Da.nx σa h1 → Ab K σ H1 σa h1 → Fr h H h1 H1 → D.nx σ H1
  rt : ∀ x h1 v H1, Da.rt x h1 → HR K H1 h1 → RV K H1 x v → Fr h H h1 H1 → D.rt v H1
  bk : ∀ σa h1 σ H1, Da.bk σa h1 → Ab K σ H1 σa h1 → Fr h H h1 H1 → D.bk σ H1
  ct : ∀ σa h1 σ H1, Da.ct σa h1 → Ab K σ H1 σa h1 → Fr h H h1 H1 → D.ct σ H1
  ex : ∀ x σa h1 c d σ H1, Da.ex x σa h1 → Ab K σ H1 σa h1 → RX K H1 x c d → Fr h H h1 H1 → W c d σ H1
def tS (K : PySem.W.Frag) (W : WX) (w : WS) : TS := fun D σ H => ∃ σa h Da, Ab K σ H σa h ∧ w σa h Da ∧ LEn K W h H Da D
section
variable {K : PySem.W.Frag} {W : WX} {h h1 : AH} {H H1 : Hp} {Da : AEnds} {D : Ends} {σ : L2.St}
theorem LEn.after (l : LEn K W h H Da D) (f : Fr h H h1 H1) : LEn K W h1 H1 Da D :=
  ⟨fun a b c d q r s => l.nx a b c d q r (f.trans s), fun a b c d q r s t => l.rt a b c d q r s (f.trans t), fun a b c d q r s => l.bk a b c d q r (f.trans s), fun a b c d q r s => l.ct a b c d q r (f.trans s),
    fun x a b c d e g q r s t => l.ex x a b c d e g q r s (f.trans t)⟩
/-- a value, then a statement's reading -/
def sBind {α : Type} (w : M α) (f : α → WS) : WS := fun σ h D => w σ h (fun x h1 => f x σ h1 D) (fun x h1 => D.ex x σ h1)
theorem tS.bind {α β : Type} {R : Hp → α → β → Prop} {w : M α} {f : α → WS} {T : β → Hp → Prop} (t : tS K W (sBind w f) D σ H)
    (step : ∀ x y H1, R H1 x y → Keep K H H1 → tS K W (f x) D σ H1 → T y H1) : tG K W R w σ H T := by
  obtain ⟨σa, h, Da, ab, hw, l⟩ := t
  refine ⟨σa, h, _, _, ab, hw, fun x h1 y H1 q r1 rr fr => ?_, fun x h1 c d H1 q r1 rx fr => ?_⟩
  · have k := fr.keep ab.hp
    exact step x y H1 rr k ⟨σa, h1, Da, ⟨ab.env.keep k, r1⟩, q, l.after fr⟩
  · exact l.ex x σa h1 c d σ H1 q ⟨ab.env.keep (fr.keep ab.hp), r1⟩ rx fr
def sNext : WS := fun σ h D => D.nx σ h
theorem tS.next (t : tS K W sNext D σ H) : D.nx σ H := by
  obtain ⟨σa, h, Da, ab, hw, l⟩ := t
  exact l.nx _ _ _ _ hw ab .refl
def sSeq (w u : WS) : WS := fun σ h D => w σ h { D with nx := fun σ1 h1 => u σ1 h1 D }
theorem tS.seq {w u : WS} (t : tS K W (sSeq w u) D σ H) : tS K W w { D with nx := tS K W u D } σ H := by
  obtain ⟨σa, h, Da, ab, hw, l⟩ := t
  exact ⟨σa, h, _, ab, hw, ⟨fun a b c d q r s => ⟨a, b, Da, r, q, l.after s⟩, l.rt, l.bk, l.ct, l.ex⟩⟩
end
abbrev XS (X : Cx) (W : WX) (st : Stmt) (w : WS) : Prop := PS X st (tS X.K W w)
abbrev XSs (X : Cx) (W : WX) (st : List Stmt) (w : WS) : Prop := PSs X st (tS X.K W w)
section
variable {X : Cx} {W : WX} {st : Stmt} {rest : List Stmt} {w u : WS} {e : Expr} {we : M AV} {pos : Pos}
theorem xss_nil : XSs X W [] sNext := PSs.imp pss_nil fun D σ H t => t.next
theorem xss_cons (a : XS X W st w) (b : XSs X W rest u) : XSs X W (st :: rest) (sSeq w u) := PSs.imp (pss_cons a b) fun D σ H t => t.seq
theorem xss_one (a : XS X W st w) : XSs X W [st] w := pss_one a
def sBrk : WS := fun σ h D => D.bk σ h
def sCnt : WS := fun σ h D => D.ct σ h
theorem xs_pass : XS X W (.Pass pos) sNext := PS.imp ps_pass fun D σ H t => t.next
theorem xs_brk : XS X W (.Break pos) sBrk := PS.imp ps_break fun D σ H t => by
  obtain ⟨σa, h, Da, ab, hw, l⟩ := t
  exact l.bk _ _ _ _ hw ab .refl
theorem xs_cnt : XS X W (.Continue pos) sCnt := PS.imp ps_continue fun D σ H t => by
  obtain ⟨σa, h, Da, ab, hw, l⟩ := t
  exact l.ct _ _ _ _ hw ab .refl
def sExpr (w : M AV) : WS := sBind w fun _ => sNext
theorem xs_expr (he : XE X W e we) (hs : swapsWith e none pos.line X.env = pure false := by rfl) : XS X W (.Expr e pos) (sExpr we) := PS.imp (ps_expr he hs) fun D σ H t => t.bind fun x v H1 r1 _ t1 => t1.next
def sRet (w : M AV) : WS := sBind w fun x => fun σ h D => D.rt x h
theorem xs_ret (he : XE X W e we) : XS X W (.Return (some e) pos) (sRet we) := PS.imp (ps_ret he) fun D σ H t => t.bind fun x v H1 r1 _ t1 => by
  obtain ⟨σa, h, Da, ab, hw, l⟩ := t1
  exact l.rt _ _ _ _ hw ab.hp r1 .refl
def sRetN : WS := fun σ h D => D.rt .non h
theorem xs_retN : XS X W (.Return none pos) sRetN := PS.imp ps_retN fun D σ H t => by
  obtain ⟨σa, h, Da, ab, hw, l⟩ := t
  exact l.rt _ _ _ _ hw ab.hp .non .refl
def sIf (c : M Bool) (w u : WS) : WS := sBind c fun b => if b = true then w else u
theorem xs_if {c : Expr} {a b : List Stmt} {tc : M Bool} (hc : XT X W c tc) (ha : XSs X W a w) (hb : XSs X W b u) : XS X W (.If c a b pos) (sIf tc w u) := PS.imp (ps_if hc ha hb) fun D σ H t => t.bind fun x v H1 r1 _ t1 => by
  subst r1
  cases x with
  | true => exact t1
  | false => exact t1
/-! targets -/
abbrev WG := AV → AEnv → AH → (AEnv → AH → Prop) → (AX → AEnv → AH → Prop) → Prop
abbrev WGs := List AV → AEnv → AH → (AEnv → AH → Prop) → (AX → AEnv → AH → Prop) → Prop
/-- all slots but these stay -/
def Sl (vs : List Nat) (σ σ1 : L2.St) : Prop := σ1.length = σ.length ∧ ∀ i, i ∉ vs → σ1[i]? = σ[i]?
theorem Sl.refl {vs : List Nat} {σ : L2.St} : Sl vs σ σ := ⟨rfl, fun _ _ => rfl⟩
theorem Sl.trans {vs ws : List Nat} {σ σ1 σ2 : L2.St} (a : Sl vs σ σ1) (b : Sl ws σ1 σ2) : Sl (vs ++ ws) σ σ2 :=
  ⟨b.1.trans a.1, fun i hi => (b.2 i fun z => hi (List.mem_append_right _ z)).trans (a.2 i fun z => hi (List.mem_append_left _ z))⟩
def tGt (K : PySem.W.Frag) (W : WX) (vs : List Nat) (g : WG) : TG := fun v σ H Q => ∃ x σa h Qa Ea, RV K H x v ∧ Ab K σ H σa h ∧ g x σa h Qa Ea ∧
  (∀ σa1 h1 σ1 H1, Qa σa1 h1 → Ab K σ1 H1 σa1 h1 → Fr h H h1 H1 → Sl vs σ σ1 → Q σ1 H1) ∧ ∀ y σa1 h1 c d σ1 H1, Ea y σa1 h1 → Ab K σ1 H1 σa1 h1 → RX K H1 y c d → Fr h H h1 H1 → W c d σ1 H1
def tGts (K : PySem.W.Frag) (W : WX) (vs : List Nat) (g : WGs) : TGs := fun ys σ H Q => ∃ xs σa h Qa Ea, RVs K H xs ys ∧ Ab K σ H σa h ∧ g xs σa h Qa Ea ∧
  (∀ σa1 h1 σ1 H1, Qa σa1 h1 → Ab K σ1 H1 σa1 h1 → Fr h H h1 H1 → Sl vs σ σ1 → Q σ1 H1) ∧ ∀ y σa1 h1 c d σ1 H1, Ea y σa1 h1 → Ab K σ1 H1 σa1 h1 → RX K H1 y c d → Fr h H h1 H1 → W c d σ1 H1
abbrev XG (X : Cx) (W : WX) (vs : List Nat) (tg : Expr) (g : WG) : Prop := PG X tg (tGt X.K W vs g)
abbrev XGs (X : Cx) (W : WX) (vs : List Nat) (tg : List Expr) (g : WGs) : Prop := PGs X tg (tGts X.K W vs g)
theorem PG.imp {e : Expr} {t t' : TG} (h : PG X e t) (i : ∀ v σ H Q, t' v σ H Q → t v σ H Q) : PG X e t' := ⟨fun P s σ H v u Q I r q => h.run P s σ H v u Q I r (i _ _ _ _ q)⟩
theorem PGs.imp {e : List Expr} {t t' : TGs} (h : PGs X e t) (i : ∀ v σ H Q, t' v σ H Q → t v σ H Q) : PGs X e t' := ⟨fun P s σ H v u Q I r q => h.run P s σ H v u Q I r (i _ _ _ _ q)⟩
theorem RS.set {K : PySem.W.Frag} {H : Hp} {σa : AEnv} {σ : L2.St} (r : RS K H σa σ) (i : Nat) {x : AV} {v : V} (q : RV K H x v) : RS K H (σa.set i (some x)) (σ.set i (some v)) := by
  refine ⟨by rw [List.length_set, List.length_set]; exact r.1, fun j y e => ?_⟩
  by_cases z : i = j
  · subst z
    by_cases l : i < σa.length
    · rw [List.getElem?_set_self l] at e
      cases e
      exact ⟨v, List.getElem?_set_self (by rw [← r.1]; exact l), q⟩
    · rw [List.getElem?_eq_none (by rw [List.length_set]; omega)] at e
      cases e
  · rw [List.getElem?_set_ne z] at e ⊢
    exact r.2 j y e
def aName (i : Nat) : WG := fun x σ h Q _ => Q (σ.set i (some x)) h
theorem xg_name {i : Nat} {x : Str} (hN : X.N.Nodup) (hi : X.N[i]? = some x) (hx : Loc X.env.scope x) (hf : X.fn x = true ∨ X.env.scope.names.lookup x = some .local := by first | exact .inl rfl | exact .inr rfl | assumption) : XG X W [i] (.Name x pos) (aName i) :=
  PG.imp (pg_name hN hi hx hf) fun v σ H Q t => by
    obtain ⟨x, σa, h, Qa, Ea, r, ab, q, hq, _⟩ := t
    exact hq _ _ _ _ q ⟨ab.env.set i r, ab.hp⟩ .refl ⟨List.length_set, fun j hj => List.getElem?_set_ne fun z => hj (by simp [z])⟩
def aGnil : WGs := fun xs σ h Q _ => xs = [] ∧ Q σ h
def aGcons (g : WG) (gs : WGs) : WGs := fun xs σ h Q E => ∃ x r, xs = x :: r ∧ g x σ h (fun σ1 h1 => gs r σ1 h1 Q E) E
theorem xgs_nil : XGs X W [] [] aGnil := PGs.imp pgs_nil fun v σ H Q t => by
  obtain ⟨xs, σa, h, Qa, Ea, r, ab, ⟨rfl, q⟩, hq, _⟩ := t
  cases r
  exact ⟨rfl, hq _ _ _ _ q ab .refl .refl⟩
theorem xgs_cons {vs ws : List Nat} {es : List Expr} {g : WG} {gs : WGs} (a : XG X W vs e g) (b : XGs X W ws es gs) (hs : (assignEach (e :: es) X.env).map (·.2) = assign e X.env :: (assignEach es X.env).map (·.2) := by rfl) : XGs X W (vs ++ ws) (e :: es) (aGcons g gs) :=
  PGs.imp (pgs_cons a b hs) fun v σ H Q t => by
    obtain ⟨xs, σa, h, Qa, Ea, r, ab, ⟨x, ys, rfl, q⟩, hq, he⟩ := t
    cases r with
    | cons r rs =>
      refine ⟨_, _, rfl, x, σa, h, _, Ea, r, ab, q, fun σa1 h1 σ1 H1 q1 ab1 fr sl => ?_, he⟩
      exact ⟨ys, σa1, h1, Qa, Ea, rs.keep (fr.keep ab.hp), ab1, q1, fun a b c d x y z w => hq a b c d x y (fr.trans z) (sl.trans w), fun y a b c d e f x1 x2 x3 x4 => he y a b c d e f x1 x2 x3 (fr.trans x4)⟩
def aGtup (n : Nat) (gs : WGs) : WG := fun x σ h Q E => ∃ xs, x = .tup xs ∧ xs.length = n ∧ gs xs σ h Q E
theorem xg_tup {vs : List Nat} {es : List Expr} {k : Nat} {gs : WGs} {n : Nat} (hc : X.calm = true) (a : XGs X W vs es gs) (hn : (assignEach es X.env).length = n := by rfl) (hst : (assignEach es X.env).findIdx? (·.1) = none := by rfl) : XG X W vs (.Tuple es k pos) (aGtup n gs) :=
  PG.imp (pg_tup hc a hn hst) fun v σ H Q t => by
    obtain ⟨x, σa, h, Qa, Ea, r, ab, ⟨xs, rfl, hl, q⟩, hq, he⟩ := t
    cases r with
    | tup s rs => exact ⟨_, _, rfl, s, by rw [← rs.length]; exact hl, xs, σa, h, Qa, Ea, rs, ab, q, hq, he⟩
/-! assignments -/
def sAsg (w : M AV) (g : WG) : WS := sBind w fun x => fun σ h D => g x σ h D.nx D.ex
theorem tS.tgt {K : PySem.W.Frag} {W : WX} {D : Ends} {σ : L2.St} {H : Hp} {x : AV} {v : V} {g : WG} (t : tS K W (fun σ h D => g x σ h D.nx D.ex) D σ H) (r : RV K H x v) {vs : List Nat} : tGt K W vs g v σ H D.nx := by
  obtain ⟨σa, h, Da, ab, hw, l⟩ := t
  exact ⟨x, σa, h, _, _, r, ab, hw, fun a b c d e f g _ => l.nx a b c d e f g, fun y a b c d e f q ab rx fr => l.ex y a b c d e f q ab rx fr⟩
theorem xs_asg {vs : List Nat} {tg : Expr} {g : WG} (he : XE X W e we) (hg : XG X W vs tg g) (hs : swapsWithSole [tg] e pos.line X.env = pure false := by rfl) (hw : swappedStores [tg] e X.env = pure none := by rfl)
    (h1 : (assignEach [tg] X.env).map (·.2) = [assign tg X.env] := by rfl) : XS X W (.Assign [tg] e pos) (sAsg we g) :=
  PS.imp (ps_asg he hg hs hw h1) fun D σ H t => t.bind fun x v H1 r1 _ t1 => t1.tgt r1
theorem xs_set {i : Nat} {x : Str} {pos' : Pos} (hN : X.N.Nodup) (hi : X.N[i]? = some x) (hx : Loc X.env.scope x) (he : XE X W e we) (hs : swapsWith e (some (.Name x pos')) pos.line X.env = pure false := by rfl)
    (hf : X.fn x = true ∨ X.env.scope.names.lookup x = some .local := by first | exact .inl rfl | exact .inr rfl | assumption) : XS X W (.Assign [.Name x pos'] e pos) (sAsg we (aName i)) :=
  PS.imp (L2.ps_set hN hi hx he hs hf) fun D σ H t => t.bind fun x v H1 r1 _ t1 => by
    obtain ⟨σa, h, Da, ab, hw, l⟩ := t1
    exact l.nx _ _ _ _ hw ⟨ab.env.set i r1, ab.hp⟩ .refl
/-- a, b = x, y -/
def sPar (i j : Nat) (w : M (List AV)) : WS := sBind w fun xs => fun σ h D => ∃ x y, xs = [x, y] ∧ D.nx ((σ.set i (some x)).set j (some y)) h
theorem xs_par {i j : Nat} {x y : Str} {a b : Expr} {ta : M (List AV)} {px py pt : Pos} {kt k2 pt2} (hc : X.calm = true) (hN : X.N.Nodup) (hi : X.N[i]? = some x) (hj : X.N[j]? = some y) (hij : i ≠ j)
    (hx : X.env.scope.names.lookup x = some .local) (hy : X.env.scope.names.lookup y = some .local) (ha : XA X W [a, b] ta)
    (hw : swappedStores [.Tuple [.Name x px, .Name y py] kt pt] (.Tuple [a, b] k2 pt2) X.env = pure (some [x, y]))
    (hs : swapsWithSole [.Tuple [.Name x px, .Name y py] kt pt] (.Tuple [a, b] k2 pt2) pos.line X.env = pure false := by rfl) : XS X W (.Assign [.Tuple [.Name x px, .Name y py] kt pt] (.Tuple [a, b] k2 pt2) pos) (sPar i j ta) :=
  PS.imp (ps_par hc hN hi hj hij hx hy ha hw hs) fun D σ H t => t.bind fun xs vs H1 r1 _ t1 => by
    obtain ⟨σa, h, Da, ab, ⟨x, y, rfl, q⟩, l⟩ := t1
    cases r1 with
    | cons p r1 => cases r1 with
      | cons p2 r1 =>
        cases r1
        exact ⟨_, _, rfl, l.nx _ _ _ _ q ⟨(ab.env.set i p).set j p2, ab.hp⟩ .refl⟩
/-- name op= e -/
def sAug (i : Nat) (r : AV → AV → P1) (w : M AV) : WS := fun σ h D => ∃ x, σ[i]? = some (some x) ∧ (sBind w fun y => sBind (M.prim (r x y)) fun z => fun σ h D => D.nx (σ.set i (some z)) h) σ h D
theorem xs_aug {i : Nat} {x : Str} {op : Operator} {r : AV → AV → P1} {pos' : Pos} (hN : X.N.Nodup) (hi : X.N[i]? = some x) (hx : Loc X.env.scope x) (he : XE X W e we) (ho : XOp X (inplaceOp op) r)
    (hf : X.fn x = true ∨ X.env.scope.names.lookup x = some .local := by first | exact .inl rfl | exact .inr rfl | assumption) : XS X W (.AugAssign (.Name x pos') op e pos) (sAug i r we) :=
  PS.imp (ps_aug hN hi hx he (ti := fun v u H Q => ∃ x y, RV X.K H x v ∧ RV X.K H y u ∧ tP X.K (r x y) H Q) (fun P s σ H v u vv uu Q I rv ru q => ho P s σ H v u vv uu Q I rv ru q) hf) fun D σ H t => by
    obtain ⟨σa, h, Da, ab, ⟨x, ex, q⟩, l⟩ := t
    obtain ⟨v, ev, rx⟩ := ab.env.2 i x ex
    refine ⟨v, ev, ?_⟩
    have t2 : tS X.K W (sBind we fun y => sBind (M.prim (r x y)) fun z => fun σ h D => D.nx (σ.set i (some z)) h) D σ H := ⟨σa, h, Da, ab, q, l⟩
    refine t2.bind fun y u H1 ry k1 t3 => ⟨x, y, rx.keep k1, ry, ?_⟩
    obtain ⟨σb, h2, Db, ab2, q2, l2⟩ := t3
    refine ⟨h2, _, ab2.hp, q2, fun z h3 zv H3 q3 r3 rz fr => ?_⟩
    exact l2.nx _ _ _ _ q3 ⟨(ab2.env.keep (fr.keep ab2.hp)).set i rz, r3⟩ fr
end
end Lx

/-! Lx: loops, what they walk, list comprehensions. -/
namespace Lx
open PySem PySem.Spec PyProof.Rows L2
variable [LawTb]
/-- the items, and what must stand in the store at each turn -/
abbrev AIt := List AV × (AH → Prop)
def ItOk (K : PySem.W.Frag) (H1 : Hp) (p : AIt) (J : It) : Prop := ∀ H h, Keep K H1 H → HR K H h → p.2 h →
  (∀ (i : Nat) (x : AV), p.1[i]? = some x → J.go i H ∧ ∀ v H2, J.yld i H v H2 → RV K H2 x v ∧ HR K H2 h ∧ Fr h H h H2) ∧ ∀ i : Nat, p.1.length ≤ i → J.stop i H
abbrev XI (X : Cx) (W : WX) (tg iter : Expr) (wi : M AIt) : Prop := PI X tg iter (tG X.K W (ItOk X.K) wi)
theorem PI.imp {X : Cx} {tg e : Expr} {t t' : TI} (h : PI X tg e t) (i : ∀ σ H Q, t' σ H Q → t σ H Q) : PI X tg e t' := ⟨fun P s σ H Q I q => h.run P s σ H Q I (i _ _ _ q)⟩
section
variable {X : Cx} {W : WX} {tg iter e : Expr} {wi : M AIt} {g : WG} {w : WS} {we : M AV} {pos : Pos}
def sForGo (src : AH → Prop) (g : WG) (body : WS) : List AV → WS
  | [] => fun σ h D => src h ∧ D.nx σ h
  | x :: xs => fun σ h D => src h ∧ g x σ h (fun σ1 h1 => body σ1 h1 { D with nx := fun σ2 h2 => sForGo src g body xs σ2 h2 D, ct := fun σ2 h2 => sForGo src g body xs σ2 h2 D, bk := D.nx }) D.ex
def sFor (wi : M AIt) (g : WG) (body : WS) : WS := sBind wi fun p => sForGo p.2 g body p.1
theorem xs_for {vs : List Nat} {body : List Stmt} (hp : PassesOwn (model X.prog X.w) X.A X.env X.xe) (hc : X.calm = true) (hi : XI X W tg iter wi) (hg : XG X W vs tg g) (hb : XSs X W body w)
    (hs : ∀ x, foldedSetIterable iter X.env x = pure x := by intro _; rfl) : XS X W (.For tg iter body [] pos) (sFor wi g w) := PS.imp (ps_for hp hc hi hg hb hs) fun D σ H t => t.bind fun p J H1 ok _ t1 => by
  obtain ⟨σa, h, Da, ab, hw, l⟩ := t1
  refine ⟨fun i m σ2 H2 => i + m = p.1.length ∧ ∃ σa2 h2, Ab X.K σ2 H2 σa2 h2 ∧ Keep X.K H1 H2 ∧ sForGo p.2 g w (p.1.drop i) σa2 h2 Da ∧ LEn X.K W h2 H2 Da D,
    ⟨p.1.length, by omega, σa, h, ab, .refl, hw, l⟩, fun i m σ2 H2 q => ?_⟩
  obtain ⟨em, σa2, h2, ab2, k2, q, l2⟩ := q
  cases hd : p.1.drop i with
  | nil =>
    rw [hd] at q
    obtain ⟨hs, q⟩ := q
    have z := congrArg List.length hd
    rw [List.length_drop, List.length_nil] at z
    exact .inl ⟨(ok H2 h2 k2 ab2.hp hs).2 i (by omega), l2.nx _ _ _ _ q ab2 .refl⟩
  | cons x r =>
    rw [hd] at q
    obtain ⟨hs, q⟩ := q
    have z := congrArg List.length hd
    rw [List.length_drop, List.length_cons] at z
    have ex : p.1[i]? = some x := by
      have := List.getElem?_drop (xs := p.1) (i := i) (j := 0)
      rw [hd] at this
      simpa using this.symm
    have er : p.1.drop (i + 1) = r := by
      rw [← List.drop_drop, hd]
      rfl
    obtain ⟨go, yl⟩ := (ok H2 h2 k2 ab2.hp hs).1 i x ex
    refine .inr ⟨go, fun σ3 H3 => i + 1 + (m - 1) = p.1.length ∧ ∃ σa2 h2, Ab X.K σ3 H3 σa2 h2 ∧ Keep X.K H1 H3 ∧ sForGo p.2 g w (p.1.drop (i + 1)) σa2 h2 Da ∧ LEn X.K W h2 H3 Da D, fun σ3 H3 n => ⟨m - 1, by omega, n⟩, fun v H3 y => ?_⟩
    obtain ⟨rx, hr3, fr3⟩ := yl v H3 y
    have k3 := fr3.keep ab2.hp
    refine ⟨x, σa2, h2, _, _, rx, ⟨ab2.env.keep k3, hr3⟩, q, fun σa4 h4 σ4 H4 q4 ab4 fr4 _ => ?_, fun y σa4 h4 c d σ4 H4 q4 ab4 rx4 fr4 => l2.ex y _ _ _ _ _ _ q4 ab4 rx4 (fr3.trans fr4)⟩
    have l4 := (l2.after fr3).after fr4
    have k4 : Keep X.K H1 H4 := (k2.trans k3).trans (fr4.keep hr3)
    have turn : ∀ (σa5 : AEnv) (h5 : AH) (σ5 : L2.St) (H5 : Hp), sForGo p.2 g w r σa5 h5 Da → Ab X.K σ5 H5 σa5 h5 → Fr h4 H4 h5 H5 →
        i + 1 + (m - 1) = p.1.length ∧ ∃ σa2 h2, Ab X.K σ5 H5 σa2 h2 ∧ Keep X.K H1 H5 ∧ sForGo p.2 g w (p.1.drop (i + 1)) σa2 h2 Da ∧ LEn X.K W h2 H5 Da D := fun σa5 h5 σ5 H5 q5 ab5 fr5 =>
      ⟨by omega, σa5, h5, ab5, k4.trans (fr5.keep ab4.hp), by rw [er]; exact q5, l4.after fr5⟩
    exact ⟨σa4, h4, _, ab4, q4, ⟨turn, l4.rt, l4.nx, turn, l4.ex⟩⟩
/-! while -/
def sWh (c : M Bool) (body : WS) : Nat → WS
  | 0 => fun _ _ _ => False
  | n + 1 => sBind c fun b => if b = true then fun σ h D => body σ h { D with nx := fun σ2 h2 => sWh c body n σ2 h2 D, ct := fun σ2 h2 => sWh c body n σ2 h2 D, bk := D.nx } else sNext
def sWhile (c : M Bool) (body : WS) : WS := fun σ h D => ∃ n, sWh c body n σ h D
theorem xs_while {c : Expr} {tc : M Bool} {body : List Stmt} (hp : PassesOwn (model X.prog X.w) X.A X.env X.xe) (hc : XT X W c tc) (hb : XSs X W body w) : XS X W (.While c body [] pos) (sWhile tc w) := PS.imp (ps_while hp hc hb) fun D σ H t => by
  obtain ⟨σa, h, Da, ab, ⟨n, hw⟩, l⟩ := t
  refine ⟨fun m σ2 H2 => tS X.K W (sWh tc w m) D σ2 H2, ⟨n, σa, h, Da, ab, hw, l⟩, fun m σ2 H2 q => ?_⟩
  cases m with
  | zero => obtain ⟨_, _, _, _, z, _⟩ := q; exact z.elim
  | succ m =>
    refine q.bind fun b b' H3 eb _ t3 => ?_
    subst eb
    cases b with
    | false => exact t3.next
    | true =>
      rw [if_pos rfl] at t3
      obtain ⟨σa3, h3, D3, ab3, hw3, l3⟩ := t3
      refine ⟨fun σ4 H4 => tS X.K W (sWh tc w m) D σ4 H4, fun σ4 H4 n => ⟨m, by omega, n⟩, ?_⟩
      exact ⟨σa3, h3, _, ab3, hw3, ⟨fun a b c d q r s => ⟨a, b, D3, r, q, l3.after s⟩, l3.rt, l3.nx, fun a b c d q r s => ⟨a, b, D3, r, q, l3.after s⟩, l3.ex⟩⟩
/-! what is walked -/
theorem xi_seq0 {l : Expr} {te : TE} (hl : PE X l te) : PI X tg l (fun σ H R => te σ H fun x H1 => (∃ a, x = .ref a ∧ (∃ xs, SqL X.K H1 a xs) ∧ R (Itl X.K a) H1) ∨ ∃ a, x = .ref a ∧ (∃ xs, SqT X.K H1 a xs) ∧ R (Itt X.K a) H1) := by
  refine ⟨fun P s σ H R I q0 => ?_⟩
  refine thn (hl.run P s σ H _ I q0) fun v s1 ⟨x, H1, I1, r1, q1⟩ => ?_
  rcases q1 with ⟨a, rfl, ⟨xs, hq⟩, q⟩ | ⟨a, rfl, ⟨xs, hq⟩, q⟩
  · cases r1
    obtain ⟨its, rv, pl, hz⟩ := I1.list hq
    refine wpAny_pyIter_list pl.isList ⟨s1.heap.objs.size, [s1.heap.objs.size], _, _, H1, rfl, I1.kept (t' := s1.toks) fun b o z => Heap.get?_push_of_some _ z, turn_list a _, ⟨_, Heap.get?_push_size _ rfl, rfl, rfl⟩, fun b hb => ?_, q⟩
    obtain rfl : b = s1.heap.objs.size := by simpa using hb
    exact I1.fpOk (Nat.le_refl _) (I1.hok.fresh (Nat.le_refl _))
  · cases r1
    obtain ⟨its, rv, pl, hz⟩ := I1.tuple hq
    refine wpAny_pyIter_tuple (show s1.heap.IsTuple a its.toArray from pl) ⟨s1.heap.objs.size, [s1.heap.objs.size], _, _, H1, rfl, I1.kept (t' := s1.toks) fun b o z => Heap.get?_push_of_some _ z, turn_tuple a _, ⟨_, Heap.get?_push_size _ rfl, rfl, rfl⟩, fun b hb => ?_, q⟩
    obtain rfl : b = s1.heap.objs.size := by simpa using hb
    exact I1.fpOk (Nat.le_refl _) (I1.hok.fresh (Nat.le_refl _))
/-- a value's items, with what must stay -/
def itA (h : AH) : AV → Option AIt
  | .tup xs => some (xs, fun _ => True)
  | .rol xs => some (xs, fun _ => True)
  | .ref a => match h a with
    | some (.lst xs) => some (xs, fun h1 => h1 a = some (.lst xs))
    | _ => none
  | _ => none
def wIt (w : M AV) : M AIt := w.bind fun x => fun _ h Q _ => ∃ p, itA h x = some p ∧ Q p h
theorem itl_ok {K : PySem.W.Frag} {H1 : Hp} {a : Addr} {xs : List AV} {src : AH → Prop} (hs : ∀ H h, Keep K H1 H → HR K H h → src h → ∃ vs, SqL K H a vs ∧ RVs K H xs vs) : ItOk K H1 (xs, src) (Itl K a) := fun H h k hr q => by
  obtain ⟨vs, sq, rs⟩ := hs H h k hr q
  refine ⟨fun i x e => ?_, fun i hi => ⟨vs, sq, by rw [← rs.length]; exact hi⟩⟩
  obtain ⟨v, ev, rv⟩ := rs.get e
  refine ⟨⟨vs, v, sq, ev⟩, fun u H2 y => ?_⟩
  obtain ⟨rfl, y⟩ := y
  have := y vs sq
  rw [ev] at this
  cases this
  exact ⟨rv, hr, .refl⟩
theorem itt_ok {K : PySem.W.Frag} {H1 : Hp} {a : Addr} {xs : List AV} {src : AH → Prop} (hs : ∀ H h, Keep K H1 H → HR K H h → src h → ∃ vs, SqT K H a vs ∧ RVs K H xs vs) : ItOk K H1 (xs, src) (Itt K a) := fun H h k hr q => by
  obtain ⟨vs, sq, rs⟩ := hs H h k hr q
  refine ⟨fun i x e => ?_, fun i hi => ⟨vs, sq, by rw [← rs.length]; exact hi⟩⟩
  obtain ⟨v, ev, rv⟩ := rs.get e
  refine ⟨⟨vs, v, sq, ev⟩, fun u H2 y => ?_⟩
  obtain ⟨rfl, y⟩ := y
  have := y vs sq
  rw [ev] at this
  cases this
  exact ⟨rv, hr, .refl⟩
theorem xi_seq (h : XE X W e we) : XI X W tg e (wIt we) := PI.imp (xi_seq0 h) fun σ H R t => tG.bind t fun x v H1 r1 _ t1 => by
  obtain ⟨σa, h, Qa, Ea, ab, ⟨p, ep, q⟩, hq, _⟩ := t1
  cases r1 with
  | @tup a xs vs s rs =>
    cases ep
    exact .inr ⟨a, rfl, ⟨_, s⟩, hq _ _ _ H1 q ab.hp (itt_ok fun H h k _ _ => ⟨vs, k.tup _ _ s, rs.keep k⟩) .refl⟩
  | @rol a xs vs s rs =>
    cases ep
    exact .inl ⟨a, rfl, ⟨_, s.l⟩, hq _ _ _ H1 q ab.hp (itl_ok fun H h k _ _ => ⟨vs, (k.rol _ _ s).l, rs.keep k⟩) .refl⟩
  | ref a =>
    dsimp only [itA] at ep
    cases z : h a with
    | none => rw [z] at ep; cases ep
    | some o =>
      rw [z] at ep
      cases o with
      | lst xs =>
        cases ep
        obtain ⟨vs, e1, rs⟩ := ab.hp.st _ _ z
        refine .inl ⟨a, rfl, ⟨_, SqL.of e1⟩, hq _ _ _ H1 q ab.hp (itl_ok fun H h k hr q => ?_) .refl⟩
        obtain ⟨vs2, e2, rs2⟩ := hr.st _ _ q
        exact ⟨vs2, SqL.of e2, rs2⟩
      | _ => cases ep
  | _ => cases ep
/-- ints from lo by c -/
def rngA (lo c : Int) (n : Nat) : List AV := (List.range n).map fun (i : Nat) => .int (lo + (i : Int) * c)
theorem rngA_get {lo c : Int} {n i : Nat} {x : AV} (e : (rngA lo c n)[i]? = some x) : i < n ∧ x = .int (lo + (i : Int) * c) := by
  unfold rngA at e
  rw [List.getElem?_map] at e
  cases q : (List.range n)[i]? with
  | none => rw [q] at e; cases e
  | some j =>
    rw [q] at e
    obtain ⟨h1, h2⟩ := List.getElem?_eq_some_iff.mp q
    rw [List.length_range] at h1
    rw [List.getElem_range] at h2
    subst h2
    exact ⟨h1, (Option.some.inj e).symm⟩
theorem rngA_len {lo c : Int} {n : Nat} : (rngA lo c n).length = n := by unfold rngA; rw [List.length_map, List.length_range]
def wRng1 (w : M (List AV)) : M AIt := w.bind fun xs => fun _ h Q _ => ∃ j : Int, xs = [.int j] ∧ (-(2 ^ 62) ≤ j ∧ j < 2 ^ 62) ∧ Q (rngA 0 1 j.toNat, fun _ => True) h
def wRng2 (w : M (List AV)) : M AIt := w.bind fun xs => fun _ h Q _ => ∃ i j : Int, xs = [.int i, .int j] ∧ (-(2 ^ 62) ≤ i ∧ i < 2 ^ 62 ∧ -(2 ^ 62) ≤ j ∧ j < 2 ^ 62) ∧ Q (rngA i 1 (j - i).toNat, fun _ => True) h
/-- range(i, j, -1) -/
def wRngD (w : M (List AV)) : M AIt := w.bind fun xs => fun _ h Q _ => ∃ i j : Int, xs = [.int i, .int j, .int (-1)] ∧ (-(2 ^ 62) ≤ i ∧ i < 2 ^ 62 ∧ -(2 ^ 62) ≤ j ∧ j < 2 ^ 62) ∧ Q (rngA i (-1) (i - j).toNat, fun _ => True) h
theorem itr_ok {K : PySem.W.Frag} {H1 : Hp} {lo : Int} {n : Nat} : ItOk K H1 (rngA lo 1 n, fun _ => True) (Itr lo n) := fun H h k hr q => by
  refine ⟨fun i x e => ?_, fun i hi => by rw [rngA_len] at hi; exact hi⟩
  obtain ⟨h1, rfl⟩ := rngA_get e
  refine ⟨h1, fun v H2 y => ?_⟩
  obtain ⟨rfl, rfl⟩ := y
  rw [Int.mul_one]
  exact ⟨.int _, hr, .refl⟩
theorem itc_ok {K : PySem.W.Frag} {H1 : Hp} {lo c : Int} {n : Nat} : ItOk K H1 (rngA lo c n, fun _ => True) (Itc lo c n) := fun H h k hr q => by
  refine ⟨fun i x e => ?_, fun i hi => by rw [rngA_len] at hi; exact hi⟩
  obtain ⟨h1, rfl⟩ := rngA_get e
  refine ⟨h1, fun v H2 y => ?_⟩
  obtain ⟨rfl, rfl⟩ := y
  exact ⟨.int _, hr, .refl⟩
variable {wa : M (List AV)} {a b c : Expr} {p : Pos}
theorem xi_rng1 (hg : Gl X "range") (hm : X.mg "range" = none) (ha : XA X W [a] wa) (hs : starEach [a] X.env = [(false, eval a X.env)] := by rfl) : XI X W tg (.Call (.Name "range" p) [a] [] pos) (wRng1 wa) :=
  PI.imp (pi_range1 hg hm ha hs) fun σ H R t => tG.bind t fun xs vs H1 r1 _ t1 => by
    obtain ⟨σa, h, Qa, Ea, ab, ⟨j, rfl, ⟨c1, c2⟩, q⟩, hq, _⟩ := t1
    cases r1 with
    | cons r r1 =>
      cases r1
      cases r
      exact ⟨j, rfl, c1, c2, hq _ _ _ H1 q ab.hp itr_ok .refl⟩
theorem xi_rng2 (hg : Gl X "range") (hm : X.mg "range" = none) (ha : XA X W [a, b] wa) (hs : starEach [a, b] X.env = [(false, eval a X.env), (false, eval b X.env)] := by rfl) (hs2 : starEach [b] X.env = [(false, eval b X.env)] := by rfl) :
    XI X W tg (.Call (.Name "range" p) [a, b] [] pos) (wRng2 wa) :=
  PI.imp (pi_range2 hg hm ha hs hs2) fun σ H R t => tG.bind t fun xs vs H1 r1 _ t1 => by
    obtain ⟨σa, h, Qa, Ea, ab, ⟨i, j, rfl, c1, q⟩, hq, _⟩ := t1
    cases r1 with
    | cons r r1 => cases r1 with
      | cons r2 r1 =>
        cases r1
        cases r
        cases r2
        exact ⟨i, j, rfl, c1, hq _ _ _ H1 q ab.hp itr_ok .refl⟩
theorem xi_rngD (hg : Gl X "range") (hm : X.mg "range" = none) (ha : XA X W [a, b, c] wa) (hs : starEach [a, b, c] X.env = (false, eval a X.env) :: starEach [b, c] X.env := by rfl) (hpl : (backTo pos (starEach [b, c] X.env)).any (·.1) = false := by rfl) :
    XI X W tg (.Call (.Name "range" p) [a, b, c] [] pos) (wRngD wa) :=
  PI.imp (pi_range3 hg hm ha hs hpl) fun σ H R t => tG.bind t fun xs vs H1 r1 _ t1 => by
    obtain ⟨σa, h, Qa, Ea, ab, ⟨i, j, rfl, ⟨c1, c2, c3, c4⟩, q⟩, hq, _⟩ := t1
    cases r1 with
    | cons r r1 => cases r1 with
      | cons r2 r1 => cases r1 with
        | cons r3 r1 =>
          cases r1
          cases r
          cases r2
          cases r3
          exact ⟨i, j, -1, _, rfl, RgC.neg c1 c2 c3 c4, hq _ _ _ H1 q ab.hp itc_ok .refl⟩
end
end Lx

/-! Lx: zip and enumerate, methods of lists, stores, raise, try, calls of the program's own defs. -/
namespace Lx
open PySem PySem.Spec PyProof.Rows L2 RZ
variable [LawTb]
section
variable {X : Cx} {W : WX} {e a b c : Expr} {es : List Expr} {we wa wb wc : M AV} {ws : M (List AV)} {pos p tpos : Pos}
/-! zip(list, list), zip(tuple, tuple) -/
def zipA (xs ys : List AV) : List AV := List.zipWith (fun x y => .tup [x, y]) xs ys
theorem zipA_get {xs ys : List AV} {i : Nat} {z : AV} (q : (zipA xs ys)[i]? = some z) : ∃ x y, xs[i]? = some x ∧ ys[i]? = some y ∧ z = .tup [x, y] := by
  unfold zipA at q
  rw [List.getElem?_zipWith] at q
  cases h1 : xs[i]? with
  | none => rw [h1] at q; cases q
  | some x =>
    cases h2 : ys[i]? with
    | none => rw [h1, h2] at q; cases q
    | some y => rw [h1, h2] at q; exact ⟨x, y, rfl, rfl, (Option.some.inj q).symm⟩
theorem zipA_len {xs ys : List AV} : (zipA xs ys).length = min xs.length ys.length := by unfold zipA; rw [List.length_zipWith]
def wZip (w : M (List AV)) : M AIt := w.bind fun zs => fun _ h Q _ => ∃ x y, zs = [x, y] ∧
  ((∃ a b xs ys, x = .ref a ∧ y = .ref b ∧ h a = some (.lst xs) ∧ h b = some (.lst ys) ∧ Q (zipA xs ys, fun h1 => h1 a = some (.lst xs) ∧ h1 b = some (.lst ys)) h) ∨
   ∃ xs ys, x = .tup xs ∧ y = .tup ys ∧ Q (zipA xs ys, fun _ => True) h)
theorem pair_ok {K : PySem.W.Frag} {H : Hp} {h : AH} {x y : AV} {v u : V} {T : Addr} (hr : HR K H h) (e : H T = none) (r : RV K H x v) (q : RV K H y u) :
    RV K (upd H T (.tup [v, u])) (.tup [x, y]) (.ref T) ∧ HR K (upd H T (.tup [v, u])) h ∧ Fr h H h (upd H T (.tup [v, u])) := by
  have k := (Kp.fresh (K := K) (o := .tup [v, u]) e)
  exact ⟨.tup (SqT.of upd_same) (.cons (r.keep k.keep) (.cons (q.keep k.keep) .nil)), hr.new k (hr.dom e), .fresh e⟩
theorem itz_ok {K : PySem.W.Frag} {H1 : Hp} {a b : Addr} {xs ys : List AV} : ItOk K H1 (zipA xs ys, fun h1 => h1 a = some (.lst xs) ∧ h1 b = some (.lst ys)) (Itz K a b) := fun H h k hr q => by
  obtain ⟨vs, e1, r1⟩ := hr.st _ _ q.1
  obtain ⟨us, e2, r2⟩ := hr.st _ _ q.2
  refine ⟨fun i z q => ?_, fun i hi => ⟨vs, us, SqL.of e1, SqL.of e2, ?_⟩⟩
  · obtain ⟨x, y, h1, h2, rfl⟩ := zipA_get q
    obtain ⟨v, ev, rv⟩ := r1.get h1
    obtain ⟨u, eu, ru⟩ := r2.get h2
    refine ⟨⟨vs, us, v, u, SqL.of e1, SqL.of e2, ev, eu⟩, fun z H2 yl => ?_⟩
    obtain ⟨T, x2, y2, rfl, hT, rfl, h3, h4⟩ := yl
    have z1 := h3 vs (SqL.of e1)
    have z2 := h4 us (SqL.of e2)
    rw [ev] at z1
    rw [eu] at z2
    cases z1
    cases z2
    exact pair_ok hr hT rv ru
  · have hi : (zipA xs ys).length ≤ i := hi
    rw [zipA_len] at hi
    have := r1.length
    have := r2.length
    omega
theorem itzT_ok {K : PySem.W.Frag} {H1 : Hp} {a b : Addr} {xs ys : List AV} {vs us : List V} (s1 : SqT K H1 a vs) (s2 : SqT K H1 b us) (r1 : RVs K H1 xs vs) (r2 : RVs K H1 ys us) : ItOk K H1 (zipA xs ys, fun _ => True) (ItzT K a b) := fun H h k hr q => by
  replace s1 := k.tup _ _ s1
  replace s2 := k.tup _ _ s2
  replace r1 := r1.keep k
  replace r2 := r2.keep k
  refine ⟨fun i z q => ?_, fun i hi => ⟨vs, us, s1, s2, ?_⟩⟩
  · obtain ⟨x, y, h1, h2, rfl⟩ := zipA_get q
    obtain ⟨v, ev, rv⟩ := r1.get h1
    obtain ⟨u, eu, ru⟩ := r2.get h2
    refine ⟨⟨vs, us, v, u, s1, s2, ev, eu⟩, fun z H2 yl => ?_⟩
    obtain ⟨T, x2, y2, rfl, hT, rfl, h3, h4⟩ := yl
    have z1 := h3 vs s1
    have z2 := h4 us s2
    rw [ev] at z1
    rw [eu] at z2
    cases z1
    cases z2
    exact pair_ok hr hT rv ru
  · have hi : (zipA xs ys).length ≤ i := hi
    rw [zipA_len] at hi
    have := r1.length
    have := r2.length
    omega
theorem xi_zip {elts : List Expr} {kk : Nat} (hg : Gl X "zip") (hm : X.mg "zip" = none) (ha : XA X W [a, b] ws) (hs : starEach [a, b] X.env = (false, eval a X.env) :: starEach [b] X.env := by rfl) (hpl : (backTo pos (starEach [b] X.env)).any (·.1) = false := by rfl) :
    XI X W (.Tuple elts kk tpos) (.Call (.Name "zip" p) [a, b] [] pos) (wZip ws) :=
  PI.imp (pi_zipA hg hm ha hs hpl) fun σ H R t => show tA X.K W ws σ H _ from tG.bind t fun xs vs H1 r1 _ t1 => by
    obtain ⟨σa, h, Qa, Ea, ab, ⟨x, y, rfl, q⟩, hq, _⟩ := t1
    cases r1 with
    | cons r r1 => cases r1 with
      | cons r2 r1 =>
        cases r1
        rcases q with ⟨a, b, xs, ys, rfl, rfl, e1, e2, q⟩ | ⟨xs, ys, rfl, rfl, q⟩
        · cases r
          cases r2
          obtain ⟨vs, w1, rr1⟩ := ab.hp.st _ _ e1
          obtain ⟨us, w2, rr2⟩ := ab.hp.st _ _ e2
          exact ⟨a, b, vs, us, rfl, .inl ⟨SqL.of w1, SqL.of w2, hq _ _ _ H1 q ab.hp itz_ok .refl⟩⟩
        · cases r with
          | tup s1 rr1 => cases r2 with
            | tup s2 rr2 => exact ⟨_, _, _, _, rfl, .inr ⟨s1, s2, hq _ _ _ H1 q ab.hp (itzT_ok s1 s2 rr1 rr2) .refl⟩⟩
/-! enumerate(list) -/
def enumA (xs : List AV) : List AV := (List.range xs.length).zipWith (fun i x => .tup [.int (i : Nat), x]) xs
theorem enumA_get {xs : List AV} {i : Nat} {z : AV} (q : (enumA xs)[i]? = some z) : ∃ x, xs[i]? = some x ∧ z = .tup [.int (i : Nat), x] := by
  unfold enumA at q
  rw [List.getElem?_zipWith] at q
  cases h2 : xs[i]? with
  | none =>
    rw [h2] at q
    cases h1 : (List.range xs.length)[i]? <;> (rw [h1] at q; cases q)
  | some x =>
    have l : i < xs.length := (List.getElem?_eq_some_iff.mp h2).1
    have h1 : (List.range xs.length)[i]? = some i := by simp [l]
    rw [h1, h2] at q
    exact ⟨x, rfl, (Option.some.inj q).symm⟩
theorem enumA_len {xs : List AV} : (enumA xs).length = xs.length := by unfold enumA; rw [List.length_zipWith, List.length_range, Nat.min_self]
def wEnum (w : M (List AV)) : M AIt := w.bind fun zs => fun _ h Q _ => ∃ a xs, zs = [.ref a] ∧ h a = some (.lst xs) ∧ Q (enumA xs, fun h1 => h1 a = some (.lst xs)) h
theorem ite_ok {K : PySem.W.Frag} {H1 : Hp} {a : Addr} {xs : List AV} : ItOk K H1 (enumA xs, fun h1 => h1 a = some (.lst xs)) (Ite K a) := fun H h k hr q => by
  obtain ⟨vs, e1, r1⟩ := hr.st _ _ q
  refine ⟨fun i z q => ?_, fun i hi => ⟨vs, SqL.of e1, ?_⟩⟩
  · obtain ⟨x, h1, rfl⟩ := enumA_get q
    obtain ⟨v, ev, rv⟩ := r1.get h1
    refine ⟨⟨vs, v, SqL.of e1, ev⟩, fun z H2 yl => ?_⟩
    obtain ⟨T, x2, rfl, hT, rfl, h3⟩ := yl
    have z1 := h3 vs (SqL.of e1)
    rw [ev] at z1
    cases z1
    exact pair_ok hr hT (.int _) rv
  · have hi : (enumA xs).length ≤ i := hi
    rw [enumA_len] at hi
    have := r1.length
    omega
theorem xi_enum {elts : List Expr} {kk : Nat} (hg : Gl X "enumerate") (hm : X.mg "enumerate" = none) (ha : XA X W [a] ws) (hs : starEach [a] X.env = [(false, eval a X.env)] := by rfl) :
    XI X W (.Tuple elts kk tpos) (.Call (.Name "enumerate" p) [a] [] pos) (wEnum ws) :=
  PI.imp (pi_enum hg hm ha hs) fun σ H R t => show tA X.K W ws σ H _ from tG.bind t fun xs vs H1 r1 _ t1 => by
    obtain ⟨σa, h, Qa, Ea, ab, ⟨a, xs, rfl, e1, q⟩, hq, _⟩ := t1
    cases r1 with
    | cons r r1 =>
      cases r1
      cases r
      obtain ⟨vs, w1, rr1⟩ := ab.hp.st _ _ e1
      exact ⟨a, vs, rfl, SqL.of w1, hq _ _ _ H1 q ab.hp ite_ok .refl⟩
/-! methods of built-in types -/
/-- a list in the store -/
def wApp (wo : M AV) (ws : M (List AV)) : M AV := wo.bind fun x => ws.bind fun ys => M.prim fun h Q => ∃ a y xs, x = .ref a ∧ ys = [y] ∧ h a = some (.lst xs) ∧ xs.length < sizeLine ∧ Q .non (aup h a (.lst (xs ++ [y])))
theorem isL {K : PySem.W.Frag} {H : Hp} {a : Addr} {vs : List V} (e : H a = some (.lst vs)) : tyV K "list" (.ref a) H := .inl ⟨rfl, vs, .inl (.inl e)⟩
/-- what the receiver must be stands ahead of the arguments: it is a list in the store there too -/
def wM (r : AV → List AV → P1) (wo : M AV) (ws : M (List AV)) : M AV := wo.bind fun x => fun σ h Q E => (∃ a xs, x = .ref a ∧ h a = some (.lst xs)) ∧ (ws.bind fun ys => M.prim (r x ys)) σ h Q E
def aApp (x : AV) (ys : List AV) : P1 := fun h Q => ∃ a y xs, x = .ref a ∧ ys = [y] ∧ h a = some (.lst xs) ∧ xs.length < sizeLine ∧ Q .non (aup h a (.lst (xs ++ [y])))
def aExt (x : AV) (ys : List AV) : P1 := fun h Q => ∃ a b xs zs, x = .ref a ∧ ys = [.ref b] ∧ h a = some (.lst xs) ∧ h b = some (.lst zs) ∧ xs.length + zs.length ≤ sizeLine ∧ Q .non (aup h a (.lst (xs ++ zs)))
def aPop (x : AV) (ys : List AV) : P1 := fun h Q => ∃ a xs y, x = .ref a ∧ ys = [] ∧ h a = some (.lst (xs ++ [y])) ∧ Q y (aup h a (.lst xs))
def XM (X : Cx) (id : String) (r : AV → List AV → P1) : Prop := MtR X id fun v us H Q => ∃ x xs, RV X.K H x v ∧ RVs X.K H xs us ∧ tP X.K (r x xs) H Q
theorem xm_app : XM X "list.append" aApp := by
  intro P s σ H v us vv uu Q I rv ru q
  obtain ⟨x, xs, r1, r2, h, Qa, hr, ⟨a, y, zs, rfl, rfl, e1, z, q⟩, hq⟩ := q
  cases r1
  cases r2 with
  | @cons _ _ v1 _ r2 r3 =>
    cases r3
    obtain ⟨vs, w1, rr⟩ := hr.st _ _ e1
    have k := Kp.lst (K := X.K) (o := .lst (vs ++ [v1])) w1
    refine mt_append P s σ H _ _ vv uu Q I rv ru ⟨a, vs, _, rfl, rfl, w1, by rw [← rr.length]; exact z, hq _ _ .non _ q (hr.put k ⟨_, upd_same, ?_⟩) .non (.puto k e1)⟩
    exact (rr.append (.cons r2 .nil)).keep k.keep
theorem xm_ext : XM X "list.extend" aExt := by
  intro P s σ H v us vv uu Q I rv ru q
  obtain ⟨x, xs, r1, r2, h, Qa, hr, ⟨a, b, zs, ys, rfl, rfl, e1, e2, z, q⟩, hq⟩ := q
  cases r1
  cases r2 with
  | cons r2 r3 =>
    cases r3
    cases r2
    obtain ⟨vs, w1, rr⟩ := hr.st _ _ e1
    obtain ⟨us, w2, rr2⟩ := hr.st _ _ e2
    have k := Kp.lst (K := X.K) (o := .lst (vs ++ us)) w1
    refine mt_extend P s σ H _ _ vv uu Q I rv ru ⟨a, b, vs, us, rfl, rfl, w1, w2, by rw [← rr.length, ← rr2.length]; exact z, hq _ _ .non _ q (hr.put k ⟨_, upd_same, ?_⟩) .non (.puto k e1)⟩
    exact (rr.append rr2).keep k.keep
theorem RVs.snoc_inv {K : PySem.W.Frag} {H : Hp} {xs : List AV} {y : AV} {vs : List V} (r : RVs K H (xs ++ [y]) vs) : ∃ us v, vs = us ++ [v] ∧ RVs K H xs us ∧ RV K H y v := by
  induction xs generalizing vs with
  | nil => cases r with | cons p t => cases t; exact ⟨[], _, rfl, .nil, p⟩
  | cons x xs ih =>
    cases r with
    | cons p t =>
      obtain ⟨us, v, rfl, q1, q2⟩ := ih t
      exact ⟨_ :: us, v, rfl, .cons p q1, q2⟩
theorem xm_pop : XM X "list.pop" aPop := by
  intro P s σ H v us vv uu Q I rv ru q
  obtain ⟨x, xs, r1, r2, h, Qa, hr, ⟨a, zs, y, rfl, rfl, e1, q⟩, hq⟩ := q
  cases r1
  cases r2
  obtain ⟨vs, w1, rr⟩ := hr.st _ _ e1
  obtain ⟨us, v, rfl, r5, r6⟩ := rr.snoc_inv
  have k := Kp.lst (K := X.K) (o := .lst us) w1
  refine mt_pop P s σ H _ _ vv uu Q I rv ru ⟨a, us ++ [v], v, rfl, rfl, w1, by simp, ?_⟩
  rw [List.dropLast_concat]
  exact hq _ _ v _ q (hr.put k ⟨_, upd_same, r5.keep k.keep⟩) (r6.keep k.keep) (.puto k e1)
theorem xe_lm {name : Str} {id : String} {r : AV → List AV → P1} {apos cpos : Pos} (pa : PlainAttrs "list") (slot : Slot "list" name id) (hty : typeOf (.builtin id) = pure (.type "method_descriptor")) (hm : XM X id r) (ho : XE X W a wa) (ha : XA X W (b :: es) ws)
    (hbase : attributeBase a name X.env (eval a X.env) = eval a X.env := by rfl)
    (hfew : ((backTo cpos (starEach (b :: es) X.env)).all (fun x => !x.1) && (backToKw cpos (keywordEach [] X.env)).all (fun x => x.1.isSome) && decide ((b :: es).length + ([] : List Keyword).length + (if ([] : List Keyword).isEmpty then 0 else 1) < 30)) = true := by rfl)
    (hline : (apos.endLine == cpos.line) = true := by rfl) (hs : starEach (b :: es) X.env = (false, eval b X.env) :: starEach es X.env := by rfl) (hplain : (backTo cpos (starEach es X.env)).any (·.1) = false := by rfl) :
    XE X W (.Call (.Attribute a name apos) (b :: es) [] cpos) (wM r wa ws) :=
  PE.imp (pe_bm pa slot hty hm ho ha hbase hfew hline hs hplain) fun σ H Q t => tG.bind t fun x v H1 r1 _ t1 => by
    obtain ⟨σa, h, Qa, Ea, ab, ⟨⟨p, xs, rfl, e1⟩, q⟩, hq⟩ := t1
    cases r1
    obtain ⟨vs, w1, rr⟩ := ab.hp.st _ _ e1
    refine ⟨isL w1, ?_⟩
    have t2 : tE X.K W (ws.bind fun ys => M.prim (r (.ref p) ys)) σ H1 Q := ⟨σa, h, Qa, Ea, ab, q, hq⟩
    exact tG.bind t2 fun ys us H2 r2 _ t3 => ⟨.ref p, ys, .ref p, r2, t3.prim⟩
theorem xe_lm0 {name : Str} {id : String} {r : AV → List AV → P1} {apos cpos : Pos} (pa : PlainAttrs "list") (slot : Slot "list" name id) (hty : typeOf (.builtin id) = pure (.type "method_descriptor")) (hm : XM X id r) (ho : XE X W a wa)
    (hbase : attributeBase a name X.env (eval a X.env) = eval a X.env := by rfl) (hline : (apos.endLine == cpos.line) = true := by rfl) : XE X W (.Call (.Attribute a name apos) [] [] cpos) (wM r wa wNil) :=
  PE.imp (pe_bm0 pa slot hty hm ho hbase hline) fun σ H Q t => tG.bind t fun x v H1 r1 _ t1 => by
    obtain ⟨σa, h, Qa, Ea, ab, ⟨⟨p, xs, rfl, e1⟩, q⟩, hq⟩ := t1
    cases r1
    obtain ⟨vs, w1, rr⟩ := ab.hp.st _ _ e1
    exact ⟨isL w1, .ref p, [], .ref p, .nil, h, Qa, ab.hp, q, fun x h1 y H2 a b c d => hq.1 x h1 y H2 a b c d⟩
/-! o[i] = v: a list, a dict -/
def aSet (o i v : AV) : AH → (AH → Prop) → Prop := fun h Q =>
  (∃ a xs k j, o = .ref a ∧ i = .int k ∧ h a = some (.lst xs) ∧ ixN xs.length k = some j ∧ Q (aup h a (.lst (xs.set j v)))) ∨
  ∃ a kvs k, o = .ref a ∧ keyA i = some k ∧ h a = some (.dic kvs) ∧ kvs.length < sizeLine ∧ Q (aup h a (.dic (putA kvs k v)))
def tSt (K : PySem.W.Frag) (o i v : V) (H : Hp) (Q : Hp → Prop) : Prop := ∃ x y z h Qa, RV K H x o ∧ RV K H y i ∧ RV K H z v ∧ HR K H h ∧ aSet x y z h Qa ∧ ∀ h1 H1, Qa h1 → HR K H1 h1 → Fr h H h1 H1 → Q H1
theorem set_any (hu : X.A.units + 1 < cLine) : PSet X (tSt X.K) := by
  intro P s σ H o i v ov iv u Q I ro ri rv q
  obtain ⟨x, y, z, h, Qa, r1, r2, r3, hr, q, hq⟩ := q
  rcases q with ⟨a, xs, k, j, rfl, rfl, e1, e2, q⟩ | ⟨a, kvs, k, rfl, e1, e2, e3, q⟩
  · cases r1
    cases r2
    obtain ⟨vs, w1, rr⟩ := hr.st _ _ e1
    have kp := Kp.lst (K := X.K) (o := .lst (vs.set j v)) w1
    exact set_list P s σ H _ _ v ov iv u Q I ro ri rv ⟨a, vs, k, j, rfl, rfl, w1, by rw [← rr.length]; exact e2, hq _ _ q (hr.put kp ⟨_, upd_same, (rr.set j r3).keep kp.keep⟩) (.puto kp e1)⟩
  · cases r1
    obtain ⟨ws, w1, rk⟩ := hr.st _ _ e2
    have ev := keyA_v r2 e1
    subst ev
    have kp := Kp.dK (K := X.K) (o := .dK (putK ws k v)) w1
    refine set_dict hu P s σ H _ _ v ov iv u Q I ro ri rv ⟨a, _, rfl, .k w1 (by rw [← rk.length]; exact e3), ?_⟩
    exact hq _ _ q (hr.put kp ⟨_, upd_same, (putA_v r3 rk).keep kp.keep⟩) (.puto kp e2)
def aSubT (wo wi : M AV) : WG := fun v σ h Q E => wo σ h (fun o h1 => wi σ h1 (fun i h2 => aSet o i v h2 fun h3 => Q σ h3) fun x h2 => E x σ h2) fun x h2 => E x σ h2
theorem xg_sub (hu : X.A.units + 1 < cLine) (ho : XE X W a wa) (hi : XE X W b wb)
    (ha : ∀ v, assign (.Subscript a b pos) X.env v = (do
      let ov ← holding [v] (eval a X.env)
      let iv ← holding [v, ov] (eval b X.env)
      standAt pos
      holding [v, ov, iv] (setItem ov iv v)
      release [v, ov, iv] []) := by intro _; rfl) : XG X W [] (.Subscript a b pos) (aSubT wa wb) :=
  PG.imp (pg_sub ho hi (set_any hu) ha) fun v σ H Q t => by
    obtain ⟨x, σa, h, Qa, Ea, r, ab, q, hq, he⟩ := t
    refine ⟨σa, h, _, _, ab, q, fun o h1 ov H1 q1 hr1 ro fr1 => ?_, fun y h1 c d H1 q1 hr1 rx fr1 => he y σa h1 c d σ H1 q1 ⟨ab.env.keep (fr1.keep ab.hp), hr1⟩ rx fr1⟩
    have k1 := fr1.keep ab.hp
    refine ⟨σa, h1, _, _, ⟨ab.env.keep k1, hr1⟩, q1, fun i h2 iv H2 q2 hr2 ri fr2 => ?_, fun y h2 c d H2 q2 hr2 rx fr2 => he y σa h2 c d σ H2 q2 ⟨(ab.env.keep k1).keep (fr2.keep hr1), hr2⟩ rx (fr1.trans fr2)⟩
    have k2 := fr2.keep hr1
    exact ⟨o, i, x, h2, _, ro.keep k2, ri, (r.keep k1).keep k2, hr2, q2, fun h3 H3 q3 hr3 fr3 => hq _ _ _ _ q3 ⟨((ab.env.keep k1).keep k2).keep (fr3.keep hr2), hr3⟩ ((fr1.trans fr2).trans fr3) .refl⟩
/-! raise X('..'), a class without own __init__ -/
def sRaise (x : Str) : WS := fun σ h D => D.ex ⟨x, none⟩ σ h
theorem xs_raise {x m : Str} {j : Nat} {p2 pos' : Pos} {bmB : List Value} {newId initId : String} (hc : X.calm = true) (tk : Takes X W) (F : ExcBaseFacts B newId initId bmB) (q : PySem.W.excIn X.K (He.ga X.K x) bmB newId = true) (gC : X.mg x = some (.ref (He.ga X.K x)))
    (kC : PySem.W.keepIn X.K (.ref (He.ga X.K x)) = true) (r : Raises X (.ref (He.ga X.K x))) (hg : Gl X x) (hdb : (x == ("__debug__" : Str)) = false := by decide) : XS X W (.Raise (some (.Call (.Name x p) [.Constant (.str m) j p2] [] pos)) none pos') (sRaise x) :=
  PS.imp (ps_raise hc tk (pmk_own F q gC kC r hg hdb)) fun D σ H t => by
    obtain ⟨σa, h, Da, ab, q, l⟩ := t
    exact l.ex _ _ _ _ _ _ _ q ab ⟨rfl, True.intro⟩ .refl
/-! try: .. except X: .. -/
def sTry (mt : Str → Option Bool) (body suite : WS) : WS := fun σ h D => body σ h { D with ex := fun x σ1 h1 => ∃ b, mt x.cls = some b ∧ if b = true then suite σ1 h1 { D with ex := fun _ _ _ => False } else D.ex x σ1 h1 }
theorem xs_try {x : Str} {body suite : List Stmt} {b₀ : Stmt} {np pos' : Pos} {wb ws : WS} {mt : Str → Option Bool} (hs : X.stack = X.env :: X.outer) (hf : X.env.frame = some X.env.locals) {cl : Value} (hc : Names X x cl) (tk : Takes X W)
    (hm : ∀ n b, mt n = some b → PySem.W.exmOne X.K (.ref (He.ga X.K n)) cl = some b)
    (hb : ∀ (W : WX) (pn : List (Addr × Obj)) (xe : Value → Shared → Prop), Takes (X.tr pn xe) W → PassesOwn (model X.prog X.w) X.A X.env xe → XSs (X.tr pn xe) W body wb)
    (hsu : ∀ (a : Addr) (pn : List (Addr × Obj)), XSs (X.suite a pn) (fun _ _ _ _ => False) (b₀ :: suite) ws) : XS X W (.Try body [.ExceptHandler (some (.Name x np)) none (b₀ :: suite) pos'] [] [] pos) (sTry mt wb ws) :=
  PS.imp (ps_try_only (tb := fun W => tS X.K W wb) (ts := fun _ _ _ => tS X.K (fun _ _ _ _ => False) ws) hs hf hc tk hb (fun a oe cls d pn _ _ => hsu a _)) fun D σ H t => by
    obtain ⟨σa, h, Da, ab, q, l⟩ := t
    refine ⟨σa, h, _, ab, q, l.nx, l.rt, l.bk, l.ct, fun y σb h1 c d σ1 H1 q1 ab1 rx fr => ?_⟩
    obtain ⟨b, eb, q1⟩ := q1
    obtain ⟨ec, _⟩ := id rx
    refine ⟨b, by rw [ec]; exact hm _ _ eb, fun hb a _ => ?_, fun hb => ?_⟩
    · subst hb
      rw [if_pos rfl] at q1
      have l2 := l.after fr
      exact ⟨σb, h1, _, ab1, q1, ⟨l2.nx, l2.rt, l2.bk, l2.ct, fun _ _ _ _ _ _ _ z => z.elim⟩⟩
    · subst hb
      rw [if_neg Bool.false_ne_true] at q1
      exact l.ex _ _ _ _ _ _ _ q1 ab1 rx fr
end
end Lx

/-! Lx: the program's own defs, list comprehensions, list[i] op= e. -/
namespace Lx
open PySem PySem.Spec PyProof.Rows L2
variable [LawTb]
/-- what a def does: arguments, store, end, raised -/
abbrev Sem1 := List AV → AH → (AV → AH → Prop) → (AX → AH → Prop) → Prop
abbrev CS := Nat → Sem1
def spC (K : PySem.W.Frag) (c : Sem1) : Sp := fun vs H Q E => ∃ args h Qa Ea, RVs K H args vs ∧ HR K H h ∧ c args h Qa Ea ∧
  (∀ x h1 v H1, Qa x h1 → HR K H1 h1 → RV K H1 x v → Fr h H h1 H1 → Q v H1) ∧ ∀ x h1 c d H1, Ea x h1 → HR K H1 h1 → RX K H1 x c d → Fr h H h1 H1 → E c d H1
/-- less may be told behind a def -/
def QU {α : Type} (Q : α → AH → Prop) : α → AH → Prop := fun x h => ∃ h1, ALe h1 h ∧ Q x h1
/-- a def by its body: n parameters, m slots -/
def fnC (n m : Nat) (w : WS) : Sem1 := fun args h Q E => args.length = n ∧ w (args.map some ++ List.replicate (m - n) none) h { nx := fun _ h1 => QU Q .non h1, rt := QU Q, ex := fun x _ h1 => QU E x h1 }
/-- a def of the module at level k -/
structure FnT (P : Program) (w : World) (K : PySem.W.Frag) (mg : Str → Option Value) (base : Heap) (k : Nat) (x : Str) (c : Sem1) : Prop where
  ex : ∃ f fd ps, FnOk P w K mg base (L2.CX P w) k f fd ps (spC K c) ∧ mg x = some (.ref f) ∧ PySem.W.keepIn K (.ref f) = true ∧ L2.Binds K fd ps []
theorem RVs.start {K : PySem.W.Frag} {H : Hp} {N : List Str} {args : List AV} {vs : List V} (r : RVs K H args vs) : RS K H (args.map some ++ List.replicate (N.length - args.length) none) (L2.start N vs) := by
  unfold L2.start
  have l := r.length
  refine ⟨by simp [l], fun i x e => ?_⟩
  by_cases hi : i < args.length
  · rw [List.getElem?_append_left (by simpa using hi), List.getElem?_map] at e
    cases q : args[i]? with
    | none => rw [q] at e; cases e
    | some y =>
      rw [q] at e
      cases e
      obtain ⟨v, ev, rv⟩ := r.get q
      refine ⟨v, ?_, rv⟩
      rw [List.getElem?_append_left (by simpa [← l] using hi), List.getElem?_map, ev]
      rfl
  · rw [List.getElem?_append_right (by simpa using hi), List.getElem?_replicate] at e
    split at e <;> cases e
section
variable {P : Program} {w : World} {K : PySem.W.Frag} {mg : Str → Option Value} {base : Heap}
/-- THE RULE for a def by its body -/
theorem fnt_of {x qual : Str} {params : Arguments} {body : List Stmt} {scope : Scope} {f : Addr} {fd : FuncData} {N ps : List Str} {k n m : Nat} {ws : WS} (F : FunD K x qual params body scope [] [] f fd) (S : FnScope N ps scope) (hn : ps.length = n) (hm : N.length = m)
    (hb : ∀ (cdv : Value) (A : Around) (outer : List Env) (s : Shared) (H : Hp) (E : XK), Room k (A.deeper (envOfC qual scope s.heap.objs.size f cdv)) →
      Takes (cxOf (L2.CX P w) P w K mg base N qual scope f cdv A outer s H E) (fun c d _ H => E c d H) → PassesOwn (model P w) (A.deeper (envOfC qual scope s.heap.objs.size f cdv)) (envOfC qual scope s.heap.objs.size f cdv) (cxOf (L2.CX P w) P w K mg base N qual scope f cdv A outer s H E).xe →
      XSs (cxOf (L2.CX P w) P w K mg base N qual scope f cdv A outer s H E) (fun c d _ H => E c d H) body ws) :
    FnOk P w K mg base (L2.CX P w) (k + 1) f fd ps (spC K (fnC n m ws)) := by
  subst hn hm
  refine F.ok S (fun vs H Q E ⟨_, _, _, _, ra, _, h, _⟩ => ra.length.symm.trans h.1) fun cdv A outer s H vs Q E hr q => ?_
  obtain ⟨args, h, Qa, Ea, ra, hh, ⟨la, hw⟩, hq, he⟩ := q
  refine ⟨_, hb cdv A outer s H E hr (takes_of rfl rfl rfl rfl) (passes_of rfl), _, h, _, ⟨la ▸ ra.start, hh⟩, hw, ?_⟩
  refine ⟨fun σa h1 σ H1 q ab fr => ?_, fun x h1 v H1 q r1 rv fr => ?_, fun _ _ _ _ z => z.elim, fun _ _ _ _ z => z.elim, fun x σa h1 c d σ H1 q ab rx fr => ?_⟩
  · obtain ⟨h2, l, q⟩ := q
    exact hq _ _ .non H1 q (ab.hp.le l) .non (fr.le l)
  · obtain ⟨h2, l, q⟩ := q
    exact hq _ _ v H1 q (r1.le l) rv (fr.le l)
  · obtain ⟨h2, l, q⟩ := q
    exact he _ _ c d H1 q (ab.hp.le l) rx (fr.le l)
/-- a def that is never called -/
theorem fnt_no {f : Addr} {fd : FuncData} {ps : List Str} {k : Nat} : FnOk P w K mg base (L2.CX P w) k f fd ps (spC K fun _ _ _ _ => False) :=
  ⟨fun vs H Q E ⟨_, _, _, _, _, _, z, _⟩ => z.elim, fun A outer s H args us vs Q E _ _ _ _ ⟨_, _, _, _, _, _, z, _⟩ => z.elim⟩
theorem FnT.mk' {x qual : Str} {params : Arguments} {body : List Stmt} {scope : Scope} {f : Addr} {fd : FuncData} {ps : List Str} {k : Nat} {c : Sem1} (F : FunD K x qual params body scope [] [] f fd) (m : mg x = some (.ref f)) (b : L2.Binds K fd ps []) (o : FnOk P w K mg base (L2.CX P w) k f fd ps (spC K c)) : FnT P w K mg base k x c :=
  ⟨f, fd, ps, o, m, F.kp, b⟩
end
section
variable {X : Cx} {W : WX} {e a b c : Expr} {es : List Expr} {we wa wb wc : M AV} {ws : M (List AV)} {pos p tpos : Pos}
def wCall (c : Sem1) (ws : M (List AV)) : M AV := ws.bind fun xs => fun _ h Q E => c xs h Q E
theorem call_r {K : PySem.W.Frag} {c : Sem1} {σ : L2.St} {H : Hp} {Q : VK} {xs : List AV} {vs : List V} (t : tE K W (fun _ h Q E => c xs h Q E) σ H Q) (r : RVs K H xs vs) : spC K c vs H Q (WE W σ) := by
  obtain ⟨σa, h, Qa, Ea, ab, q, hq, he⟩ := t
  exact ⟨xs, h, Qa, Ea, r, ab.hp, q, hq, he⟩
theorem xe_call {x : Str} {k : Nat} {c : Sem1} (F : FnT X.prog X.w X.K X.mg X.base k x c) (hr : Room k X.A) (tk : Takes X W) (hg : Gl X x) (ha : XA X W (a :: es) ws) (hdb : (x == ("__debug__" : Str)) = false := by decide)
    (he : starEach (a :: es) X.env = (false, eval a X.env) :: starEach es X.env := by rfl) (hpl : (backTo pos (starEach es X.env)).any (·.1) = false := by rfl) : XE X W (.Call (.Name x p) (a :: es) [] pos) (wCall c ws) := by
  obtain ⟨f, fd, ps, Fo, mg, kp, bd⟩ := F.ex
  exact PE.imp (pe_callS (E := fun σ => WE W σ) Fo hr hg mg kp bd (fun σ => passAt tk σ) ha hdb he hpl) fun σ H Q t => show tA X.K W ws σ H _ from tG.bind t fun xs vs H1 r1 _ t1 => call_r t1 r1
/-! o[i] op= e, o a list or a dict -/
def aIxR (x y : AV) : P1 := fun h Q =>
  (∃ a xs i z, x = .ref a ∧ y = .int i ∧ h a = some (.lst xs) ∧ atI xs i = some z ∧ Q z h) ∨ ∃ a kvs k z, x = .ref a ∧ h a = some (.dic kvs) ∧ keyA y = some k ∧ getA kvs k = some z ∧ Q z h
def tIxR (K : PySem.W.Frag) (o i : V) (H : Hp) (Q : VK) : Prop := ∃ x y, RV K H x o ∧ RV K H y i ∧ tP K (aIxR x y) H Q
theorem get_any (hu : X.A.units + 1 < cLine) : PGet X (tIxR X.K) := by
  intro P s σ H o i ov iv Q I ro ri q
  obtain ⟨x, y, r1, r2, h, Qa, hr, q, hq⟩ := q
  rcases q with ⟨p, xs, i, z, rfl, rfl, e1, e2, q⟩ | ⟨p, kvs, k, z, rfl, e1, e2, e3, q⟩
  · cases r1
    cases r2
    cases ro
    obtain ⟨t, rfl⟩ := ri
    obtain ⟨vs, w1, rs⟩ := hr.st _ _ e1
    obtain ⟨v, he, rv⟩ := atI_v rs e2
    have fin := hq _ _ v H q hr rv .refl
    obtain ⟨its, r, pl, hz⟩ := I.list (SqL.of w1)
    obtain ⟨j, h1, h2, h3, h4, h5⟩ := atI_get he
    obtain ⟨w, ew, rw'⟩ := r.get h2
    have hl := r.length
    have hn := line63
    by_cases h0 : 0 ≤ i
    · have hj : i.toNat = j := by
        rw [seqIndex_of h0 h5] at h1
        exact Option.some.inj h1
      exact wpAny_getItem_list pl.isList h0 (by omega) (by rw [hj]; simpa using ew) ⟨v, H, I, rw', fin⟩
    · have hj : (i + (its.toArray.size : Int)).toNat = j := by
        rw [seqIndex_neg (by omega) h4] at h1
        rw [List.size_toArray, ← hl]
        exact Option.some.inj h1
      exact wpAny_getItem_list_neg pl.isList (by omega) (by rw [List.size_toArray] <;> omega) (by omega) (by rw [hj]; simpa using ew) ⟨v, H, I, rw', fin⟩
  · cases r1
    cases ro
    obtain ⟨ws, w1, rk, ev, g⟩ := dget_of hr e1 e2 r2
    obtain ⟨w, ew, rw'⟩ := (getA_v rk).1 z e3
    rw [ew] at g
    exact d_getItem hu I g ri fun w1 s1 I1 r1 => ⟨w, H, I1, r1, hq _ _ w H q hr rw' .refl⟩
def tIp (K : PySem.W.Frag) (r : AV → AV → P1) (o i : V) (H : Hp) (Q : VK) : Prop := ∃ x y, RV K H x o ∧ RV K H y i ∧ tP K (r x y) H Q
def sAugS (r : AV → AV → P1) (wo wi we : M AV) : WS := sBind wo fun o => sBind wi fun i => sBind (M.prim (aIxR o i)) fun x => sBind we fun y => sBind (M.prim (r x y)) fun z => fun σ h D => aSet o i z h fun h3 => D.nx σ h3
theorem xs_augS {op : Operator} {r : AV → AV → P1} (hu : X.A.units + 1 < cLine) (ho : XE X W a wa) (hi : XE X W b wb) (he : XE X W e we) (hp : XOp X (inplaceOp op) r)
    (ha : ∀ ov iv new, augStore b ov iv new = (do holding [new, ov, iv] (setItem ov iv new); release [new, ov, iv] []; pure .next) := by intros; rfl) : XS X W (.AugAssign (.Subscript a b tpos) op e pos) (sAugS r wa wb we) :=
  PS.imp (ps_augS (tip := tIp X.K r) ho hi (get_any hu) he (fun P s σ H v u vv uu Q I rv ru q => hp P s σ H v u vv uu Q I rv ru q) (set_any hu) ha) fun D σ H t => by
    refine t.bind fun o ov H1 r1 _ t1 => t1.bind fun i iv H2 r2 k2 t2 => ⟨o, i, r1.keep k2, r2, ?_⟩
    have r1 := r1.keep k2
    have step : tE X.K W (M.prim (aIxR o i)) σ H2 (fun v H3 => tE X.K W we σ H3 fun u H4 => tIp X.K r v u H4 fun z H5 => tSt X.K ov iv z H5 fun H6 => D.nx σ H6) := t2.bind fun x v H3 r3 k3 t3 => t3.bind fun y u H4 r4 k4 t4 => by
      refine ⟨x, y, r3.keep k4, r4, ?_⟩
      have t5 : tE X.K W (M.prim (r x y)) σ H4 (fun z H5 => tSt X.K ov iv z H5 fun H6 => D.nx σ H6) := t4.bind fun z zv H5 r5 k5 t5 => by
        obtain ⟨σa, h, Da, ab, q, l⟩ := t5
        exact ⟨o, i, z, h, _, ((r1.keep k3).keep k4).keep k5, ((r2.keep k3).keep k4).keep k5, r5, ab.hp, q, fun h6 H6 q6 hr6 fr6 => l.nx _ _ _ _ q6 ⟨ab.env.keep (fr6.keep ab.hp), hr6⟩ fr6⟩
      exact t5.prim
    exact step.prim
/-! inplace + and - -/
def aIadd : AV → AV → P1
  | .int i, .int j => fun h Q => Q (.int (i + j)) h
  | .str s, .str z => fun h Q => s.length + z.length ≤ sizeLine ∧ Q (.str (s ++ z)) h
  | .ref a, .ref b => fun h Q => ∃ xs, h a = some (.lst xs) ∧ ∃ ys, h b = some (.lst ys) ∧ xs.length + ys.length ≤ sizeLine ∧ Q (.ref a) (aup h a (.lst (xs ++ ys)))
  | _, _ => fun _ _ => False
theorem xo_iadd : XOp X (inplaceOp .Add) aIadd := by
  intro P s σ H v u vv uu Q I rv ru q
  obtain ⟨x, y, r1, r2, h, Qa, hr, q, hq⟩ := q
  cases r1 with
  | int i => cases r2 with
    | int j => exact iop_add P s σ H _ _ vv uu Q I rv ru ⟨i, j, rfl, rfl, hq _ _ _ H q hr (.int _) .refl⟩
    | _ => exact q.elim
  | str i => cases r2 with
    | str j => exact iop_add_str P s σ H _ _ vv uu Q I rv ru ⟨i, j, rfl, rfl, q.1, hq _ _ _ H q.2 hr (.str _) .refl⟩
    | _ => exact q.elim
  | ref a => cases r2 with
    | ref b =>
      obtain ⟨xs, e1, ys, e2, z, q⟩ := q
      obtain ⟨vs, w1, rr1⟩ := hr.st _ _ e1
      obtain ⟨us, w2, rr2⟩ := hr.st _ _ e2
      have k := Kp.lst (K := X.K) (o := .lst (vs ++ us)) w1
      exact iop_ext P s σ H _ _ vv uu Q I rv ru ⟨a, b, vs, us, rfl, rfl, w1, w2, by rw [← rr1.length, ← rr2.length]; exact z, hq _ _ (.ref a) _ q (hr.put k ⟨_, upd_same, (rr1.append rr2).keep k.keep⟩) (.ref a) (.puto k e1)⟩
    | _ => exact q.elim
  | _ => cases r2 <;> exact q.elim
theorem xo_isub : XOp X (inplaceOp .Sub) aSub := xop_int (OpR.of0 iop_sub) fun _ _ _ _ => .int _
/-! list comprehensions; what is raised within one is not served -/
def awipe (σ : AEnv) : List Nat → AEnv
  | [] => σ
  | v :: vs => (awipe σ vs).set v none
theorem awipe_rs {K : PySem.W.Frag} {H : Hp} {σa : AEnv} {σ : L2.St} (r : RS K H σa σ) : ∀ vs : List Nat, RS K H (awipe σa vs) (wipe σ vs)
  | [] => r
  | v :: vs => by
    have ih := awipe_rs r vs
    unfold awipe wipe
    refine ⟨by rw [List.length_set, List.length_set]; exact ih.1, fun i x e => ?_⟩
    by_cases z : v = i
    · subst z
      by_cases l : v < (awipe σa vs).length
      · rw [List.getElem?_set_self l] at e; cases e
      · rw [List.getElem?_eq_none (by rw [List.length_set]; omega)] at e; cases e
    · rw [List.getElem?_set_ne z] at e ⊢
      exact ih.2 i x e
theorem wipe_get (σ : L2.St) : ∀ (vs : List Nat) (i : Nat), (wipe σ vs)[i]? = if i ∈ vs then (if i < σ.length then some none else none) else σ[i]?
  | [], i => by simp [wipe]
  | v :: vs, i => by
    unfold wipe
    by_cases z : v = i
    · subst z
      by_cases l : v < (wipe σ vs).length
      · rw [List.getElem?_set_self l]
        rw [wipe_length] at l
        simp [l]
      · rw [List.getElem?_eq_none (by rw [List.length_set]; omega)]
        rw [wipe_length] at l
        simp [l]
    · rw [List.getElem?_set_ne z, wipe_get σ vs i]
      have : (i ∈ v :: vs) = (i ∈ vs) := by simp [Ne.symm z]
      simp only [this]
theorem wipe_sl {vs : List Nat} {σ σ1 : L2.St} (s : Sl vs (wipe σ vs) σ1) : wipe σ1 vs = wipe σ vs := by
  refine List.ext_getElem? fun i => ?_
  rw [wipe_get, wipe_get]
  have l := s.1
  rw [wipe_length] at l
  rw [l]
  by_cases z : i ∈ vs
  · rw [if_pos z, if_pos z]
  · rw [if_neg z, if_neg z, s.2 i z, wipe_get, if_neg z]
theorem Fr.over {h h1 : AH} {H H1 : Hp} (f : Fr h H h1 H1) {p : Addr} {u : HO} (e : H p = none) : Fr h H h1 (upd H1 p u) := ⟨fun a o e1 e2 n => (upd_ne (ne_of_none e2 e)).trans (f.ext a o e1 e2 n), f.new⟩
def lcGo (src : AH → Prop) (g : WG) (tt : M Bool) (we : M AV) (σ0 : AEnv) : List AV → List AV → AH → (List AV → AH → Prop) → Prop
  | [], acc => fun h Q => src h ∧ Q acc h
  | x :: xs, acc => fun h Q => src h ∧ g x σ0 h (fun σ1 h1 => tt σ1 h1 (fun b h2 => if b = true then we σ1 h2 (fun y h3 => acc.length < sizeLine ∧ lcGo src g tt we σ0 xs (acc ++ [y]) h3 Q) (fun _ _ => False) else lcGo src g tt we σ0 xs acc h2 Q) fun _ _ => False) fun _ _ _ => False
def wLc (wi : M AIt) (g : WG) (tt : M Bool) (we : M AV) (vs : List Nat) : M AV := wi.bind fun p => fun σ h Q _ => lcGo p.2 g tt we (awipe σ vs) p.1 [] h fun acc h1 => ∀ D, h1 D = none → Q (.ref D) (aup h1 D (.lst acc))
abbrev WN : WX := fun _ _ _ _ => False
abbrev XTs (X : Cx) (W : WX) (ifs : List Expr) (w : M Bool) : Prop := PTs X ifs (tT X.K W w)
theorem PTs.imp {ifs : List Expr} {t t' : TT} (h : PTs X ifs t) (i : ∀ σ H Q, t' σ H Q → t σ H Q) : PTs X ifs t' := ⟨fun P s σ H Q I q => h.run P s σ H Q I (i _ _ _ q)⟩
def wYes : M Bool := M.ret true
theorem xts_nil : XTs X W [] wYes := PTs.imp pts_nil fun σ H Q t => t.ret rfl
theorem xts_one {c : Expr} {t : M Bool} (h : XT X W c t) : XTs X W [c] t := pts_one h
theorem takesN : Takes X WN := fun _ _ x => by
  obtain ⟨_, _, _, _, _, _, _, _, _, _, _, _, _, _, _, _, z⟩ := x
  exact z.elim
theorem lc_r {wi : M AIt} {g : WG} {tt : M Bool} {vs : List Nat} {σ : L2.St} {H : Hp} {Q : VK} (t : tE X.K W (wLc wi g tt we vs) σ H Q) : tLc (tG X.K W (ItOk X.K) wi) (tGt X.K WN vs g) (tT X.K WN tt) (tE X.K WN we) vs σ H Q := by
  refine tG.bind t fun p J H1 ok _ t1 => fun D hD => ?_
  obtain ⟨σa, h, Qa, Ea, ab, q, hq, _⟩ := t1
  refine ⟨fun i m H2 => i + m = p.1.length ∧ ∃ acc accV h2, H2 D = some (.lst accV) ∧ RVs X.K H2 acc accV ∧ HR X.K H2 h2 ∧ h2 D = none ∧ Keep X.K H1 H2 ∧ Fr h H1 h2 H2 ∧
      lcGo p.2 g tt we (awipe σa vs) (p.1.drop i) acc h2 (fun acc h1 => ∀ D, h1 D = none → Qa (.ref D) (aup h1 D (.lst acc))), ⟨p.1.length, by omega, [], [], h, upd_same, .nil, ab.hp.new (Kp.fresh hD) (ab.hp.dom hD), ab.hp.dom hD, (Kp.fresh hD).keep, .fresh hD, q⟩, fun i m H2 w => ?_⟩
  obtain ⟨em, acc, accV, h2, e2, ra, hr2, hD2, k2, fr2, q2⟩ := w
  cases hd : p.1.drop i with
  | nil =>
    rw [hd] at q2
    obtain ⟨hs, q2⟩ := q2
    have z := congrArg List.length hd
    rw [List.length_drop, List.length_nil] at z
    refine .inl ⟨(ok H2 h2 k2 hr2 hs).2 i (by omega), hq _ _ (.ref D) H2 (q2 D hD2) ?_ (.ref D) ?_⟩
    · exact ⟨fun a o eo => by
        by_cases z : a = D
        · subst z
          rw [aup_same] at eo
          cases eo
          exact ⟨accV, e2, ra⟩
        · rw [aup_ne z] at eo
          exact hr2.st a o eo, hr2.tb⟩
    · refine ⟨fr2.ext, fun a ea z => ?_⟩
      by_cases y : a = D
      · subst y; exact .inl hD
      · rw [aup_ne y] at z; exact fr2.new a ea z
  | cons x r =>
    rw [hd] at q2
    obtain ⟨hs, q2⟩ := q2
    have z := congrArg List.length hd
    rw [List.length_drop, List.length_cons] at z
    have ex : p.1[i]? = some x := by
      have := List.getElem?_drop (xs := p.1) (i := i) (j := 0)
      rw [hd] at this
      simpa using this.symm
    have er : p.1.drop (i + 1) = r := by
      rw [← List.drop_drop, hd]
      rfl
    obtain ⟨go, yl⟩ := (ok H2 h2 k2 hr2 hs).1 i x ex
    refine .inr ⟨go, fun H3 => i + 1 + (m - 1) = p.1.length ∧ ∃ acc accV h2, H3 D = some (.lst accV) ∧ RVs X.K H3 acc accV ∧ HR X.K H3 h2 ∧ h2 D = none ∧ Keep X.K H1 H3 ∧ Fr h H1 h2 H3 ∧
      lcGo p.2 g tt we (awipe σa vs) (p.1.drop (i + 1)) acc h2 (fun acc h1 => ∀ D, h1 D = none → Qa (.ref D) (aup h1 D (.lst acc))), fun H3 n => ⟨m - 1, by omega, n⟩, fun v H3 y => ?_⟩
    rw [er]
    obtain ⟨rx, hr3, fr3⟩ := yl v H3 y
    have k3 := fr3.keep hr2
    have ab3 : Ab X.K (wipe σ vs) H3 (awipe σa vs) h2 := ⟨((awipe_rs ab.env vs).keep k2).keep k3, hr3⟩
    have eD : ∀ {h' : AH} {H' : Hp}, Fr h2 H2 h' H' → H' D = some (.lst accV) ∧ h' D = none := fun {h' H'} f => by
      refine ⟨f.ext D _ hD2 e2 (fun _ z => by cases z), ?_⟩
      cases w : h' D with
      | none => rfl
      | some o => rcases f.new D hD2 (by rw [w]; simp) with y | ⟨_, y⟩ <;> (rw [e2] at y; cases y)
    refine ⟨x, awipe σa vs, h2, _, _, rx, ab3, q2, fun σa4 h4 σ4 H4 q4 ab4 fr4 sl => ⟨wipe_sl sl, ?_⟩, fun _ _ _ _ _ _ _ z => z.elim⟩
    have k4 := fr4.keep hr3
    refine ⟨σa4, h4, _, _, ab4, q4, fun b h5 b' H5 q5 hr5 eb fr5 => ?_, fun _ _ _ _ _ z => z.elim⟩
    subst eb
    have k5 := fr5.keep ab4.hp
    have f25 := (fr3.trans fr4).trans fr5
    cases b with
    | false =>
      rw [if_neg Bool.false_ne_true] at q5 ⊢
      obtain ⟨w1, w2⟩ := eD f25
      exact ⟨by omega, acc, accV, h5, w1, ((ra.keep k3).keep k4).keep k5, hr5, w2, ((k2.trans k3).trans k4).trans k5, fr2.trans f25, q5⟩
    | true =>
      rw [if_pos rfl] at q5 ⊢
      refine ⟨σa4, h5, _, _, ⟨ab4.env.keep k5, hr5⟩, q5, fun y h6 yv H6 q6 hr6 ry fr6 => ?_, fun _ _ _ _ _ z => z.elim⟩
      obtain ⟨lz, q6⟩ := q6
      have k6 := fr6.keep hr5
      have f26 := f25.trans fr6
      obtain ⟨w1, w2⟩ := eD f26
      have kp := Kp.lst (K := X.K) (o := .lst (accV ++ [yv])) w1
      have ra6 := (((ra.keep k3).keep k4).keep k5).keep k6
      refine ⟨accV, w1, by rw [← ra.length]; exact lz, by omega, acc ++ [y], accV ++ [yv], h6, upd_same, (ra6.append (.cons ry .nil)).keep kp.keep, hr6.new kp w2, w2, (((k2.trans k3).trans k4).trans k5).trans (k6.trans kp.keep), (fr2.trans f26).over hD, q6⟩
theorem xe_lc {tg iter elt : Expr} {ifs : List Expr} {scope : Scope} {own : List (Str × Nat)} {wi : M AIt} {g : WG} {tt : M Bool} {we : M AV} {pos : Pos} (hc : X.calm = true) (hN : X.N.Nodup) (hi : XI X W tg iter wi) (ok : BlkOk X.N X.env.scope scope own)
    (hg : ∀ (s : Shared) (H : Hp) (C : Addr) (cl : List (Str × Addr)) (fp : List Addr), XG (X.blk s H scope (compEnvC scope cl C X.env) fp) WN (own.map (·.2)) tg g) (ht : ∀ (s : Shared) (H : Hp) (C : Addr) (cl : List (Str × Addr)) (fp : List Addr), XTs (X.blk s H scope (compEnvC scope cl C X.env) fp) WN ifs tt)
    (he : ∀ (s : Shared) (H : Hp) (C : Addr) (cl : List (Str × Addr)) (fp : List Addr), XE (X.blk s H scope (compEnvC scope cl C X.env) fp) WN elt we) (hs : ∀ x, foldedSetIterable iter X.env x = pure x := by intro _; rfl) :
    XE X W (.ListComp elt [⟨tg, iter, ifs, 0⟩] scope pos) (wLc wi g tt we (own.map (·.2))) := PE.imp (pe_lc hc hN hi ok hg ht he hs) fun σ H Q t => lc_r t
theorem xs_setLc {i : Nat} {y : Str} {py : Pos} {tg iter elt : Expr} {ifs : List Expr} {scope : Scope} {own : List (Str × Nat)} {wi : M AIt} {g : WG} {tt : M Bool} {we : M AV} {pos spos : Pos} (hc : X.calm = true) (hN : X.N.Nodup) (hy : X.N[i]? = some y) (hyl : X.env.scope.names.lookup y = some .local)
    (hsw : swapsWith (.ListComp elt [⟨tg, iter, ifs, 0⟩] scope pos) (some (.Name y py)) spos.line X.env = pure true) (hi : XI X W tg iter wi) (ok : BlkOk X.N X.env.scope scope own)
    (hg : ∀ (s : Shared) (H : Hp) (C : Addr) (cl : List (Str × Addr)) (fp : List Addr), XG (X.blk s H scope (compEnvC scope cl C X.env) fp) WN (own.map (·.2)) tg g) (ht : ∀ (s : Shared) (H : Hp) (C : Addr) (cl : List (Str × Addr)) (fp : List Addr), XTs (X.blk s H scope (compEnvC scope cl C X.env) fp) WN ifs tt)
    (he : ∀ (s : Shared) (H : Hp) (C : Addr) (cl : List (Str × Addr)) (fp : List Addr), XE (X.blk s H scope (compEnvC scope cl C X.env) fp) WN elt we) (hs : ∀ x, foldedSetIterable iter X.env x = pure x := by intro _; rfl) :
    XS X W (.Assign [.Name y py] (.ListComp elt [⟨tg, iter, ifs, 0⟩] scope pos) spos) (sAsg (wLc wi g tt we (own.map (·.2))) (aName i)) :=
  PS.imp (ps_setLc hc hN hy hyl hsw hi ok hg ht he hs) fun D σ H t => lc_r (t.bind fun x v H1 r1 _ t1 => by
    obtain ⟨σa, h, Da, ab, hw, l⟩ := t1
    exact l.nx _ _ _ _ hw ⟨ab.env.set i r1, ab.hp⟩ .refl)
end
end Lx

/-! Lx: nested defs and lambdas. -/
namespace Lx
open PySem PySem.Spec PyProof.Rows L2 LamX NdefX
variable [LawTb]
section
variable {K : PySem.W.Frag} {H H1 : Hp}
theorem RO.ext {a : Addr} {o : AObj} (k : Keep K H H1) (e : ExtN H H1) (r : RO K H a o) : RO K H1 a o := by
  cases o with
  | lst xs => obtain ⟨vs, h, q⟩ := r; exact ⟨vs, e _ _ h (fun _ z => by cases z), q.keep k⟩
  | dic kvs => obtain ⟨ws, h, q⟩ := r; exact ⟨ws, e _ _ h (fun _ z => by cases z), q.keep k⟩
  | ins c fs => obtain ⟨dx, ws, h, d, q⟩ := r; exact ⟨dx, ws, e _ _ h (fun _ z => by cases z), e _ _ d (fun _ z => by cases z), q.keep k⟩
  | lcl t κ => obtain ⟨c, h, d⟩ := r; exact ⟨c, e _ _ h (fun _ z => by cases z), e _ _ d (fun _ z => by cases z)⟩
  | clo t ws =>
    obtain ⟨κ, c, h, d, l, i, al, q⟩ := r
    refine ⟨κ, c, e _ _ h (fun _ z => by cases z), e _ _ d (fun _ z => by cases z), l, i, fun y b z => ?_, fun j y z => ?_⟩
    · obtain ⟨o, v, h1, h2⟩ := al y b z
      exact ⟨o, v, e _ _ h1 (fun _ z => by cases z), h2⟩
    · obtain ⟨b, o, v, h0, h1, h2, h3⟩ := q j y z
      refine ⟨b, o, v, h0, e _ _ h1 (fun _ z => by cases z), h2, fun x ex => ?_⟩
      obtain ⟨z1, u, e1, e2, e3⟩ := h3 x ex
      exact ⟨z1, u, e1, e2, e3.keep k⟩
theorem ExtN.keep (e : ExtN H H1) : Keep K H H1 := by
  refine ⟨fun a xs q => ?_, fun a xs q => ?_⟩
  · rcases q with (q | ⟨o, q⟩) | q
    · exact .inl (.inl (e _ _ q fun _ z => by cases z))
    · exact .inl (.inr ⟨o, e _ _ q fun _ z => by cases z⟩)
    · exact .inr q
  · rcases q with ⟨o, q⟩ | q
    · exact .inl ⟨o, e _ _ q fun _ z => by cases z⟩
    · exact .inr q
theorem HR.ext {h : AH} (r : HR K H h) (e : ExtN H H1) (t : Tabs (LawTb.tb K) H1) : HR K H1 h := ⟨fun a o q => (r.st a o q).ext (ExtN.keep e) e, t⟩
end
section
variable {X : Cx} {W : WX} {pos : Pos}
/-- a lambda of which nothing is known -/
def wLam0 : M AV := fun _ h Q _ => ∀ p, Q (.ref p) h
theorem xe_lam0 {c P : Addr} {params : Arguments} {body : Expr} {scope : Scope} (TB : TabB X.base X.mg c P) (hcode : X.env.code = .ref c) (hm : (P, X.env.qual ++ "<lambda>") ∈ LawTb.tb X.K) (hu : ∀ p ∈ LawTb.tb X.K, p.1 = P → p.2 = X.env.qual ++ "<lambda>")
    (hdef : defaultsOf params X.env = ([], []) := by rfl) (hfree : ∀ y ∈ scope.names, y.2 = .free → X.env.scope.names.lookup y.1 = some .cell ∨ X.env.scope.names.lookup y.1 = some .free) : XE X W (.Lambda params body scope pos) wLam0 := by
  refine ⟨fun P0 s σ H Q I t => ?_⟩
  obtain ⟨σa, h, Qa, Ea, ab, q, hq, _⟩ := t
  refine lam_make2 I TB hcode hm hu ab.hp.tb hdef (fun y hy e => (hfree y hy e).elim (fun z => I.ok.has _ (.inl z)) fun z => I.ok.has _ (.inr z)) fun f c1 pm ctv H1 s1 I1 eN T1 _ nf _ _ => ?_
  refine ⟨.ref f, H1, I1, rfl, hq _ _ _ H1 (q f) (ab.hp.ext eN T1) (.ref f) ⟨fun a o e1 e2 n => eN a o e2 n, fun a e z => absurd e z⟩⟩
end
end Lx

/-! Lx: chains, and | or | not as values, isinstance, t[::-1]. -/
namespace Lx
open PySem PySem.Spec PyProof.Rows L2
variable [LawTb]
section
variable {X : Cx} {W : WX} {a b c : Expr} {wa wb wc : M AV} {es : List Expr} {pos : Pos}
/-! a op b op' c -/
def wChnV (r r' : AV → AV → P1) (wa wb wc : M AV) : M AV := wa.bind fun x => wb.bind fun y => (M.prim (r x y)).bind fun z => fun σ h Q E => ∃ k, z = .bl k ∧ if k = true then (wc.bind fun w => M.prim (r' y w)) σ h Q E else Q (.bl false) h
theorem chn_r {r r' : AV → AV → P1} {σ : L2.St} {H : Hp} {Q : VK} (t : tE X.K W (wChnV r r' wa wb wc) σ H Q) :
    tChain (fun v u H Q => ∃ x y, RV X.K H x v ∧ RV X.K H y u ∧ tP X.K (r x y) H Q) (fun v u H Q => ∃ x y, RV X.K H x v ∧ RV X.K H y u ∧ tP X.K (r' x y) H Q) (tE X.K W wa) (tE X.K W wb) (tE X.K W wc) σ H Q :=
  tG.bind t fun x v H1 r1 _ t1 => tG.bind t1 fun y u H2 r2 k2 t2 => by
    refine ⟨x, y, r1.keep k2, r2, ?_⟩
    have t3 : tE X.K W (M.prim (r x y)) σ H2 (fun z H3 => ∃ k, z = .bl k ∧ (if k = true then tE X.K W wc σ H3 fun w H4 => ∃ x y, RV X.K H4 x u ∧ RV X.K H4 y w ∧ tP X.K (r' x y) H4 Q else Q (.bl false) H3)) := tG.bind t2 fun z zv H3 r3 k3 t3 => by
      obtain ⟨σa, h, Qa, Ea, ab, ⟨k, e, q⟩, hq⟩ := t3
      subst e
      cases r3
      refine ⟨k, rfl, ?_⟩
      cases k with
      | false =>
        rw [if_neg Bool.false_ne_true] at q ⊢
        exact hq.1 _ _ _ H3 q ab.hp (.bl _) .refl
      | true =>
        rw [if_pos rfl] at q ⊢
        have t4 : tE X.K W (wc.bind fun w => M.prim (r' y w)) σ H3 Q := ⟨σa, h, Qa, Ea, ab, q, hq⟩
        exact tG.bind t4 fun w wv H4 r4 k4 t5 => ⟨y, w, (r2.keep k3).keep k4, r4, t5.prim⟩
    exact t3.prim
theorem xe_chain {op op' : CmpOp} {r r' : AV → AV → P1} (ho : XOp X (compareOp op) r) (ho' : XOp X (compareOp op') r') (ha : XE X W a wa) (hb : XE X W b wb) (hc : XE X W c wc) (hm : lastMarks [op, op'] [b, c] = false := by with_unfolding_all rfl) :
    XE X W (.Compare a [op, op'] [b, c] pos) (wChnV r r' wa wb wc) := PE.imp (pe_chain ho ho' ha hb hc hm) fun σ H Q t => chn_r t
def wBl (w : M AV) : M Bool := w.bind fun x => fun _ h Q _ => ∃ k, x = .bl k ∧ Q k h
theorem wbl_r {w : M AV} {σ : L2.St} {H : Hp} {Q : Bool → Hp → Prop} (t : tT X.K W (wBl w) σ H Q) : tE X.K W w σ H (fun v H1 => ∃ k, v = .bl k ∧ Q k H1) := tG.bind t fun x v H1 r1 _ t1 => by
  obtain ⟨σa, h, Qa, Ea, ab, ⟨k, e, q⟩, hq, _⟩ := t1
  subst e
  cases r1
  exact ⟨k, rfl, hq _ _ _ H1 q ab.hp rfl .refl⟩
theorem xt_chain {op op' : CmpOp} {r r' : AV → AV → P1} (ho : XOp X (compareOp op) r) (ho' : XOp X (compareOp op') r') (ha : XE X W a wa) (hb : XE X W b wb) (hc : XE X W c wc) (hm : lastMarks [op, op'] [b, c] = false := by with_unfolding_all rfl) :
    XT X W (.Compare a [op, op'] [b, c] pos) (wBl (wChnV r r' wa wb wc)) := PT.imp (pt_chain ho ho' ha hb hc hm) fun σ H Q t => chn_r (wbl_r t)
/-! values of bools -/
variable {rest : List Expr}
def wAndV (wa wb : M AV) : M AV := wa.bind fun x => fun σ h Q E => ∃ k, x = .bl k ∧ if k = true then wb σ h Q E else Q (.bl false) h
def wOrV (wa wb : M AV) : M AV := wa.bind fun x => fun σ h Q E => ∃ k, x = .bl k ∧ if k = true then Q (.bl true) h else wb σ h Q E
def wNotV (wa : M AV) : M AV := wa.bind fun x => fun σ h Q E => ∃ k, x = .bl k ∧ Q (.bl (!k)) h
theorem xe_one {op} (h : XE X W a wa) : XE X W (.BoolOp op [a] pos) wa := pe_one h
theorem xe_and (ha : XE X W a wa) (hb : XE X W (.BoolOp .And (b :: rest) pos) wb) : XE X W (.BoolOp .And (a :: b :: rest) pos) (wAndV wa wb) := PE.imp (pe_and ha hb) fun σ H Q t => tG.bind t fun x v H1 r1 _ t1 => by
  obtain ⟨σa, h, Qa, Ea, ab, ⟨k, e, q⟩, hq⟩ := t1
  subst e
  cases r1
  refine ⟨k, rfl, ?_⟩
  cases k with
  | false =>
    rw [if_neg Bool.false_ne_true] at q ⊢
    exact hq.1 _ _ _ H1 q ab.hp (.bl _) .refl
  | true =>
    rw [if_pos rfl] at q ⊢
    exact ⟨σa, h, Qa, Ea, ab, q, hq⟩
theorem xe_or (ha : XE X W a wa) (hb : XE X W (.BoolOp .Or (b :: rest) pos) wb) : XE X W (.BoolOp .Or (a :: b :: rest) pos) (wOrV wa wb) := PE.imp (pe_or ha hb) fun σ H Q t => tG.bind t fun x v H1 r1 _ t1 => by
  obtain ⟨σa, h, Qa, Ea, ab, ⟨k, e, q⟩, hq⟩ := t1
  subst e
  cases r1
  refine ⟨k, rfl, ?_⟩
  cases k with
  | true =>
    rw [if_pos rfl] at q ⊢
    exact hq.1 _ _ _ H1 q ab.hp (.bl _) .refl
  | false =>
    rw [if_neg Bool.false_ne_true] at q ⊢
    exact ⟨σa, h, Qa, Ea, ab, q, hq⟩
theorem xe_not (ha : XE X W a wa) : XE X W (.UnaryOp .Not a pos) (wNotV wa) := PE.imp (pe_not ha) fun σ H Q t => tG.bind t fun x v H1 r1 _ t1 => by
  obtain ⟨σa, h, Qa, Ea, ab, ⟨k, e, q⟩, hq⟩ := t1
  subst e
  cases r1
  exact ⟨k, rfl, hq.1 _ _ _ H1 q ab.hp (.bl _) .refl⟩
/-! isinstance(x, T), T a built-in type -/
def tyA (h : AH) : AV → Option String
  | .non => some "NoneType"
  | .bl _ => some "bool"
  | .int _ => some "int"
  | .str _ => some "str"
  | .tup _ => some "tuple"
  | .rol _ => some "list"
  | .ref a => match h a with
    | some (.lst _) => some "list"
    | some (.dic _) => some "dict"
    | _ => none
theorem tyA_v {K : PySem.W.Frag} {H : Hp} {h : AH} {x : AV} {v : V} {n : String} (hr : HR K H h) (r : RV K H x v) (e : tyA h x = some n) : TyX K H v (.type n) := by
  cases r with
  | non => cases e; exact .base .non
  | bl b => cases e; exact .base (.bl b)
  | int b => cases e; exact .base (.int b)
  | str b => cases e; exact .base (.str b)
  | tup s _ =>
    cases e
    rcases s with (s | ⟨o, s⟩) | ⟨o, its, n, s, c, _⟩
    · exact .base (.tup s)
    · exact .fTuple s
    · exact .kTuple s c
  | rol s _ =>
    cases e
    rcases s with ⟨o, s⟩ | ⟨o, its, n, s, c, _⟩
    · exact .base (.frz s)
    · exact .kList s c
  | ref p =>
    dsimp only [tyA] at e
    cases w : h p with
    | none => rw [w] at e; cases e
    | some o =>
      rw [w] at e
      cases o with
      | lst ys => cases e; obtain ⟨vs, e1, rs⟩ := hr.st _ _ w; exact .base (.lst e1)
      | dic kvs => cases e; obtain ⟨ws, e1, rk⟩ := hr.st _ _ w; exact .base (.dK e1)
      | _ => cases e
/-- bool lies below int -/
def subTy (n T : String) : Bool := n == T || (n == "bool" && T == "int")
def wIsi (T : String) (wa : M AV) : M AV := wa.bind fun x => fun _ h Q _ => ∃ n, tyA h x = some n ∧ Q (.bl (subTy n T)) h
theorem tyA_cases {h : AH} {x : AV} {n : String} (e : tyA h x = some n) : n = "NoneType" ∨ n = "bool" ∨ n = "int" ∨ n = "str" ∨ n = "tuple" ∨ n = "list" ∨ n = "dict" := by
  cases x with
  | ref a =>
    dsimp only [tyA] at e
    cases w : h a with
    | none => rw [w] at e; cases e
    | some o => rw [w] at e; cases o <;> cases e <;> simp
  | _ => cases e; simp
theorem kit1 (K : PySem.W.Frag) {n T : String} (hT : T = "int" ∨ T = "bool" ∨ T = "str" ∨ T = "tuple" ∨ T = "list") (hn : n = "NoneType" ∨ n = "bool" ∨ n = "int" ∨ n = "str" ∨ n = "tuple" ∨ n = "list" ∨ n = "dict") :
    PySem.W.kitOne K (.type n) (.type T) = some (subTy n T) := by
  rcases hT with rfl | rfl | rfl | rfl | rfl <;> rcases hn with rfl | rfl | rfl | rfl | rfl | rfl | rfl <;> rfl
theorem xe_isi {T : String} {x : Str} {p p2 : Pos} (hT : T = "int" ∨ T = "bool" ∨ T = "str" ∨ T = "tuple" ∨ T = "list") (hg : Gl X "isinstance") (hm : X.mg "isinstance" = none) (hv : bootBuiltins "isinstance" = some (.builtin "isinstance")) (hg2 : Gl X x) (hm2 : X.mg x = none) (hv2 : bootBuiltins x = some (.type T)) (ha : XE X W a wa)
    (hn2 : x ≠ "__name__" := by decide) (hdb : (x == ("__debug__" : Str)) = false := by decide) (he1 : starEach [.Name x p2] X.env = (false, eval (.Name x p2) X.env) :: starEach [] X.env := by rfl)
    (he : starEach [a, .Name x p2] X.env = (false, eval a X.env) :: starEach [.Name x p2] X.env := by rfl) (hpl : (backTo pos (starEach [.Name x p2] X.env)).any (·.1) = false := by rfl) : XE X W (.Call (.Name "isinstance" p) [a, .Name x p2] [] pos) (wIsi T wa) :=
  PE.imp (pe_callB call_isi hg hm hv (pa_cons ha (pa_cons (pe_bltn (v := .ty T) hg2 hm2 hv2 rfl hn2 hdb) pa_nil he1) he) (by decide) (by decide) he hpl) fun σ H Q t => show tE X.K W wa σ H _ from tG.bind t fun y v H1 r1 _ t1 => by
    obtain ⟨σa, h, Qa, Ea, ab, ⟨n, e, q⟩, hq⟩ := t1
    exact ⟨v, .ty T, .type n, .type T, _, rfl, .ty T, tyA_v ab.hp r1 e, kit1 X.K hT (tyA_cases e), hq.1 _ _ _ H1 q ab.hp (.bl _) .refl⟩
end
end Lx

/-! Lx: e[::-1] of a list or a tuple. -/
namespace Lx
open PySem PySem.Spec PyProof.Rows L2 HT
variable [LawTb]
section
variable {prog : Program} {w : World} {A : Around} {E : Value → Shared → Prop} {s : Shared}
theorem adj_back (n : Nat) : Builtin.Slice.sliceAdjust none none (-1) (n : Int) = ((n : Int) - 1, -1) := by
  simp [Builtin.Slice.sliceAdjust]
theorem pl_back (n : Nat) : Builtin.Slice.slicePlaces ((n : Int) - 1) (-1) (-1) = n := by
  unfold Builtin.Slice.slicePlaces
  rw [if_neg (by decide)]
  by_cases h : (n : Int) - 1 > -1
  · rw [if_pos h]
    have : ((n : Int) - 1 - -1 - 1) / (- -1) + 1 = n := by
      rw [show (- -1 : Int) = 1 by decide, Int.ediv_one]
      omega
    rw [this]
    rfl
  · rw [if_neg h]
    omega
theorem sl_back {sl : Addr} {vs : Value} {n : Nat} {Q : Int × Int × Nat → Shared → Prop} (hs : s.heap.IsSliceOf sl .none .none vs) (ps : IsPart vs (some (-1))) (h : Q ((n : Int) - 1, -1, n) s) :
    wpAny (model prog w) A (Builtin.Slice.sliceApplied (.ref sl) (pure (n : Int))) Q E s := by
  obtain ⟨os, hos, hcs, hds⟩ := id hs
  unfold Builtin.Slice.sliceApplied Builtin.Slice.sliceFields
  refine wpAny_bind (wpAny_bind (wpAny_field hos hds (x := .none) rfl (wpAny_bind (wpAny_field hos hds (x := .none) rfl (wpAny_bind (wpAny_field hos hds (x := vs) rfl (wpAny_pure ?_)))))))
  refine wpAny_bind (slicePart_ ps ?_)
  show wpAny _ _ (if ((-1 : Int) == 0) = true then _ else _) _ _ s
  rw [if_neg (by decide)]
  refine wpAny_bind (slicePart_none (wpAny_bind (slicePart_none (wpAny_bind (wpAny_pure ?_)))))
  show wpAny _ _ (match Builtin.Slice.sliceAdjust none none (-1) (n : Int) with | (lo, hi) => pure (lo, (-1 : Int), Builtin.Slice.slicePlaces lo hi (-1))) _ _ s
  rw [adj_back]
  show wpAny _ _ (pure ((n : Int) - 1, (-1 : Int), Builtin.Slice.slicePlaces ((n : Int) - 1) (-1) (-1))) _ _ s
  rw [pl_back]
  exact wpAny_pure h
theorem fm_congr {α β : Type} {f g : α → Option β} : ∀ {l : List α}, (∀ x ∈ l, f x = g x) → l.filterMap f = l.filterMap g
  | [], _ => rfl
  | x :: l, h => by rw [List.filterMap_cons, List.filterMap_cons, h x List.mem_cons_self, fm_congr fun y hy => h y (List.mem_cons_of_mem _ hy)]
theorem pick_back (xs : Array Value) : ((List.range xs.size).filterMap fun (m : Nat) => xs[(((xs.size : Int) - 1) + (m : Int) * (-1)).toNat]?).toArray = xs.toList.reverse.toArray := by
  have e : (List.range xs.size).filterMap (fun (m : Nat) => xs[(((xs.size : Int) - 1) + (m : Int) * (-1)).toNat]?) = ((List.range xs.size).map fun k => xs.size - 1 - k).filterMap (xs[·]?) := by
    rw [List.filterMap_map]
    refine fm_congr fun m hm => ?_
    have := List.mem_range.mp hm
    have z : (((xs.size : Int) - 1) + (m : Int) * (-1)).toNat = xs.size - 1 - m := by omega
    rw [z]; rfl
  rw [e, PySem.W.krv_range, List.filterMap_reverse, PySem.W.krv_all]
theorem item_back {t sl : Addr} {items : Array Value} {vs : Value} {Q : Value → Shared → Prop} (ht : IsTup s.heap t items) (hs : s.heap.IsSliceOf sl .none .none vs) (ps : IsPart vs (some (-1)))
    (h : Q (.ref s.heap.objs.size) { s with heap := s.heap.push { cls := .type "tuple", data := .seq items.toList.reverse.toArray } }) (hsz : items.size ≤ sizeLine) : wpAny (model prog w) A (getItem (.ref t) (.ref sl)) Q E s := by
  have hz : sizeOk (.seq items.toList.reverse.toArray) := by
    show items.toList.reverse.toArray.size ≤ sizeLine
    rw [List.size_toArray, List.length_reverse, Array.length_toList]
    exact hsz
  obtain ⟨os, hos, hcs, hds⟩ := id hs
  have hTs : s.TypeIs (.ref sl) "slice" := ⟨os, hos, hcs⟩
  unfold getItem
  try with_reducible refine wpAny_holding ?_
  first | refine wpAny_bind (wpAny_pure ?_) | skip
  refine wpAny_bind (wpAny_sequenceKey ht.typeIs (by decide) ?_)
  refine wpAny_bind (wpAny_callSpecial?_slot (name := Str.ofString "__getitem__") ht.typeIs PyProof.Rows.slot_tuple_getitem (wpAny_call_entry PyProof.Rows.slot_tuple_getitem ht.typeIs entry_tuple_getitem ?_ (args_tuple_getitem _ _)))
  show wpAny _ _ (Builtin.Tuple.tupleItemsOf (.ref t) >>= _) _ _ s
  refine wpAny_bind (tupleItemsOf_ ht ?_)
  refine wpAny_bind (wpAny_typeOf hTs ?_)
  rw [if_pos (by decide)]
  refine wpAny_bind (sl_back hs ps ?_)
  have no : ¬ ((((items.size : Int) - 1) == 0 && (-1 : Int) == 1 && items.size == items.size) = true) := by simp
  show wpAny _ _ (if (((items.size : Int) - 1) == 0 && (-1 : Int) == 1 && items.size == items.size) = true then _ else _) _ _ s
  rw [if_neg no, pick_back]
  first
    | exact wpAny_bind (m := Builtin.Tuple.tupleExact _) (wpAny_newObj_type (wpAny_pure ⟨_, rfl, wpAny_pure h⟩) hz)
    | exact wpAny_bind (m := Builtin.Tuple.tupleExact _) (wpAny_newObj_type (wpAny_bind (wpAny_pure (wpAny_pure ⟨_, rfl, wpAny_pure h⟩))) hz)
    | exact wpAny_bind (wpAny_bind (m := Builtin.Tuple.tupleExact _) (wpAny_newObj_type (wpAny_pure (wpAny_pure ⟨_, rfl, wpAny_pure h⟩)) hz))
    | exact wpAny_bind (wpAny_bind (m := Builtin.Tuple.tupleExact _) (wpAny_newObj_type (wpAny_pure ⟨_, rfl, wpAny_pure h⟩) hz))
end
section
variable {X : Cx} {W : WX} {e : Expr} {we : M AV} {k : Nat} {p1 p2 p3 pos : Pos}
theorem pe_back {te : TE} (he : PE X e te) : PE X (.Subscript e (.Slice none none (some (.UnaryOp .USub (.Constant (.int 1) k p1) p2)) p3) pos) (fun σ H Q => te σ H fun x H1 =>
    (∃ a xs, x = .ref a ∧ SqL X.K H1 a xs ∧ ∀ p, H1 p = none → Q (.ref p) (upd H1 p (.lst xs.reverse))) ∨ ∃ a xs, x = .ref a ∧ SqT X.K H1 a xs ∧ ∀ p, H1 p = none → Q (.ref p) (upd H1 p (.tup xs.reverse))) := by
  refine ⟨fun P s σ H Q I q0 => ?_⟩
  refine Subscript_ (thn (he.run P s σ H _ I q0) fun v s1 ⟨x, H1, I1, r1, q1⟩ => ?_)
  have hst : PO X (some (.UnaryOp .USub (.Constant (.int 1) k p1) p2)) (tPart (tUn (rU fun i => .int (-i)) (tC (.int 1)))) := po_some (pe_un un_neg pe_int)
  refine wpAny_Slice (thn (po_none.run P s1 σ H1 (fun o H2 => o = none ∧ H2 = H1) I1 ⟨rfl, rfl⟩) fun vl s2 ⟨l, H2, I2, pl, el, e2⟩ => ?_)
  subst el e2
  refine thn (po_none.run P s2 σ H2 (fun o H3 => o = none ∧ H3 = H2) I2 ⟨rfl, rfl⟩) fun vu s3 ⟨u, H3, I3, pu, eu, e3⟩ => ?_
  subst eu e3
  refine thn (hst.run P s3 σ H3 (fun o H4 => o = some (-1) ∧ H4 = H3) I3 ⟨1, rfl, -1, rfl, rfl, rfl⟩) fun vs s4 ⟨o, H4, I4, ps, eo, e4⟩ => ?_
  subst eo e4
  have I5 : L2.Inv X P σ H4 { s4 with heap := s4.heap.push { cls := .type "slice", data := .fields #[vl, vu, vs] } } := I4.kept (t' := s4.toks) fun b ob q => Heap.get?_push_of_some _ q
  cases pl
  cases pu
  rcases q1 with ⟨a, xs, ex, hx, q⟩ | ⟨a, xs, ex, hx, q⟩
  · subst ex
    cases r1
    obtain ⟨its, r, ht, hz⟩ := I5.list hx
    have hlen := r.length
    show wpAny (model X.prog X.w) X.A (subscriptTail e (.Slice none none (some (.UnaryOp .USub (.Constant (.int 1) k p1) p2)) p3) (.ref a) (.ref s4.heap.objs.size)) (EP X P σ Q) X.xe { s4 with heap := s4.heap.push { cls := .type "slice", data := .fields #[.none, .none, vs] } }
    refine tail_any (ops := [.ref a, .ref s4.heap.objs.size]) ht.isList.typeIs (PySem.slot_list_getitem.lookup) ?_ (by with_unfolding_all rfl)
    refine wpAny_getItem_list_slice ht.isList (Heap.IsSliceOf.new _ _ _ vs) .none .none ps (by decide) ?_ (by rw [List.size_toArray]; omega)
    rw [PySem.W.krv_pick]
    refine ⟨.ref _, _, I5.laid (t' := s4.toks) (o := .lst xs.reverse) (fun b ob q => Heap.get?_push_of_some _ q) (Nat.le_refl _) ?_, rfl, q _ (I5.hok.fresh (Nat.le_refl _))⟩
    exact ⟨by rw [List.length_reverse]; exact hz, _, 0, r.reverse, Heap.get?_push_size _ rfl⟩
  · subst ex
    cases r1
    obtain ⟨its, r, ht, hz⟩ := I5.tuple hx
    have hlen := r.length
    show wpAny (model X.prog X.w) X.A (subscriptTail e (.Slice none none (some (.UnaryOp .USub (.Constant (.int 1) k p1) p2)) p3) (.ref a) (.ref s4.heap.objs.size)) (EP X P σ Q) X.xe { s4 with heap := s4.heap.push { cls := .type "slice", data := .fields #[.none, .none, vs] } }
    refine tail_any (ops := [.ref a, .ref s4.heap.objs.size]) ht.typeIs (PyProof.Rows.slot_tuple_getitem.lookup) ?_ (by with_unfolding_all rfl)
    refine item_back ht (Heap.IsSliceOf.new _ _ _ vs) ps ?_ (by rw [List.size_toArray]; omega)
    refine ⟨.ref _, _, I5.laid (t' := s4.toks) (o := .tup xs.reverse) (fun b ob q => Heap.get?_push_of_some _ q) (Nat.le_refl _) ?_, rfl, q _ (I5.hok.fresh (Nat.le_refl _))⟩
    exact ⟨by rw [List.length_reverse]; exact hz, its.reverse, r.reverse, _, Heap.get?_push_size _ rfl, rfl, 0, rfl⟩
def aRev (x : AV) : P1 := fun h Q => match x with
  | .tup xs => Q (.tup xs.reverse) h
  | .rol xs => ∀ p, h p = none → Q (.ref p) (aup h p (.lst xs.reverse))
  | .ref a => ∃ xs, h a = some (.lst xs) ∧ ∀ p, h p = none → Q (.ref p) (aup h p (.lst xs.reverse))
  | _ => False
theorem xe_rev (he : XE X W e we) : XE X W (.Subscript e (.Slice none none (some (.UnaryOp .USub (.Constant (.int 1) k p1) p2)) p3) pos) (wUn aRev we) :=
  PE.imp (pe_back he) fun σ H Q t => tG.bind t fun x v H3 r _ t3 => by
    have t := t3.prim
    cases r with
    | @tup p xs vs hs rs =>
      have t : tP X.K (fun h Q => Q (.tup xs.reverse) h) H3 Q := t
      exact .inr ⟨p, vs, rfl, hs, fun q eq => t.under eq (.tup (SqT.of upd_same) (rs.reverse.keep (Kp.fresh (K := X.K) eq).keep))⟩
    | @rol p xs vs hs rs =>
      have t : tP X.K (fun h Q => ∀ p, h p = none → Q (.ref p) (aup h p (.lst xs.reverse))) H3 Q := t
      exact .inl ⟨p, vs, rfl, hs.l, fun q eq => t.alloc eq ⟨_, upd_same, rs.reverse.keep (Kp.fresh (K := X.K) eq).keep⟩⟩
    | ref p =>
      have t : tP X.K (fun h Q => ∃ xs, h p = some (.lst xs) ∧ ∀ p, h p = none → Q (.ref p) (aup h p (.lst xs.reverse))) H3 Q := t
      obtain ⟨xs, t⟩ := t.ex
      obtain ⟨⟨vs, e1, rs⟩, t⟩ := t.at
      exact .inl ⟨p, vs, rfl, SqL.of e1, fun q eq => t.alloc eq ⟨_, upd_same, rs.reverse.keep (Kp.fresh (K := X.K) eq).keep⟩⟩
    | _ => exact t.no.elim
end
end Lx

/-! Lx: what is never come to; a def's body with its code object; a law's end. -/
namespace Lx
open PySem PySem.Spec PyProof.Rows L2 LamX NdefX
theorem lim_of {A : Around} {k : Nat} (hr : Room k A) : A.units + (16 * k + 190) < cLine := by have := hr.un; omega
variable [LawTb]
section
variable {X : Cx} {W : WX}
/-- code that is never come to -/
def wNo : M AV := fun _ _ _ _ => False
def sNo : WS := fun _ _ _ => False
theorem xe_no {e : Expr} : XE X W e wNo := ⟨fun _ _ _ _ _ _ ⟨_, _, _, _, _, z, _⟩ => z.elim⟩
theorem xs_no {e : Stmt} : XS X W e sNo := ⟨fun _ _ _ _ _ _ ⟨_, _, _, _, z, _⟩ => z.elim⟩
def wDict0 : M AV := fun _ h Q _ => ∀ p, h p = none → Q (.ref p) (aup h p (.dic []))
theorem xe_dict0 {pos : Pos} : XE X W (.Dict [] [] pos) wDict0 := PE.imp pe_dnewK fun σ H Q t p e => tG.alloc t e ⟨[], upd_same, .nil⟩ (.ref p)
end
section
variable {P : Program} {w : World} {K : PySem.W.Frag} {mg : Str → Option Value} {base : Heap}
/-- as fnt_of; the body knows its def's code object -/
theorem fnt_ofC {p : Str × Option Str} {x qual : Str} {params : Arguments} {body : List Stmt} {scope : Scope} {fd : FuncData} {N ps : List Str} {k n m : Nat} {ws : WS} (F : FunD K x qual params body scope [] [] (He.fAd K p) fd) (S : FnScope N ps scope) (hn : ps.length = n) (hm : N.length = m)
    (hb : ∀ (A : Around) (outer : List Env) (s : Shared) (H : Hp) (E : XK), Room k (A.deeper (envOfC qual scope s.heap.objs.size (He.fAd K p) (.ref (He.codeOf K p)))) →
      Takes (cxOf (L2.CX P w) P w K mg base N qual scope (He.fAd K p) (.ref (He.codeOf K p)) A outer s H E) (fun c d _ H => E c d H) → PassesOwn (model P w) (A.deeper (envOfC qual scope s.heap.objs.size (He.fAd K p) (.ref (He.codeOf K p)))) (envOfC qual scope s.heap.objs.size (He.fAd K p) (.ref (He.codeOf K p))) (cxOf (L2.CX P w) P w K mg base N qual scope (He.fAd K p) (.ref (He.codeOf K p)) A outer s H E).xe →
      XSs (cxOf (L2.CX P w) P w K mg base N qual scope (He.fAd K p) (.ref (He.codeOf K p)) A outer s H E) (fun c d _ H => E c d H) body ws) :
    FnOk P w K mg base (L2.CX P w) (k + 1) (He.fAd K p) fd ps (spC K (fnC n m ws)) := by
  subst hn hm
  obtain ⟨oc, od, dV, kV, doc, pm, an, cdv, ct, osl, rfl, lk, hcd, _, _⟩ := F.ex
  obtain ⟨c, rfl⟩ := He.codeIn_ref hcd
  have ec : c = He.codeOf K p := (He.codeOf_eq lk rfl).symm
  subst ec
  refine fn_of lk hcd S (fun vs H Q E ⟨_, _, _, _, ra, _, h, _⟩ => ra.length.symm.trans h.1) fun A outer s H vs Q E hr q => ?_
  obtain ⟨args, h, Qa, Ea, ra, hh, ⟨la, hw⟩, hq, he⟩ := q
  refine ⟨_, hb A outer s H E hr (takes_of rfl rfl rfl rfl) (passes_of rfl), _, h, _, ⟨la ▸ ra.start, hh⟩, hw, ?_⟩
  refine ⟨fun σa h1 σ H1 q ab fr => ?_, fun x h1 v H1 q r1 rv fr => ?_, fun _ _ _ _ z => z.elim, fun _ _ _ _ z => z.elim, fun x σa h1 c d σ H1 q ab rx fr => ?_⟩
  · obtain ⟨h2, l, q⟩ := q
    exact hq _ _ .non H1 q (ab.hp.le l) .non (fr.le l)
  · obtain ⟨h2, l, q⟩ := q
    exact hq _ _ v H1 q (r1.le l) rv (fr.le l)
  · obtain ⟨h2, l, q⟩ := q
    exact he _ _ c d H1 q (ab.hp.le l) rx (fr.le l)
end
/-- a module's flat tuple as a tree -/
def dvA : He.Dv → Option AV
  | .int i => some (.int i)
  | .str x => some (.str x)
  | .bl b => some (.bl b)
  | .non => some .non
  | _ => none
theorem rvs_dv (K : PySem.W.Frag) (H : Hp) : ∀ (ds : List He.Dv) (xs : List AV), ds.mapM dvA = some xs → RVs K H xs (ds.map (He.Dv.v K))
  | [], xs, e => by
    simp at e
    subst e
    exact .nil
  | d :: ds, xs, e => by
    rw [List.mapM_cons] at e
    cases h1 : dvA d with
    | none => rw [h1] at e; cases e
    | some x =>
      cases h2 : ds.mapM dvA with
      | none => rw [h1, h2] at e; cases e
      | some ys =>
        rw [h1, h2] at e
        cases e
        refine .cons ?_ (rvs_dv K H ds ys h2)
        cases d <;> cases h1
        · exact .non
        · exact .bl _
        · exact .int _
        · exact .str _
theorem rv_tupB {K : PySem.W.Frag} {x : Str} {ds : List He.Dv} {xs : List AV} (h : He.tupB K x ds = true) (e : ds.mapM dvA = some xs) (H : Hp) : RV K H (.tup xs) (.ref (He.ga K x)) := .tup (He.tupB_ok h H) (rvs_dv K H ds xs e)
/-- the script: a list of ints -/
def IsScript (h : AH) (x : AV) (ns : List Int) : Prop := x = .rol (ns.map AV.int) ∨ ∃ a, x = .ref a ∧ h a = some (.lst (ns.map AV.int))
theorem rvs_ints (K : PySem.W.Frag) (H : Hp) : ∀ ns : List Int, RVs K H (ns.map AV.int) (ns.map V.int)
  | [] => .nil
  | n :: ns => .cons (.int n) (rvs_ints K H ns)
theorem law_sp {K : PySem.W.Frag} {c : Sem1} {H : Hp} {a : Addr} {ns : List Int} (ht : ∀ p ∈ LawTb.tb K, H p.1 = some (.tbl #[])) (hS : SqL K H a (ns.map V.int)) (hl : ∀ x h, IsScript h x ns → c [x] h (fun v _ => v = .bl true) fun _ _ => False) :
    spC K c [.ref a] H (fun v _ => v = .bl true) fun _ _ _ => False := by
  have tb : Tabs (LawTb.tb K) H := fun p hp => TabS.nil (ht p hp)
  have fin : ∀ (x : AV) (h1 : AH) (v : V) (H1 : Hp), x = .bl true → HR K H1 h1 → RV K H1 x v → (∃ h : AH, Fr h H h1 H1) → v = .bl true := fun x h1 v H1 e _ r _ => by
    subst e
    cases r
    rfl
  have rol : SqR K H a (ns.map V.int) → spC K c [.ref a] H (fun v _ => v = .bl true) fun _ _ _ => False := fun s =>
    ⟨[.rol (ns.map AV.int)], fun _ => none, _, _, .cons (.rol s (rvs_ints K H ns)) .nil, ⟨fun _ _ e => (by cases e), tb⟩, hl _ _ (.inl rfl), fun x h1 v H1 q r rv fr => fin x h1 v H1 q r rv ⟨_, fr⟩, fun _ _ _ _ _ z => z.elim⟩
  rcases hS with (h | ⟨o, h⟩) | h
  · refine ⟨[.ref a], fun b => if b = a then some (.lst (ns.map AV.int)) else none, _, _, .cons (.ref a) .nil, ⟨fun b o e => ?_, tb⟩, hl _ _ (.inr ⟨a, rfl, if_pos rfl⟩), fun x h1 v H1 q r rv fr => fin x h1 v H1 q r rv ⟨_, fr⟩, fun _ _ _ _ _ z => z.elim⟩
    by_cases z : b = a
    · subst z
      rw [if_pos rfl] at e
      cases e
      exact ⟨_, h, rvs_ints K H ns⟩
    · rw [if_neg z] at e
      cases e
  · exact rol (.inl ⟨o, h⟩)
  · exact rol (.inr h)
end Lx

/-! Lx: reading by rewriting. -/
namespace Lx
open PySem PySem.Spec PyProof.Rows L2
/-! strings -/
theorem os_inj (a b : String) : (Str.ofString a = Str.ofString b) ↔ a = b := by
  rw [Str.ofString_eq_toList, Str.ofString_eq_toList]
  refine ⟨fun h => ?_, fun h => by rw [h]⟩
  have h1 := congrArg (fun z : Str => z.cps.toList) h
  have h2 : a.toList.map Char.toNat = b.toList.map Char.toNat := by simpa using h1
  have h3 : a.toList = b.toList := (List.map_inj_right (fun x y q => Char.ext (UInt32.toNat.inj q))).mp h2
  exact String.ext_iff.mpr h3
@[simp] theorem os_eq (a b : String) : (Str.ofString a = Str.ofString b) ↔ a = b := os_inj a b
@[simp] theorem os_beq (a b : String) : (Str.ofString a == Str.ofString b) = (a == b) := by
  rw [Bool.eq_iff_iff, beq_iff_eq, beq_iff_eq]
  exact os_inj a b
@[simp] theorem os_ok (a : String) : PyData.strOk (Str.ofString a) = true := by
  rw [Str.ofString_eq_toList]
  unfold PyData.strOk
  simp only [List.all_toArray, List.all_map, List.all_eq_true]
  intro c _
  have := c.valid
  simp only [Function.comp, decide_eq_true_eq, UInt32.isValidChar, Nat.isValidChar, Char.toNat] at this ⊢
  omega
/-! items -/
theorem atI_nat {α : Type} (xs : List α) (n : Nat) : atI xs (n : Int) = xs[n]? := by
  unfold atI ixN
  rw [if_pos (by omega)]
  by_cases h : (n : Int) < xs.length
  · rw [if_pos h]; rfl
  · rw [if_neg h, List.getElem?_eq_none (by omega)]; rfl
@[simp] theorem atI_0 {α : Type} (x : α) (xs : List α) : atI (x :: xs) 0 = some x := atI_nat (x :: xs) 0
@[simp] theorem atI_1 {α : Type} (x y : α) (xs : List α) : atI (x :: y :: xs) 1 = some y := atI_nat (x :: y :: xs) 1
@[simp] theorem atI_2 {α : Type} (x y z : α) (xs : List α) : atI (x :: y :: z :: xs) 2 = some z := atI_nat (x :: y :: z :: xs) 2
@[simp] theorem atI_3 {α : Type} (x y z w : α) (xs : List α) : atI (x :: y :: z :: w :: xs) 3 = some w := atI_nat (x :: y :: z :: w :: xs) 3
theorem atI_m1 {α : Type} (xs : List α) (y : α) : atI (xs ++ [y]) (-1) = some y := by
  unfold atI ixN
  rw [if_neg (by omega), if_pos (by simp; omega)]
  have e : (-1 + (((xs ++ [y]).length : Nat) : Int)).toNat = xs.length := by simp; omega
  simp only [Option.bind_some]
  rw [e]
  simp
/-! trees -/
mutual
/-- no references, sound text -/
def okT : AV → Bool
  | .non | .bl _ | .int _ => true
  | .str s => PyData.strOk s
  | .tup xs => okTs xs
  | _ => false
def okTs : List AV → Bool
  | [] => true
  | x :: xs => okT x && okTs xs
end
mutual
def dat : AV → PyData
  | .non => .none
  | .bl b => .bool b
  | .int i => .int i
  | .str s => .str s
  | .tup xs => .tuple (dats xs)
  | _ => .none
def dats : List AV → List PyData
  | [] => []
  | x :: xs => dat x :: dats xs
end
mutual
theorem dat_ad (h : AH) : ∀ x, okT x = true → AD h x (dat x)
  | .non, _ => .non
  | .bl _, _ => .bl _
  | .int _, _ => .int _
  | .str _, _ => .str _
  | .tup xs, e => .tup (dats_ad h xs e)
  | .rol _, e => by simp [okT] at e
  | .ref _, e => by simp [okT] at e
theorem dats_ad (h : AH) : ∀ xs, okTs xs = true → ADs h xs (dats xs)
  | [], _ => .nil
  | x :: xs, e => by
    rw [okTs, Bool.and_eq_true] at e
    exact .cons (dat_ad h x e.1) (dats_ad h xs e.2)
end
mutual
theorem dat_lay : ∀ x, okT x = true → (dat x).canLay0 = true
  | .non, _ => by simp [dat, PyData.canLay0]
  | .bl _, _ => by simp [dat, PyData.canLay0]
  | .int _, _ => by simp [dat, PyData.canLay0]
  | .str _, e => by simpa [dat, PyData.canLay0, okT] using e
  | .tup xs, e => by rw [dat, PyData.canLay0]; exact dats_lay xs e
  | .rol _, e => by simp [okT] at e
  | .ref _, e => by simp [okT] at e
theorem dats_lay : ∀ xs, okTs xs = true → PyData.canLayAll0 (dats xs) = true
  | [], _ => by simp [dats, PyData.canLayAll0]
  | x :: xs, e => by
    rw [okTs, Bool.and_eq_true] at e
    rw [dats, PyData.canLayAll0, Bool.and_eq_true]
    exact ⟨dat_lay x e.1, dats_lay xs e.2⟩
end
/-- how deep -/
def dep (x : AV) : Nat := (dat x).depth
mutual
/-- no bools: then == is = -/
def noB : AV → Bool
  | .non | .int _ | .str _ => true
  | .tup xs => noBs xs
  | _ => false
def noBs : List AV → Bool
  | [] => true
  | x :: xs => noB x && noBs xs
end
mutual
theorem eqv_iff : ∀ x y, noB x = true → noB y = true → (PyData.eqv (dat x) (dat y) = true ↔ x = y)
  | .non, y, _, e => by cases y <;> simp_all [noB, dat, PyData.eqv]
  | .int _, y, _, e => by cases y <;> simp_all [noB, dat, PyData.eqv]
  | .str _, y, _, e => by cases y <;> simp_all [noB, dat, PyData.eqv]
  | .tup xs, .tup ys, e1, e2 => by
    rw [dat, dat, PyData.eqv, eqvs_iff xs ys e1 e2]
    simp
  | .tup _, .non, _, e => by simp [dat, PyData.eqv]
  | .tup _, .int _, _, e => by simp [dat, PyData.eqv]
  | .tup _, .str _, _, e => by simp [dat, PyData.eqv]
  | .tup _, .bl _, _, e => by simp [noB] at e
  | .tup _, .rol _, _, e => by simp [noB] at e
  | .tup _, .ref _, _, e => by simp [noB] at e
  | .bl _, _, e, _ => by simp [noB] at e
  | .rol _, _, e, _ => by simp [noB] at e
  | .ref _, _, e, _ => by simp [noB] at e
theorem eqvs_iff : ∀ xs ys, noBs xs = true → noBs ys = true → (PyData.eqvAll (dats xs) (dats ys) = true ↔ xs = ys)
  | [], [], _, _ => by simp [dats, PyData.eqvAll]
  | [], _ :: _, _, _ => by simp [dats, PyData.eqvAll]
  | _ :: _, [], _, _ => by simp [dats, PyData.eqvAll]
  | x :: xs, y :: ys, e1, e2 => by
    rw [noBs, Bool.and_eq_true] at e1 e2
    rw [dats, dats, PyData.eqvAll, Bool.and_eq_true, eqv_iff x y e1.1 e2.1, eqvs_iff xs ys e1.2 e2.2]
    simp
end
variable [LawTb]
section
variable {σ : AEnv} {h : AH} {Q : AV → AH → Prop} {E : KE} {D : AEnds}
/-- == of trees -/
theorem ex_eqT {lim : Nat} {x y : AV} (hx : okT x = true) (hy : okT y = true) (l : min (dep x) (dep y) ≤ lim) (q : Q (.bl (PyData.eqv (dat x) (dat y))) h) : aEq lim x y h Q := ⟨_, _, dat_ad h x hx, dat_ad h y hy, dat_lay x hx, dat_lay y hy, l, q⟩
theorem ex_neT {lim : Nat} {x y : AV} (hx : okT x = true) (hy : okT y = true) (l : min (dep x) (dep y) ≤ lim) (q : Q (.bl (!PyData.eqv (dat x) (dat y))) h) : aNe lim x y h Q := ⟨_, _, dat_ad h x hx, dat_ad h y hy, dat_lay x hx, dat_lay y hy, l, q⟩
@[simp] theorem ex_eqS {lim : Nat} {s z : Str} : aEq lim (.str s) (.str z) h Q ↔ PyData.strOk s = true ∧ PyData.strOk z = true ∧ Q (.bl (s == z)) h := by
  constructor
  · rintro ⟨d, e, a1, a2, c1, c2, _, q⟩
    cases a1
    cases a2
    exact ⟨by simpa [PyData.canLay0] using c1, by simpa [PyData.canLay0] using c2, by simpa [PyData.eqv] using q⟩
  · rintro ⟨c1, c2, q⟩
    exact ⟨_, _, .str s, .str z, by simpa [PyData.canLay0] using c1, by simpa [PyData.canLay0] using c2, by simp [PyData.depth], by simpa [PyData.eqv] using q⟩
@[simp] theorem ex_neS {lim : Nat} {s z : Str} : aNe lim (.str s) (.str z) h Q ↔ PyData.strOk s = true ∧ PyData.strOk z = true ∧ Q (.bl (!(s == z))) h := by
  constructor
  · rintro ⟨d, e, a1, a2, c1, c2, _, q⟩
    cases a1
    cases a2
    exact ⟨by simpa [PyData.canLay0] using c1, by simpa [PyData.canLay0] using c2, by simpa [PyData.eqv] using q⟩
  · rintro ⟨c1, c2, q⟩
    exact ⟨_, _, .str s, .str z, by simpa [PyData.canLay0] using c1, by simpa [PyData.canLay0] using c2, by simp [PyData.depth], by simpa [PyData.eqv] using q⟩
@[simp] theorem ex_eqI {lim : Nat} {s z : Int} : aEq lim (.int s) (.int z) h Q ↔ Q (.bl (s == z)) h := by
  constructor
  · rintro ⟨d, e, a1, a2, c1, c2, _, q⟩
    cases a1
    cases a2
    simpa [PyData.eqv] using q
  · intro q
    exact ⟨_, _, .int s, .int z, by simp [PyData.canLay0], by simp [PyData.canLay0], by simp [PyData.depth], by simpa [PyData.eqv] using q⟩
/-! steps -/
/-- the rest, not looked at yet -/
def Later (u : WS) : WS := u
theorem later {u : WS} (h1 : u σ h D) : Later u σ h D := h1
/-- branches, not looked at yet -/
def Br (b : Bool) (w u : WS) : WS := if b = true then w else u
def BrM {α : Type} (b : Bool) (w u : M α) : M α := if b = true then w else u
def PIf (b : Bool) (A B : Prop) : Prop := if b = true then A else B
@[simp] theorem br_t {w u : WS} : Br true w u σ h D = Later w σ h D := Eq.trans rfl rfl
@[simp] theorem br_f {w u : WS} : Br false w u σ h D = Later u σ h D := Eq.trans rfl rfl
@[simp] theorem brm_t {α : Type} {w u : M α} : BrM true w u = w := Eq.trans rfl rfl
@[simp] theorem brm_f {α : Type} {w u : M α} : BrM false w u = u := Eq.trans rfl rfl
@[simp] theorem pif_t {A B : Prop} : PIf true A B = A := Eq.trans rfl rfl
@[simp] theorem pif_f {A B : Prop} : PIf false A B = B := Eq.trans rfl rfl
def isBl (z : AV) (Q : Bool → Prop) : Prop := ∃ k, z = .bl k ∧ Q k
@[simp] theorem isbl {b : Bool} {Q : Bool → Prop} : isBl (.bl b) Q = Q b := by
  refine propext ⟨?_, fun q => ⟨b, rfl, q⟩⟩
  rintro ⟨k, e, q⟩
  cases e
  exact q
def isTru (h : AH) (z : AV) (Q : Bool → Prop) : Prop := ∃ k, truA h z = some k ∧ Q k
theorem istru {z : AV} {k : Bool} {Q : Bool → Prop} (e : truA h z = some k) : isTru h z Q = Q k := by
  refine propext ⟨?_, fun q => ⟨k, e, q⟩⟩
  rintro ⟨k', e', q⟩
  rw [e] at e'
  cases e'
  exact q
@[simp] theorem tru_bl {b : Bool} {Q : Bool → Prop} : isTru h (.bl b) Q = Q b := istru rfl
@[simp] theorem tru_int {b : Int} {Q : Bool → Prop} : isTru h (.int b) Q = Q (b != 0) := istru rfl
@[simp] theorem tru_non {Q : Bool → Prop} : isTru h .non Q = Q false := istru rfl
@[simp] theorem tru_tup {xs : List AV} {Q : Bool → Prop} : isTru h (.tup xs) Q = Q (!xs.isEmpty) := istru rfl
theorem tru_lst {a : Addr} {xs : List AV} {Q : Bool → Prop} (e : h a = some (.lst xs)) : isTru h (.ref a) Q = Q (!xs.isEmpty) := istru (by simp [truA, e])
def itK (h : AH) (x : AV) (Q : AIt → Prop) : Prop := ∃ p, itA h x = some p ∧ Q p
@[simp] theorem itk_tup {xs : List AV} {Q : AIt → Prop} : itK h (.tup xs) Q = Q (xs, fun _ => True) := by simp [itK, itA]
@[simp] theorem itk_rol {xs : List AV} {Q : AIt → Prop} : itK h (.rol xs) Q = Q (xs, fun _ => True) := by simp [itK, itA]
@[simp] theorem itk_ref {a : Addr} {Q : AIt → Prop} : itK h (.ref a) Q = ∃ xs, h a = some (.lst xs) ∧ Q (xs, fun h1 => h1 a = some (.lst xs)) := by
  refine propext ⟨?_, ?_⟩
  · rintro ⟨p, e, q⟩
    dsimp only [itA] at e
    split at e
    · rename_i xs w
      cases e
      exact ⟨xs, w, q⟩
    · cases e
  · rintro ⟨xs, w, q⟩
    exact ⟨_, by simp [itA, w], q⟩
@[simp] theorem ex_seq {w u : WS} : sSeq w u σ h D = w σ h { D with nx := fun σ1 h1 => Later u σ1 h1 D } := Eq.trans rfl rfl
@[simp] theorem ex_asg {w : M AV} {g : WG} : sAsg w g σ h D = w σ h (fun x h1 => g x σ h1 D.nx D.ex) (fun x h1 => D.ex x σ h1) := Eq.trans rfl rfl
@[simp] theorem ex_name {i : Nat} {x : AV} {Q : AEnv → AH → Prop} {E : AX → AEnv → AH → Prop} : aName i x σ h Q E = Q (σ.set i (some x)) h := Eq.trans rfl rfl
@[simp] theorem ex_gtup {n : Nat} {gs : WGs} {xs : List AV} {Q : AEnv → AH → Prop} {E : AX → AEnv → AH → Prop} : aGtup n gs (.tup xs) σ h Q E ↔ xs.length = n ∧ gs xs σ h Q E := by
  unfold aGtup
  constructor
  · rintro ⟨_, e, a, b⟩; cases e; exact ⟨a, b⟩
  · rintro ⟨a, b⟩; exact ⟨_, rfl, a, b⟩
@[simp] theorem ex_gcons {g : WG} {gs : WGs} {x : AV} {xs : List AV} {Q : AEnv → AH → Prop} {E : AX → AEnv → AH → Prop} : aGcons g gs (x :: xs) σ h Q E = g x σ h (fun σ1 h1 => gs xs σ1 h1 Q E) E := by
  unfold aGcons
  refine propext ⟨?_, fun z => ⟨_, _, rfl, z⟩⟩
  rintro ⟨_, _, e, z⟩
  cases e
  exact z
@[simp] theorem ex_gnil {Q : AEnv → AH → Prop} {E : AX → AEnv → AH → Prop} : aGnil [] σ h Q E = Q σ h := by simp [aGnil]
@[simp] theorem ex_expr {w : M AV} : sExpr w σ h D = w σ h (fun _ h1 => D.nx σ h1) (fun x h1 => D.ex x σ h1) := Eq.trans rfl rfl
@[simp] theorem ex_ret' {w : M AV} : sRet w σ h D = w σ h (fun x h1 => D.rt x h1) (fun x h1 => D.ex x σ h1) := Eq.trans rfl rfl
@[simp] theorem ex_next : sNext σ h D = D.nx σ h := Eq.trans rfl rfl
@[simp] theorem ex_brk : sBrk σ h D = D.bk σ h := Eq.trans rfl rfl
@[simp] theorem ex_cnt : sCnt σ h D = D.ct σ h := Eq.trans rfl rfl
@[simp] theorem ex_raise {x : Str} : sRaise x σ h D = D.ex ⟨x, none⟩ σ h := Eq.trans rfl rfl
@[simp] theorem ex_if {c : M Bool} {w u : WS} : sIf c w u σ h D = c σ h (fun b h1 => Br b w u σ h1 D) (fun x h1 => D.ex x σ h1) := Eq.trans rfl rfl
@[simp] theorem ex_laterN : Later sNext σ h D = D.nx σ h := Eq.trans rfl rfl
@[simp] theorem ex_bind {α β : Type} {w : M α} {f : α → M β} {Q : β → AH → Prop} : M.bind w f σ h Q E = w σ h (fun x h1 => f x σ h1 Q E) E := Eq.trans rfl rfl
@[simp] theorem ex_mret {α : Type} {x : α} {Q : α → AH → Prop} : M.ret x σ h Q E = Q x h := Eq.trans rfl rfl
@[simp] theorem ex_prim {w : P1} : M.prim w σ h Q E = w h Q := Eq.trans rfl rfl
@[simp] theorem ex_var {i : Nat} : wVar i σ h Q E = ∃ x, σ[i]? = some (some x) ∧ Q x h := Eq.trans rfl rfl
@[simp] theorem ex_nil {Q : List AV → AH → Prop} : wNil σ h Q E = Q [] h := Eq.trans rfl rfl
@[simp] theorem ex_cons {w : M AV} {ws : M (List AV)} {Q : List AV → AH → Prop} : wCons w ws σ h Q E = w σ h (fun x h1 => ws σ h1 (fun xs h2 => Q (x :: xs) h2) E) E := Eq.trans rfl rfl
@[simp] theorem ex_tup {ws : M (List AV)} : wTup ws σ h Q E = ws σ h (fun xs h1 => xs.length ≤ sizeLine ∧ Q (.tup xs) h1) E := Eq.trans rfl rfl
@[simp] theorem ex_lst {ws : M (List AV)} : wLst ws σ h Q E = ws σ h (fun xs h1 => xs.length ≤ sizeLine ∧ ∀ p, h1 p = none → Q (.ref p) (aup h1 p (.lst xs))) E := Eq.trans rfl rfl
@[simp] theorem ex_bin {r : AV → AV → P1} {wa wb : M AV} : wBin r wa wb σ h Q E = wa σ h (fun x h1 => wb σ h1 (fun y h2 => r x y h2 Q) E) E := Eq.trans rfl rfl
@[simp] theorem ex_un {r : AV → P1} {wa : M AV} : wUn r wa σ h Q E = wa σ h (fun x h1 => r x h1 Q) E := Eq.trans rfl rfl
@[simp] theorem ex_blt {r : List AV → P1} {wa : M (List AV)} : wBlt r wa σ h Q E = wa σ h (fun x h1 => r x h1 Q) E := Eq.trans rfl rfl
@[simp] theorem ex_call {c : Sem1} {ws : M (List AV)} : wCall c ws σ h Q E = ws σ h (fun xs h1 => c xs h1 Q E) E := Eq.trans rfl rfl
@[simp] theorem ex_wif {c : M Bool} {u v : M AV} : wIf c u v σ h Q E = c σ h (fun b h1 => BrM b u v σ h1 Q E) E := Eq.trans rfl rfl
@[simp] theorem ex_bt {r : AV → AV → P1} {wa wb : M AV} {Q : Bool → AH → Prop} : wBt r wa wb σ h Q E = wa σ h (fun x h1 => wb σ h1 (fun y h2 => r x y h2 (fun z h3 => isBl z fun k => Q k h3)) E) E := Eq.trans rfl rfl
@[simp] theorem ex_tru {w : M AV} {Q : Bool → AH → Prop} : wTru w σ h Q E = w σ h (fun x h1 => isTru h1 x fun k => Q k h1) E := Eq.trans rfl rfl
@[simp] theorem ex_wand {w u : M Bool} {Q : Bool → AH → Prop} : wAnd w u σ h Q E = w σ h (fun c h1 => BrM c u (M.ret false) σ h1 Q E) E := Eq.trans rfl rfl
@[simp] theorem ex_wor {w u : M Bool} {Q : Bool → AH → Prop} : wOr w u σ h Q E = w σ h (fun c h1 => BrM c (M.ret true) u σ h1 Q E) E := Eq.trans rfl rfl
@[simp] theorem ex_wnot {w : M Bool} {Q : Bool → AH → Prop} : wNot w σ h Q E = w σ h (fun c h1 => Q (!c) h1) E := Eq.trans rfl rfl
@[simp] theorem ex_wm {r : AV → List AV → P1} {wo : M AV} {ws : M (List AV)} : wM r wo ws σ h Q E = wo σ h (fun x h1 => (∃ a xs, x = .ref a ∧ h1 a = some (.lst xs)) ∧ ws σ h1 (fun ys h2 => r x ys h2 Q) E) E := Eq.trans rfl rfl
/-! operators -/
@[simp] theorem ex_int {C : Int → Int → Prop} {f : Int → Int → AV} {i j : Int} : aInt C f (.int i) (.int j) h Q = (C i j ∧ Q (f i j) h) := Eq.trans rfl rfl
@[simp] theorem ex_neg {i : Int} : aNeg (.int i) h Q = Q (.int (-i)) h := Eq.trans rfl rfl
@[simp] theorem ex_addI {i j : Int} : aAdd (.int i) (.int j) h Q = Q (.int (i + j)) h := Eq.trans rfl rfl
@[simp] theorem ex_addT {xs ys : List AV} : aAdd (.tup xs) (.tup ys) h Q = (xs.length + ys.length ≤ sizeLine ∧ Q (.tup (xs ++ ys)) h) := Eq.trans rfl rfl
@[simp] theorem ex_addL {a b : Addr} : aAdd (.ref a) (.ref b) h Q = ∃ xs, h a = some (.lst xs) ∧ ∃ ys, h b = some (.lst ys) ∧ xs.length + ys.length ≤ sizeLine ∧ ∀ p, h p = none → Q (.ref p) (aup h p (.lst (xs ++ ys))) := Eq.trans rfl rfl
@[simp] theorem ex_iaddI {i j : Int} : aIadd (.int i) (.int j) h Q = Q (.int (i + j)) h := Eq.trans rfl rfl
@[simp] theorem ex_mulI {i j : Int} : aMul (.int i) (.int j) h Q = (CMulW i j ∧ Q (.int (i * j)) h) := Eq.trans rfl rfl
@[simp] theorem ex_mulL {a : Addr} {k : Int} : aMul (.ref a) (.int k) h Q = ∃ xs, h a = some (.lst xs) ∧ (-(2 ^ 63) ≤ k ∧ k < 2 ^ 63 ∧ xs.length * k.toNat ≤ sizeLine) ∧ ∀ p, h p = none → Q (.ref p) (aup h p (.lst (List.replicate k.toNat xs).flatten)) := Eq.trans rfl rfl
@[simp] theorem ex_ixT {xs : List AV} {i : Int} : aIx (.tup xs) (.int i) h Q ↔ ∃ z, atI xs i = some z ∧ Q z h := by
  simp [aIx, seqA]
@[simp] theorem ex_ixR {xs : List AV} {i : Int} : aIx (.rol xs) (.int i) h Q ↔ ∃ z, atI xs i = some z ∧ Q z h := by
  simp [aIx, seqA]
/-- a list's item -/
theorem ex_ixL {a : Addr} {xs : List AV} {i : Int} {z : AV} (e : h a = some (.lst xs)) (e2 : atI xs i = some z) (q : Q z h) : aIx (.ref a) (.int i) h Q := .inl ⟨xs, i, z, by simp [seqA, e], rfl, e2, q⟩
theorem ex_ixD {a : Addr} {kvs : List (Key × AV)} {y z : AV} {k : Key} (e : h a = some (.dic kvs)) (e1 : keyA y = some k) (e2 : getA kvs k = some z) (q : Q z h) : aIx (.ref a) y h Q := .inr (.inr ⟨a, kvs, k, z, rfl, e, e1, e2, q⟩)
@[simp] theorem ex_inT {neg : Bool} {x : AV} {xs : List AV} : aIn neg x (.tup xs) h Q ↔ flatA x = true ∧ xs.all flatA = true ∧ Q (.bl (if neg = true then !(xs.any fun z => eqA z x) else xs.any fun z => eqA z x)) h := by
  constructor
  · rintro (⟨ys, e, q⟩ | ⟨a, _, _, e, _⟩ | ⟨_, _, _, e, _⟩)
    · cases e; exact q
    · cases e
    · cases e
  · intro q; exact .inl ⟨xs, rfl, q⟩
@[simp] theorem flat_non : flatA .non = true := Eq.trans rfl rfl
@[simp] theorem flat_bl {b : Bool} : flatA (.bl b) = true := Eq.trans rfl rfl
@[simp] theorem flat_int {b : Int} : flatA (.int b) = true := Eq.trans rfl rfl
@[simp] theorem flat_str {b : Str} : flatA (.str b) = true := Eq.trans rfl rfl
@[simp] theorem eqA_str {a b : Str} : eqA (.str a) (.str b) = (a == b) := Eq.trans rfl rfl
@[simp] theorem eqA_int {a b : Int} : eqA (.int a) (.int b) = (a == b) := Eq.trans rfl rfl
@[simp] theorem eqA_si {a : Str} {b : Int} : eqA (.str a) (.int b) = false := Eq.trans rfl rfl
@[simp] theorem eqA_is {a : Str} {b : Int} : eqA (.int b) (.str a) = false := Eq.trans rfl rfl
@[simp] theorem ex_len {x : AV} : aLen [x] h Q = ∃ n, lenA h x = some n ∧ Q (.int n) h := Eq.trans rfl rfl
@[simp] theorem len_tup {xs : List AV} : lenA h (.tup xs) = some xs.length := Eq.trans rfl rfl
@[simp] theorem len_rol {xs : List AV} : lenA h (.rol xs) = some xs.length := Eq.trans rfl rfl
theorem len_lst {a : Addr} {xs : List AV} (e : h a = some (.lst xs)) : lenA h (.ref a) = some xs.length := by simp [lenA, e]
@[simp] theorem szl : sizeLine = 16777216 := Eq.trans rfl rfl
theorem seqA_ref {a : Addr} {xs : List AV} : seqA h (.ref a) = some xs ↔ h a = some (.lst xs) := by
  dsimp only [seqA]
  split <;> simp_all
theorem ex_tuple {x : AV} : aTuple [x] h Q = ∃ xs, seqA h x = some xs ∧ Q (.tup xs) h := rfl
@[simp] theorem ex_tupleT {xs : List AV} : aTuple [.tup xs] h Q = Q (.tup xs) h := by simp [ex_tuple, seqA]
@[simp] theorem ex_tupleR {a : Addr} : aTuple [.ref a] h Q = ∃ xs, h a = some (.lst xs) ∧ Q (.tup xs) h := by simp only [ex_tuple, seqA_ref]
theorem ex_list {x : AV} : aList [x] h Q = ∃ xs, seqA h x = some xs ∧ ∀ p, h p = none → Q (.ref p) (aup h p (.lst xs)) := rfl
@[simp] theorem ex_listT {xs : List AV} : aList [.tup xs] h Q = ∀ p, h p = none → Q (.ref p) (aup h p (.lst xs)) := by simp [ex_list, seqA]
@[simp] theorem ex_listR {a : Addr} : aList [.ref a] h Q = ∃ xs, h a = some (.lst xs) ∧ ∀ p, h p = none → Q (.ref p) (aup h p (.lst xs)) := by simp only [ex_list, seqA_ref]
@[simp] theorem seq_tup {xs : List AV} : seqA h (.tup xs) = some xs := Eq.trans rfl rfl
@[simp] theorem seq_rol {xs : List AV} : seqA h (.rol xs) = some xs := Eq.trans rfl rfl
theorem seq_lst {a : Addr} {xs : List AV} (e : h a = some (.lst xs)) : seqA h (.ref a) = some xs := by simp [seqA, e]
@[simp] theorem ex_abs {i : Int} : aAbs [.int i] h Q = Q (.int (if i < 0 then -i else i)) h := Eq.trans rfl rfl
@[simp] theorem ex_toint {i : Int} : aToInt [.int i] h Q = Q (.int i) h := Eq.trans rfl rfl
@[simp] theorem ex_revT {xs : List AV} : aRev (.tup xs) h Q = Q (.tup xs.reverse) h := Eq.trans rfl rfl
@[simp] theorem ex_slT {xs : List AV} {lo hi : Option Int} : aSl (.tup xs) lo hi h Q = Q (.tup (cutA xs lo hi)) h := Eq.trans rfl rfl
@[simp] theorem ex_slL {a : Addr} {lo hi : Option Int} : aSl (.ref a) lo hi h Q = ∃ xs, h a = some (.lst xs) ∧ ∀ p, h p = none → Q (.ref p) (aup h p (.lst (cutA xs lo hi))) := Eq.trans rfl rfl
@[simp] theorem ex_slR {xs : List AV} {lo hi : Option Int} : aSl (.rol xs) lo hi h Q = ∀ p, h p = none → Q (.ref p) (aup h p (.lst (cutA xs lo hi))) := Eq.trans rfl rfl
@[simp] theorem ex_revL {a : Addr} : aRev (.ref a) h Q = ∃ xs, h a = some (.lst xs) ∧ ∀ p, h p = none → Q (.ref p) (aup h p (.lst xs.reverse)) := Eq.trans rfl rfl
@[simp] theorem ex_app {a : Addr} {y : AV} : aApp (.ref a) [y] h Q ↔ ∃ xs, h a = some (.lst xs) ∧ xs.length < sizeLine ∧ Q .non (aup h a (.lst (xs ++ [y]))) := by
  simp [aApp]
theorem ex_pop {a : Addr} {xs : List AV} {y : AV} (e : h a = some (.lst (xs ++ [y]))) (q : Q y (aup h a (.lst xs))) : aPop (.ref a) [] h Q := ⟨a, xs, y, rfl, rfl, e, q⟩
theorem aup_o {a b : Addr} {o : AObj} (n : a ≠ b) : aup h b o a = h a := aup_ne n
@[simp] theorem aup_s {a : Addr} {o : AObj} : aup h a o a = some o := aup_same
@[simp] theorem ex_wsl {wa : M AV} {wl wh : M (Option Int)} : wSl wa wl wh σ h Q E = wa σ h (fun x h1 => wl σ h1 (fun lo h2 => wh σ h2 (fun hi h3 => aSl x lo hi h3 Q) E) E) E := Eq.trans rfl rfl
@[simp] theorem ex_part {w : M AV} {Q : Option Int → AH → Prop} : wPart w σ h Q E = w σ h (fun x h1 => ∃ i, x = .int i ∧ Q (some i) h1) E := Eq.trans rfl rfl
@[simp] theorem ex_nopart {Q : Option Int → AH → Prop} : wNoPart σ h Q E = Q none h := Eq.trans rfl rfl
@[simp] theorem ex_andv {wa wb : M AV} : wAndV wa wb σ h Q E = wa σ h (fun x h1 => isBl x fun k => PIf k (wb σ h1 Q E) (Q (.bl false) h1)) E := Eq.trans rfl rfl
@[simp] theorem ex_orv {wa wb : M AV} : wOrV wa wb σ h Q E = wa σ h (fun x h1 => isBl x fun k => PIf k (Q (.bl true) h1) (wb σ h1 Q E)) E := Eq.trans rfl rfl
@[simp] theorem ex_notv {wa : M AV} : wNotV wa σ h Q E = wa σ h (fun x h1 => isBl x fun k => Q (.bl (!k)) h1) E := Eq.trans rfl rfl
@[simp] theorem ex_isi {T : String} {wa : M AV} : wIsi T wa σ h Q E = wa σ h (fun x h1 => ∃ n, tyA h1 x = some n ∧ Q (.bl (subTy n T)) h1) E := Eq.trans rfl rfl
@[simp] theorem ty_tup {xs : List AV} : tyA h (.tup xs) = some "tuple" := Eq.trans rfl rfl
@[simp] theorem ty_int {xs : Int} : tyA h (.int xs) = some "int" := Eq.trans rfl rfl
@[simp] theorem ty_str {xs : Str} : tyA h (.str xs) = some "str" := Eq.trans rfl rfl
@[simp] theorem ex_wbl {w : M AV} {Q : Bool → AH → Prop} : wBl w σ h Q E = w σ h (fun x h1 => isBl x fun k => Q k h1) E := Eq.trans rfl rfl
@[simp] theorem ex_chn {r r' : AV → AV → P1} {wa wb wc : M AV} : wChnV r r' wa wb wc σ h Q E = wa σ h (fun x h1 => wb σ h1 (fun y h2 => r x y h2 (fun z h3 => isBl z fun k => PIf k (wc σ h3 (fun w h4 => r' y w h4 Q) E) (Q (.bl false) h3))) E) E := Eq.trans rfl rfl
@[simp] theorem ex_dict0 : wDict0 σ h Q E = ∀ p, h p = none → Q (.ref p) (aup h p (.dic [])) := Eq.trans rfl rfl
@[simp] theorem ex_par {i j : Nat} {wa wb : M AV} : sPar i j (wCons wa (wCons wb wNil)) σ h D = wa σ h (fun x h1 => wb σ h1 (fun y h2 => D.nx ((σ.set i (some x)).set j (some y)) h2) (fun x h1 => D.ex x σ h1)) (fun x h1 => D.ex x σ h1) := by
  show wa σ h (fun x h1 => wb σ h1 (fun y h2 => ∃ u v, [x, y] = [u, v] ∧ D.nx ((σ.set i (some u)).set j (some v)) h2) _) _ = _
  congr 1
  funext x h1
  congr 1
  funext y h2
  refine propext ⟨?_, fun q => ⟨_, _, rfl, q⟩⟩
  rintro ⟨u, v, e, q⟩
  cases e
  exact q
@[simp] theorem ex_aug {i : Nat} {r : AV → AV → P1} {w : M AV} : sAug i r w σ h D = ∃ x, σ[i]? = some (some x) ∧ w σ h (fun y h1 => r x y h1 (fun z h2 => D.nx (σ.set i (some z)) h2)) (fun x h1 => D.ex x σ h1) := Eq.trans rfl rfl
@[simp] theorem ex_subT {wo wi : M AV} {v : AV} {Q : AEnv → AH → Prop} {E : AX → AEnv → AH → Prop} : aSubT wo wi v σ h Q E = wo σ h (fun o h1 => wi σ h1 (fun i h2 => aSet o i v h2 fun h3 => Q σ h3) fun x h2 => E x σ h2) (fun x h2 => E x σ h2) := Eq.trans rfl rfl
@[simp] theorem ex_it {w : M AV} {Q : AIt → AH → Prop} : wIt w σ h Q E = w σ h (fun x h1 => itK h1 x fun p => Q p h1) E := Eq.trans rfl rfl
@[simp] theorem ex_for {wi : M AIt} {g : WG} {body : WS} : sFor wi g body σ h D = wi σ h (fun p h1 => sForGo p.2 g body p.1 σ h1 D) (fun x h1 => D.ex x σ h1) := Eq.trans rfl rfl
@[simp] theorem ex_rng1 {w : M (List AV)} {Q : AIt → AH → Prop} : wRng1 w σ h Q E = w σ h (fun xs h1 => ∃ j : Int, xs = [.int j] ∧ (-(2 ^ 62) ≤ j ∧ j < 2 ^ 62) ∧ Q (rngA 0 1 j.toNat, fun _ => True) h1) E := Eq.trans rfl rfl
@[simp] theorem ex_rngD {w : M (List AV)} {Q : AIt → AH → Prop} : wRngD w σ h Q E = w σ h (fun xs h1 => ∃ i j : Int, xs = [.int i, .int j, .int (-1)] ∧ (-(2 ^ 62) ≤ i ∧ i < 2 ^ 62 ∧ -(2 ^ 62) ≤ j ∧ j < 2 ^ 62) ∧ Q (rngA i (-1) (i - j).toNat, fun _ => True) h1) E := Eq.trans rfl rfl
@[simp] theorem ex_lc {wi : M AIt} {g : WG} {tt : M Bool} {we : M AV} {vs : List Nat} : wLc wi g tt we vs σ h Q E = wi σ h (fun p h1 => lcGo p.2 g tt we (awipe σ vs) p.1 [] h1 fun acc h2 => ∀ D, h2 D = none → Q (.ref D) (aup h2 D (.lst acc))) E := Eq.trans rfl rfl
@[simp] theorem ex_yes {Q : Bool → AH → Prop} : wYes σ h Q E = Q true h := Eq.trans rfl rfl
@[simp] theorem ex_augS {r : AV → AV → P1} {wo wi we : M AV} : sAugS r wo wi we σ h D = wo σ h (fun o h1 => wi σ h1 (fun i h2 => aIxR o i h2 (fun x h3 => we σ h3 (fun y h4 => r x y h4 (fun z h5 => aSet o i z h5 fun h6 => D.nx σ h6)) (fun x h2 => D.ex x σ h2))) (fun x h2 => D.ex x σ h2)) (fun x h2 => D.ex x σ h2) := Eq.trans rfl rfl
/-- a list's item by a number -/
theorem ixL {a : Addr} {xs : List AV} {k : Nat} {z : AV} (e : h a = some (.lst xs)) (e2 : xs[k]? = some z) (q : Q z h) : aIx (.ref a) (.int k) h Q := ex_ixL e ((atI_nat xs k).trans e2) q
theorem ixRL {a : Addr} {xs : List AV} {k : Nat} {z : AV} (e : h a = some (.lst xs)) (e2 : xs[k]? = some z) (q : Q z h) : aIxR (.ref a) (.int k) h Q := .inl ⟨a, xs, k, z, rfl, rfl, e, (atI_nat xs k).trans e2, q⟩
theorem set_at {p : Addr} {xs : List AV} {k : Nat} {v : AV} {Q : AH → Prop} (e : h p = some (.lst xs)) (l : k < xs.length) (q : Q (aup h p (.lst (xs.set k v)))) : aSet (.ref p) (.int k) v h Q := by
  refine .inl ⟨p, xs, k, k, rfl, rfl, e, ?_, q⟩
  unfold ixN
  rw [if_pos (by omega), if_pos (by omega)]
  rfl
theorem rngD_succ (n : Nat) : rngA (n : Int) (-1) (n + 1) = .int n :: rngA ((n : Int) - 1) (-1) n := by
  unfold rngA
  rw [List.range_succ_eq_map, List.map_cons, List.map_map]
  refine List.cons_eq_cons.mpr ⟨congrArg AV.int (by omega), ?_⟩
  · refine List.map_congr_left fun i _ => ?_
    show AV.int _ = AV.int _
    congr 1
    simp only [Nat.succ_eq_add_one]
    omega
theorem rng1_succ (lo : Int) (n : Nat) : rngA lo 1 (n + 1) = .int lo :: rngA (lo + 1) 1 n := by
  unfold rngA
  rw [List.range_succ_eq_map, List.map_cons, List.map_map]
  refine List.cons_eq_cons.mpr ⟨congrArg AV.int (by omega), ?_⟩
  · refine List.map_congr_left fun i _ => ?_
    show AV.int _ = AV.int _
    congr 1
    simp only [Nat.succ_eq_add_one]
    omega
def zipK (h : AH) (zs : List AV) (Q : AIt → Prop) : Prop := ∃ x y, zs = [x, y] ∧
  ((∃ a b xs ys, x = .ref a ∧ y = .ref b ∧ h a = some (.lst xs) ∧ h b = some (.lst ys) ∧ Q (zipA xs ys, fun h1 => h1 a = some (.lst xs) ∧ h1 b = some (.lst ys))) ∨
   ∃ xs ys, x = .tup xs ∧ y = .tup ys ∧ Q (zipA xs ys, fun _ => True))
@[simp] theorem ex_zip {w : M (List AV)} {Q : AIt → AH → Prop} : wZip w σ h Q E = w σ h (fun zs h1 => zipK h1 zs fun p => Q p h1) E := Eq.trans rfl rfl
theorem zipk_ref {a b : Addr} {xs ys : List AV} {Q : AIt → Prop} (e1 : h a = some (.lst xs)) (e2 : h b = some (.lst ys)) (q : Q (zipA xs ys, fun h1 => h1 a = some (.lst xs) ∧ h1 b = some (.lst ys))) : zipK h [.ref a, .ref b] Q := ⟨_, _, rfl, .inl ⟨a, b, xs, ys, rfl, rfl, e1, e2, q⟩⟩
@[simp] theorem zipk_tup {xs ys : List AV} {Q : AIt → Prop} : zipK h [.tup xs, .tup ys] Q = Q (zipA xs ys, fun _ => True) := by
  refine propext ⟨?_, fun q => ⟨_, _, rfl, .inr ⟨xs, ys, rfl, rfl, q⟩⟩⟩
  rintro ⟨x, y, e, ⟨a, b, us, vs, e1, _⟩ | ⟨us, vs, e1, e2, q⟩⟩
  · cases e; cases e1
  · cases e; cases e1; cases e2; exact q
/-! loops -/
theorem for_rule {src : AH → Prop} {g : WG} {body : WS} (I : List AV → List AV → AEnv → AH → Prop)
    (step : ∀ done x rest σ h (K : AEnv → AH → Prop), I done (x :: rest) σ h → (∀ σ h, I (done ++ [x]) rest σ h → K σ h) → src h ∧ g x σ h (fun σ1 h1 => body σ1 h1 { D with nx := K, ct := K, bk := D.nx }) D.ex)
    (fin : ∀ xs σ h, I xs [] σ h → src h ∧ D.nx σ h) : ∀ (rest done : List AV) (σ : AEnv) (h : AH), I done rest σ h → sForGo src g body rest σ h D
  | [], done, σ, h, i => fin done σ h i
  | x :: rest, done, σ, h, i => step done x rest σ h _ i fun σ1 h1 i1 => for_rule I step fin rest (done ++ [x]) σ1 h1 i1
/-- the same, without looking back -/
theorem for_rest {src : AH → Prop} {g : WG} {body : WS} (I : List AV → AEnv → AH → Prop)
    (step : ∀ x rest σ h (K : AEnv → AH → Prop), I (x :: rest) σ h → (∀ σ h, I rest σ h → K σ h) → src h ∧ g x σ h (fun σ1 h1 => body σ1 h1 { D with nx := K, ct := K, bk := D.nx }) D.ex)
    (fin : ∀ σ h, I [] σ h → src h ∧ D.nx σ h) : ∀ (rest : List AV) (σ : AEnv) (h : AH), I rest σ h → sForGo src g body rest σ h D
  | [], σ, h, i => fin σ h i
  | x :: rest, σ, h, i => step x rest σ h _ i fun σ1 h1 i1 => for_rest I step fin rest σ1 h1 i1
/-- a comprehension whose items do not change the store: f gives each item's value -/
theorem lc_map {src : AH → Prop} {g : WG} {we : M AV} {σ0 : AEnv} {Q : List AV → AH → Prop} (f : AV → AV) (hs : src h) : ∀ (xs acc : List AV), acc.length + xs.length ≤ sizeLine →
    (∀ x ∈ xs, ∀ K : AV → AH → Prop, K (f x) h → g x σ0 h (fun σ1 h1 => we σ1 h1 K fun _ _ => False) fun _ _ _ => False) → Q (acc ++ xs.map f) h → lcGo src g wYes we σ0 xs acc h Q
  | [], acc, _, _, q => ⟨hs, by simpa using q⟩
  | x :: xs, acc, l, he, q => by
    refine ⟨hs, ?_⟩
    have := he x List.mem_cons_self (fun y h3 => acc.length < sizeLine ∧ lcGo src g wYes we σ0 xs (acc ++ [y]) h3 Q) ⟨by simp at l ⊢; omega, lc_map f hs xs (acc ++ [f x]) (by simp at l ⊢; omega) (fun y hy => he y (List.mem_cons_of_mem _ hy)) (by simpa using q)⟩
    simpa only [ex_yes, if_true] using this
/-- while: by a measure -/
theorem while_rule {c : M Bool} {body : WS} (I : Nat → AEnv → AH → Prop)
    (step : ∀ n σ h (K : AEnv → AH → Prop), I n σ h → (∀ m σ h, m < n → I m σ h → K σ h) → c σ h (fun b h1 => PIf b (body σ h1 { D with nx := K, ct := K, bk := D.nx }) (D.nx σ h1)) fun x h1 => D.ex x σ h1) {n : Nat} {σ : AEnv} {h : AH} (i : I n σ h) : sWhile c body σ h D := by
  refine ⟨n + 1, ?_⟩
  have key : ∀ N n, n < N → ∀ σ h, I n σ h → sWh c body N σ h D := by
    intro N
    induction N with
    | zero => intro n hn; omega
    | succ N ih =>
      intro n hn σ h i
      have := step n σ h (fun σ2 h2 => sWh c body N σ2 h2 D) i fun m σ1 h1 hm i1 => ih m (by omega) σ1 h1 i1
      show c σ h (fun b h1 => (if b = true then fun σ h D => body σ h { D with nx := fun σ2 h2 => sWh c body N σ2 h2 D, ct := fun σ2 h2 => sWh c body N σ2 h2 D, bk := D.nx } else sNext) σ h1 D) fun x h1 => D.ex x σ h1
      have e : (fun (b : Bool) (h1 : AH) => (if b = true then fun σ h (D : AEnds) => body σ h { D with nx := fun σ2 h2 => sWh c body N σ2 h2 D, ct := fun σ2 h2 => sWh c body N σ2 h2 D, bk := D.nx } else sNext) σ h1 D) = fun b h1 => PIf b (body σ h1 { D with nx := fun σ2 h2 => sWh c body N σ2 h2 D, ct := fun σ2 h2 => sWh c body N σ2 h2 D, bk := D.nx }) (D.nx σ h1) := by
        funext b h1
        cases b <;> rfl
      rw [e]
      exact this
  exact key (n + 1) n (by omega) σ h i
end
/-! dicts -/
theorem getA_put_self {κ : Type} [DecidableEq κ] (kvs : List (κ × AV)) (k : κ) (v : AV) : getA (putA kvs k v) k = some v := by
  unfold getA putA
  split
  · rename_i a
    induction kvs with
    | nil => cases a
    | cons x xs ih =>
      obtain ⟨k1, v1⟩ := x
      rw [List.map_cons]
      by_cases z : k1 = k
      · subst z; simp
      · simp [z]
        simp [z] at a
        obtain ⟨y, hy⟩ := a
        simpa using ih (by simp; exact ⟨y, hy⟩)
  · rename_i a
    rw [List.find?_append]
    have : kvs.find? (fun kv => decide (kv.1 = k)) = none := by
      rw [List.find?_eq_none]
      intro x hx z
      exact a (List.any_eq_true.mpr ⟨x, hx, z⟩)
    rw [this]
    simp
theorem getA_put_ne {κ : Type} [DecidableEq κ] (kvs : List (κ × AV)) {k k' : κ} (v : AV) (n : k' ≠ k) : getA (putA kvs k v) k' = getA kvs k' := by
  unfold getA putA
  split
  · rename_i a
    clear a
    induction kvs with
    | nil => rfl
    | cons x xs ih =>
      obtain ⟨k1, v1⟩ := x
      rw [List.map_cons]
      by_cases z : k1 = k
      · subst z
        simp [Ne.symm n]
        simpa using ih
      · by_cases y : k1 = k'
        · subst y; simp [z]
        · simp [z, y]
          simpa using ih
  · rw [List.find?_append]
    simp [Ne.symm n]
theorem putA_len {κ : Type} [DecidableEq κ] (kvs : List (κ × AV)) (k : κ) (v : AV) : (putA kvs k v).length ≤ kvs.length + 1 := by
  unfold putA
  split <;> simp
theorem set_dic {h : AH} {p : Addr} {kvs : List (Key × AV)} {i v : AV} {k : Key} {Q : AH → Prop} (e : h p = some (.dic kvs)) (ek : keyA i = some k) (l : kvs.length < 16777216) (q : Q (aup h p (.dic (putA kvs k v)))) : aSet (.ref p) i v h Q := .inr ⟨p, kvs, k, rfl, ek, e, l, q⟩
/-! parts -/
theorem cutA_nat (xs : List AV) {i j : Nat} (hi : i ≤ xs.length) (hj : j ≤ xs.length) : cutA xs (some (i : Int)) (some (j : Int)) = (xs.drop i).take (j - i) := by
  unfold cutA
  rw [HT.sIx_nat, HT.sIx_nat, Nat.min_eq_left hi, Nat.min_eq_left hj]
theorem cutA_tail (xs : List AV) {i : Nat} (hi : i ≤ xs.length) : cutA xs (some (i : Int)) none = xs.drop i := by
  unfold cutA
  rw [HT.sIx_nat, HT.sIx_none, Nat.min_eq_left hi, List.take_of_length_le (by simp)]
/-! defs -/
/-- what a def gives: a value and no change in the store, or a raised class -/
inductive Out where
  | ok (v : AV) | lst (xs : List AV) | err (x : Str)
/-- the def c, over h, gives r -/
def Gives (c : Sem1) (args : List AV) (h : AH) : Out → Prop
  | .ok v => ∀ Q E, Q v h → c args h Q E
  | .lst xs => ∀ Q E, (∀ p, h p = none → Q (.ref p) (aup h p (.lst xs))) → c args h Q E
  | .err x => ∀ Q (E : KE), E ⟨x, none⟩ h → c args h Q E
/-- forget what is new -/
theorem qu {α : Type} {Q : α → AH → Prop} {x : α} {h h1 : AH} (l : ALe h h1) (q : Q x h) : QU Q x h1 := ⟨h, l, q⟩
theorem ne_of_at {h : AH} {a p : Addr} {o : AObj} (e : h a = some o) (n : h p = none) : a ≠ p := fun z => by rw [z, n] at e; cases e
theorem ne_lst_dic {h : AH} {a p : Addr} {xs : List AV} {kvs : List (Key × AV)} (e : h a = some (.lst xs)) (n : h p = some (.dic kvs)) : a ≠ p := fun z => by rw [z, n] at e; cases e
theorem aup_at {h : AH} {a p : Addr} {o u : AObj} (e : h a = some o) (n : h p = none) : aup h p u a = some o := (aup_ne (ne_of_at e n)).trans e
theorem aup_none {h : AH} {p D : Addr} {o : AObj} (e : aup h p o D = none) : h D = none ∧ p ≠ D := by
  have n : p ≠ D := fun z => by subst z; simp at e
  exact ⟨by rwa [aup_ne (fun z => n z.symm)] at e, n⟩
theorem ALe.aup2 {h h1 : AH} {p : Addr} {o : AObj} (l : ALe h h1) (e : h p = none) : ALe h (aup h1 p o) := fun b u q => (aup_ne (ne_of_at q e)).trans (l b u q)
theorem ALe.put {h h2 : AH} {p : Addr} {o : AObj} (l : ALe h h2) (e : h2 p = some o) : ALe (aup h p o) h2 := fun b u q => by
  by_cases z : b = p
  · subst z; rw [aup_same] at q; cases q; exact e
  · rw [aup_ne z] at q; exact l b u q
theorem ALe.both {h h2 : AH} {p : Addr} {o : AObj} (l : ALe h h2) : ALe (aup h p o) (aup h2 p o) := fun b u q => by
  by_cases z : b = p
  · subst z; rw [aup_same] at q ⊢; exact q
  · rw [aup_ne z] at q ⊢; exact l b u q
theorem ALe.aupn {h h1 : AH} {p : Addr} {o : AObj} (l : ALe h h1) (e : h1 p = none) : ALe h (aup h1 p o) := l.trans (.up e)
theorem ALe.none {h h1 : AH} {p : Addr} (l : ALe h h1) (e : h1 p = Option.none) : h p = Option.none := by
  cases w : h p with
  | none => rfl
  | some o => rw [l p o w] at e; cases e
end Lx

/-! Lx: the laws' own draws. -/
namespace Lx
open PySem PySem.Spec PyProof.Rows L2
variable [LawTb]
def wStart : WS :=
  (sSeq (sAsg (M.ret (.int 4711)) (aName 1))
    (sSeq (sFor (wIt (wSl (wVar 0) wNoPart (wPart (M.ret (.int 63))))) (aName 2) (sAsg (wBin aMod (wBlt aToInt (wCons (wBin aAdd (wBin aMul (wVar 1) (M.ret (.int 69621))) (wBin aMod (wBlt aAbs (wCons (wBlt aToInt (wCons (wVar 2) wNil)) wNil)) (M.ret (.int 2147483647)))) wNil)) (M.ret (.int 2147483647))) (aName 1)))
    (sSeq (sAsg (M.ret (.int 0)) (aName 3))
    (sSeq (sIf (wAnd (wBt aGt (wBlt aLen (wCons (wVar 0) wNil)) (M.ret (.int 0))) (wBt aGe (wBlt aToInt (wCons (wBin aIx (wVar 0) (M.ret (.int 0))) wNil)) (wBin aPow (M.ret (.int 10)) (M.ret (.int 18))))) (sAsg (wBlt aToInt (wCons (wBin aIx (wVar 0) (M.ret (.int 0))) wNil)) (aName 3)) sNext)
    (sRet (wLst (wCons (wVar 3) (wCons (wBin aMod (wBlt aToInt (wCons (wBin aAdd (wBin aMul (wVar 1) (M.ret (.int 48271))) (M.ret (.int 7))) wNil)) (M.ret (.int 2147483647))) (wCons (M.ret (.int 0)) wNil)))))))))
def wTake : WS :=
  (sSeq (sIf (wBt aGt (wBin aIx (wVar 0) (M.ret (.int 0))) (M.ret (.int 0))) (sSeq (sAsg (wBin aMod (wBlt aToInt (wCons (wBin aIx (wVar 0) (M.ret (.int 0))) wNil)) (wVar 1)) (aName 2))
    (sSeq (sAsg (wBin aDiv (wBin aIx (wVar 0) (M.ret (.int 0))) (wVar 1)) (aSubT (wVar 0) (M.ret (.int 0))))
    (sRet (wVar 2)))) sNext)
    (sSeq (sAsg (wBin aMod (wBlt aToInt (wCons (wBin aAdd (wBin aMul (wBin aIx (wVar 0) (M.ret (.int 1))) (M.ret (.int 48271))) (M.ret (.int 11))) wNil)) (M.ret (.int 2147483647))) (aSubT (wVar 0) (M.ret (.int 1))))
    (sRet (wBin aMod (wBlt aToInt (wCons (wBin aDiv (wBin aIx (wVar 0) (M.ret (.int 1))) (M.ret (.int 7))) wNil)) (wVar 1)))))
/-- the list of draws -/
structure IsDraw (h : AH) (p : Addr) (f s t : Int) : Prop where
  at_ : h p = some (.lst [.int f, .int s, .int t])
  f0 : 0 ≤ f
  s0 : 0 ≤ s
  s1 : s < 2147483647
theorem mulw {i j : Int} (hi : -2147483648 ≤ i ∧ i ≤ 2147483648) (hj : -2147483648 ≤ j ∧ j ≤ 2147483648) : CMulW i j := by
  have b : ∀ x : Int, -2147483648 ≤ x ∧ x ≤ 2147483648 → x.natAbs.log2 < 32 := fun x hx => by
    by_cases z : x.natAbs = 0
    · rw [z]; decide
    · exact (Nat.log2_lt z).mpr (by omega)
  have h1 := b i hi
  have h2 := b j hj
  unfold CMulW
  omega
theorem divw {i j : Int} (h0 : 0 < j) (h1 : j < 2 ^ 62) : CDivW i j := by
  refine ⟨h0, ?_⟩
  have : j.natAbs.log2 < 62 := (Nat.log2_lt (by omega)).mpr (by omega)
  omega
def cutI (ns : List Int) : List Int := (ns.drop (HT.sIx ns.length 0 none)).take (HT.sIx ns.length ns.length (some 63) - HT.sIx ns.length 0 none)
theorem cutI_eq (ns : List Int) : cutA (ns.map AV.int) none (some 63) = (cutI ns).map AV.int := by
  unfold cutA cutI
  rw [List.length_map, List.map_take, List.map_drop]
theorem take_ok {h : AH} {p : Addr} {f s t m : Int} {Q : AV → AH → Prop} {E : AX → AH → Prop} (D : IsDraw h p f s t) (m0 : 0 < m) (m1 : m < 2 ^ 62)
    (q : ∀ n f' s', 0 ≤ n → n < m → IsDraw (aup h p (.lst [.int f', .int s', .int t])) p f' s' t → Q (.int n) (aup h p (.lst [.int f', .int s', .int t]))) : fnC 2 3 wTake [.ref p, .int m] h Q E := by
  refine ⟨rfl, ?_⟩
  obtain ⟨e, f0, s0, s1⟩ := D
  unfold wTake
  simp [aIx, seqA, e]
  by_cases z : 0 < f
  · simp [z]
    refine later ?_
    simp [aIx, seqA, e, m0]
    refine later ?_
    simp [aIx, seqA, e]
    refine ⟨divw m0 m1, set_at (k := 0) e (by simp) (later ?_)⟩
    simp
    exact qu (.refl _) (q _ _ _ (Int.emod_nonneg _ (by omega)) (Int.emod_lt_of_pos _ m0) ⟨aup_s, Int.ediv_nonneg f0 (by omega), s0, s1⟩)
  · simp [z]
    refine later ?_
    simp [aIx, seqA, e]
    refine ⟨mulw (by omega) (by omega), set_at (k := 1) e (by simp) (later ?_)⟩
    simp [aIx, seqA, m0]
    refine ⟨divw (by decide) (by decide), ?_⟩
    exact qu (.refl _) (q _ _ _ (Int.emod_nonneg _ (by omega)) (Int.emod_lt_of_pos _ m0) ⟨aup_s, f0, Int.emod_nonneg _ (by omega), Int.emod_lt_of_pos _ (by decide)⟩)
theorem start_ok {h : AH} {x : AV} {ns : List Int} {Q : AV → AH → Prop} {E : AX → AH → Prop} (S : IsScript h x ns) (q : ∀ h1 p f s, ALe h h1 → IsDraw h1 p f s 0 → Q (.ref p) h1) : fnC 1 4 wStart [x] h Q E := by
  refine ⟨rfl, ?_⟩
  unfold wStart
  simp
  refine later ?_
  have hs : seqA h x = some (ns.map AV.int) := by
    rcases S with rfl | ⟨a, rfl, e⟩
    · rfl
    · simp [seqA, e]
  have hl : lenA h x = some ns.length := by
    rcases S with rfl | ⟨a, rfl, e⟩ <;> simp [lenA, *]
  have main : ∀ p h1, ALe h h1 → h1 p = some (.lst (cutA (ns.map AV.int) none (some 63))) → sForGo (fun h2 => h2 p = some (.lst (cutA (ns.map AV.int) none (some 63)))) (aName 2) (sAsg (wBin aMod (wBlt aToInt (wCons (wBin aAdd (wBin aMul (wVar 1) (M.ret (.int 69621))) (wBin aMod (wBlt aAbs (wCons (wBlt aToInt (wCons (wVar 2) wNil)) wNil)) (M.ret (.int 2147483647)))) wNil)) (M.ret (.int 2147483647))) (aName 1))
      (cutA (ns.map AV.int) none (some 63)) [some x, some (.int 4711), none, none] h1 { nx := fun σ1 h1 => Later (sSeq (sAsg (M.ret (.int 0)) (aName 3))
    (sSeq (sIf (wAnd (wBt aGt (wBlt aLen (wCons (wVar 0) wNil)) (M.ret (.int 0))) (wBt aGe (wBlt aToInt (wCons (wBin aIx (wVar 0) (M.ret (.int 0))) wNil)) (wBin aPow (M.ret (.int 10)) (M.ret (.int 18))))) (sAsg (wBlt aToInt (wCons (wBin aIx (wVar 0) (M.ret (.int 0))) wNil)) (aName 3)) sNext)
    (sRet (wLst (wCons (wVar 3) (wCons (wBin aMod (wBlt aToInt (wCons (wBin aAdd (wBin aMul (wVar 1) (M.ret (.int 48271))) (M.ret (.int 7))) wNil)) (M.ret (.int 2147483647))) (wCons (M.ret (.int 0)) wNil))))))) σ1 h1 { nx := fun x h1 => QU Q AV.non h1, rt := QU Q, ex := fun x x_1 h1 => QU E x h1 }, rt := QU Q, ex := fun x x_1 h1 => QU E x h1 } := by
    intro p h1 l e
    refine for_rest (fun xs σ h2 => h2 = h1 ∧ (∃ ms : List Int, xs = ms.map AV.int) ∧ ∃ s y, 0 ≤ s ∧ s < 2147483647 ∧ σ = [some x, some (.int s), y, none]) ?_ ?_ _ _ _ ⟨rfl, ?_, 4711, none, by omega, by omega, rfl⟩
    · rintro y xs σ h2 K ⟨rfl, ⟨ms, em⟩, s, y0, s0, s1, rfl⟩ hK
      cases ms with
      | nil => cases em
      | cons m ms =>
        cases em
        refine ⟨e, ?_⟩
        simp
        exact ⟨mulw (by omega) (by omega), hK _ _ ⟨rfl, ⟨ms, rfl⟩, _, _, Int.emod_nonneg _ (by omega), Int.emod_lt_of_pos _ (by decide), rfl⟩⟩
    · rintro σ h2 ⟨rfl, _, s, y0, s0, s1, rfl⟩
      refine ⟨e, ?_⟩
      dsimp only
      refine later ?_
      simp
      refine later ?_
      have e1 : lenA h2 x = some ns.length ∧ seqA h2 x = some (ns.map AV.int) := by
        rcases S with rfl | ⟨a, rfl, ea⟩
        · simp
        · have := l a _ ea
          simp [lenA, seqA, this]
      have fin : ∀ f : Int, 0 ≤ f → Later (sRet (wLst (wCons (wVar 3) (wCons (wBin aMod (wBlt aToInt (wCons (wBin aAdd (wBin aMul (wVar 1) (M.ret (.int 48271))) (M.ret (.int 7))) wNil)) (M.ret (.int 2147483647))) (wCons (M.ret (.int 0)) wNil))))) [some x, some (.int s), y0, some (.int f)] h2 { nx := fun x h1 => QU Q AV.non h1, rt := QU Q, ex := fun x x_1 h1 => QU E x h1 } := fun f f0 => by
        refine later ?_
        simp
        refine ⟨mulw (by omega) (by omega), fun p2 hp2 => qu (.refl _) (q _ _ _ _ (l.aupn hp2) ⟨aup_s, f0, Int.emod_nonneg _ (by omega), Int.emod_lt_of_pos _ (by decide)⟩)⟩
      simp [e1]
      cases ns with
      | nil => simpa using fin 0 (by omega)
      | cons n ns =>
        have e3 : ∀ Q : AV → AH → Prop, Q (.int n) h2 → aIx x (.int 0) h2 Q := fun Q q => .inl ⟨_, _, _, e1.2, rfl, atI_0 _ _, q⟩
        simp
        refine e3 _ ?_
        refine ⟨⟨by decide, by decide, by decide⟩, ?_⟩
        by_cases z : (10 : Int) ^ 18 ≤ n
        · have z2 : (1000000000000000000 : Int) ≤ n := by simpa using z
          simp [z2]
          refine later ?_
          simp
          exact e3 _ (by simpa using fin n (by omega))
        · have z2 : ¬ (1000000000000000000 : Int) ≤ n := by simpa using z
          simp [z2]
          exact fin 0 (by omega)
    · exact ⟨cutI ns, cutI_eq ns⟩
  rcases S with rfl | ⟨a, rfl, e⟩
  · simp
    intro p hp
    exact main p _ ((ALe.refl h).aupn hp) aup_s
  · simp [e]
    intro p hp
    exact main p _ ((ALe.refl h).aupn hp) aup_s
end Lx

namespace K66
open PySem PySem.Spec PyProof.Rows L2 Lx
def top (i : Nat) : Stmt := PySem.Challenge.pw_lacuna_k66_cuts_that_double.main.body.getD i (.Pass ⟨0, 0, 0, 0⟩)
instance : LawTb := ⟨fun K => [((He.cT K ("taken_rule", none)).2, ("taken_rule.<locals>.<lambda>" : Str))], fun _ => ⟨Str.empty, Str.empty, defArgs (top 0), [], defScope (top 0), [], [], [], []⟩⟩
abbrev f_has_more : Nat := 0
abbrev f_depth : Nat := 1
abbrev f_changed : Nat := 2
abbrev f_lift_term : Nat := 3
abbrev f_open_at : Nat := 4
abbrev f_open_term : Nat := 5
abbrev f_limited : Nat := 6
abbrev f_turned : Nat := 7
abbrev f_turned_rule : Nat := 8
abbrev f_taken_rule : Nat := 9
abbrev f_clauses : Nat := 10
abbrev f_joined : Nat := 11
abbrev f_rules_of : Nat := 12
abbrev f_goal_of : Nat := 13
abbrev f_spans : Nat := 14
abbrev f_places : Nat := 15
abbrev f_part_for : Nat := 16
abbrev f_fitted : Nat := 17
abbrev f_cut_rows : Nat := 18
abbrev f_cut : Nat := 19
abbrev f__law_start : Nat := 20
abbrev f__law_take : Nat := 21
abbrev f__law_doubled : Nat := 22
abbrev f_law : Nat := 23
abbrev s_has_more : Stmt := top 6
abbrev N_has_more : List Str := ["terms", "most", "left"]
theorem sc_has_more : FnScope N_has_more ["terms", "most"] (defScope s_has_more) := ⟨rfl, rfl, rfl, by decide +kernel, rfl, by decide +kernel, by decide +kernel⟩
abbrev s_depth : Stmt := top 7
abbrev N_depth : List Str := ["term", "level", "count", "below", "one"]
theorem sc_depth : FnScope N_depth ["term"] (defScope s_depth) := ⟨rfl, rfl, rfl, by decide +kernel, rfl, by decide +kernel, by decide +kernel⟩
abbrev s_changed : Stmt := top 8
abbrev N_changed : List Str := ["term", "change", "done", "left", "one", "outside", "ready", "inside", "at", "parts", "part"]
theorem sc_changed : FnScope N_changed ["term", "change"] (defScope s_changed) := ⟨rfl, rfl, rfl, by decide +kernel, rfl, by decide +kernel, by decide +kernel⟩
abbrev s_lift_term : Stmt := top 9
abbrev N_lift_term : List Str := ["term", "k", "change"]
theorem sc_lift_term : FnScope N_lift_term ["term", "k"] (defScope s_lift_term) := ⟨rfl, rfl, rfl, by decide +kernel, rfl, by decide +kernel, by decide +kernel⟩
abbrev s_open_at : Stmt := top 12
abbrev N_open_at : List Str := ["term", "low", "terms", "further", "many", "change"]
theorem sc_open_at : FnScope N_open_at ["term", "low", "terms", "further"] (defScope s_open_at) := ⟨rfl, rfl, rfl, by decide +kernel, rfl, by decide +kernel, by decide +kernel⟩
abbrev s_open_term : Stmt := top 13
abbrev N_open_term : List Str := ["term", "terms"]
theorem sc_open_term : FnScope N_open_term ["term", "terms"] (defScope s_open_term) := ⟨rfl, rfl, rfl, by decide +kernel, rfl, by decide +kernel, by decide +kernel⟩
abbrev s_limited : Stmt := top 14
abbrev N_limited : List Str := ["term"]
theorem sc_limited : FnScope N_limited ["term"] (defScope s_limited) := ⟨rfl, rfl, rfl, by decide +kernel, rfl, by decide +kernel, by decide +kernel⟩
abbrev s_turned : Stmt := top 18
abbrev N_turned : List Str := ["goal", "inner", "change", "kind", "rules", "part", "rule"]
theorem sc_turned : FnScope N_turned ["goal", "inner", "change"] (defScope s_turned) := ⟨rfl, rfl, rfl, by decide +kernel, rfl, by decide +kernel, by decide +kernel⟩
abbrev s_turned_rule : Stmt := top 19
abbrev N_turned_rule : List Str := ["rule", "inner", "change", "types", "predicate", "parts", "body", "below", "part"]
theorem sc_turned_rule : FnScope N_turned_rule ["rule", "inner", "change"] (defScope s_turned_rule) := ⟨rfl, rfl, rfl, by decide +kernel, rfl, by decide +kernel, by decide +kernel⟩
abbrev s_taken_rule : Stmt := top 20
abbrev N_taken_rule : List Str := ["rule", "more"]
theorem sc_taken_rule : FnScope N_taken_rule ["rule", "more"] (defScope s_taken_rule) := ⟨rfl, rfl, rfl, by decide +kernel, rfl, by decide +kernel, by decide +kernel⟩
abbrev s_clauses : Stmt := top 21
abbrev N_clauses : List Str := ["goal", "kind", "found", "types", "rules", "predicate", "parts", "given", "rule"]
theorem sc_clauses : FnScope N_clauses ["goal"] (defScope s_clauses) := ⟨rfl, rfl, rfl, by decide +kernel, rfl, by decide +kernel, by decide +kernel⟩
abbrev s_joined : Stmt := top 22
abbrev N_joined : List Str := ["goals", "found", "goal"]
theorem sc_joined : FnScope N_joined ["goals"] (defScope s_joined) := ⟨rfl, rfl, rfl, by decide +kernel, rfl, by decide +kernel, by decide +kernel⟩
abbrev s_rules_of : Stmt := top 23
abbrev N_rules_of : List Str := ["goal", "found", "types", "rules", "predicate", "parts", "rule"]
theorem sc_rules_of : FnScope N_rules_of ["goal"] (defScope s_rules_of) := ⟨rfl, rfl, rfl, by decide +kernel, rfl, by decide +kernel, by decide +kernel⟩
abbrev s_goal_of : Stmt := top 24
abbrev N_goal_of : List Str := ["rule", "types", "predicate", "parts", "body", "found", "rules", "kind"]
theorem sc_goal_of : FnScope N_goal_of ["rule"] (defScope s_goal_of) := ⟨rfl, rfl, rfl, by decide +kernel, rfl, by decide +kernel, by decide +kernel⟩
abbrev s_spans : Stmt := top 25
abbrev N_spans : List Str := ["rows", "found", "i", "row"]
theorem sc_spans : FnScope N_spans ["rows"] (defScope s_spans) := ⟨rfl, rfl, rfl, by decide +kernel, rfl, by decide +kernel, by decide +kernel⟩
abbrev s_places : Stmt := top 26
abbrev N_places : List Str := ["goal", "rules", "rows", "found", "left", "row", "one", "known", "names", "kind"]
theorem sc_places : FnScope N_places ["goal", "rules", "rows"] (defScope s_places) := ⟨rfl, rfl, rfl, by decide +kernel, rfl, by decide +kernel, by decide +kernel⟩
abbrev s_part_for : Stmt := top 27
abbrev N_part_for : List Str := ["goal", "rows", "j", "lengths", "at", "many"]
theorem sc_part_for : FnScope N_part_for ["goal", "rows", "j"] (defScope s_part_for) := ⟨rfl, rfl, rfl, by decide +kernel, rfl, by decide +kernel, by decide +kernel⟩
abbrev s_fitted : Stmt := top 28
abbrev N_fitted : List Str := ["rows", "spots", "terms", "names", "count", "more", "found", "row", "inner", "known", "number", "term"]
theorem sc_fitted : FnScope N_fitted ["rows", "spots", "terms", "names", "count", "more"] (defScope s_fitted) := ⟨rfl, rfl, rfl, by decide +kernel, rfl, by decide +kernel, by decide +kernel⟩
abbrev s_cut_rows : Stmt := top 29
abbrev N_cut_rows : List Str := ["rules", "middle", "rest", "goal", "first", "second", "parts", "count", "many", "spots", "lengths", "made", "i", "row", "below", "names", "known", "types", "inner_rules", "predicate", "heads", "here", "atom", "found", "inside"]
theorem sc_cut_rows : FnScope N_cut_rows ["rules", "middle", "rest", "goal", "first", "second"] (defScope s_cut_rows) := ⟨rfl, rfl, rfl, by decide +kernel, rfl, by decide +kernel, by decide +kernel⟩
abbrev s_cut : Stmt := top 30
abbrev N_cut : List Str := ["program", "middle", "goal", "first", "second", "rest", "rows"]
theorem sc_cut : FnScope N_cut ["program", "middle", "goal", "first", "second"] (defScope s_cut) := ⟨rfl, rfl, rfl, by decide +kernel, rfl, by decide +kernel, by decide +kernel⟩
abbrev s__law_start : Stmt := top 32
abbrev N__law_start : List Str := ["script", "seed", "cell", "first"]
theorem sc__law_start : FnScope N__law_start ["script"] (defScope s__law_start) := ⟨rfl, rfl, rfl, by decide +kernel, rfl, by decide +kernel, by decide +kernel⟩
abbrev s__law_take : Stmt := top 33
abbrev N__law_take : List Str := ["draw", "many", "digit"]
theorem sc__law_take : FnScope N__law_take ["draw", "many"] (defScope s__law_take) := ⟨rfl, rfl, rfl, by decide +kernel, rfl, by decide +kernel, by decide +kernel⟩
abbrev s__law_doubled : Stmt := top 34
abbrev N__law_doubled : List Str := ["turns", "rows", "turn", "below"]
theorem sc__law_doubled : FnScope N__law_doubled ["turns"] (defScope s__law_doubled) := ⟨rfl, rfl, rfl, by decide +kernel, rfl, by decide +kernel, by decide +kernel⟩
abbrev s_law : Stmt := top 35
abbrev N_law : List Str := ["script", "draw", "p", "q", "more", "rules", "program", "middle", "count", "first", "turns", "second", "turn", "due", "told"]
theorem sc_law : FnScope N_law ["script"] (defScope s_law) := ⟨rfl, rfl, rfl, by decide +kernel, rfl, by decide +kernel, by decide +kernel⟩
def mt_LimitError (n : Str) : Option Bool := if n = "LimitError" then some true else none
/-- has_more(terms, most): slots 0 terms, 1 most, 2 left -/
def w_has_more (C : CS) (d : Nat) : WS :=
  (sSeq (sAsg (wBlt aList (wCons (wVar 0) wNil)) (aName 2))
    (sSeq (sWhile (wAnd (wTru (wVar 2)) (wBt aGe (wVar 1) (M.ret (.int 0)))) (sSeq (sAug 1 aSub (M.ret (.int 1)))
    (sExpr (wM aExt (wVar 2) (wCons (wBin aIx (wM aPop (wVar 2) wNil) (M.ret (.int 2))) wNil)))))
    (sRet (wBin aLt (wVar 1) (M.ret (.int 0))))))
/-- depth(term): slots 0 term, 1 level, 2 count, 3 below, 4 one -/
def w_depth (C : CS) (d : Nat) : WS :=
  (sSeq (sAsg (wLst (wCons (wVar 0) wNil)) (aName 1))
    (sSeq (sAsg (M.ret (.int 0)) (aName 2))
    (sSeq (sWhile (wTru (wVar 1)) (sSeq (sAug 2 aIadd (M.ret (.int 1)))
    (sSeq (sAsg (wLst wNil) (aName 3))
    (sSeq (sFor (wIt (wVar 1)) (aName 4) (sExpr (wM aExt (wVar 3) (wCons (wBin aIx (wVar 4) (M.ret (.int 2))) wNil))))
    (sAsg (wVar 3) (aName 1))))))
    (sRet (wVar 2)))))
/-- changed(term, change): slots 0 term, 1 change, 2 done, 3 left, 4 one, 5 outside, 6 ready, 7 inside, 8 at, 9 parts, 10 part -/
def w_changed (C : CS) (d : Nat) : WS :=
  (sSeq (sAsg (wLst wNil) (aName 2))
    (sSeq (sAsg (wLst (wCons (wTup (wCons (wVar 0) (wCons (M.ret (.int 0)) (wCons (M.ret (.bl false)) wNil)))) wNil)) (aName 3))
    (sSeq (sWhile (wTru (wVar 3)) (sSeq (sAsg (wM aPop (wVar 3) wNil) (aGtup 3 (aGcons (aName 4) (aGcons (aName 5) (aGcons (aName 6) aGnil)))))
    (sSeq (sAsg (wBin aAdd (wVar 5) (wBin aIx (wVar 4) (M.ret (.int 0)))) (aName 7))
    (sIf (wTru (wVar 6)) (sSeq (sAsg (wBin aSub (wBlt aLen (wCons (wVar 2) wNil)) (wBlt aLen (wCons (wBin aIx (wVar 4) (M.ret (.int 2))) wNil))) (aName 8))
    (sSeq (sAsg (wBlt aTuple (wCons (wSl (wVar 2) (wPart (wVar 8)) wNoPart) wNil)) (aName 9))
    (sSeq sNo
    (sExpr (wM aApp (wVar 2) (wCons wNo wNil)))))) (sSeq (sExpr (wM aApp (wVar 3) (wCons (wTup (wCons (wVar 4) (wCons (wVar 5) (wCons (M.ret (.bl true)) wNil)))) wNil)))
    (sExpr (wM aExt (wVar 3) (wCons (wLc (wIt (wUn aRev (wBin aIx (wVar 4) (M.ret (.int 2))))) (aName 10) wYes (wTup (wCons (wVar 10) (wCons (wVar 7) (wCons (M.ret (.bl false)) wNil)))) [10]) wNil))))))))
    (sRet (wBin aIx (wVar 2) (M.ret (.int 0)))))))
/-- lift_term(term, k): slots 0 term, 1 k, 2 change -/
def w_lift_term (C : CS) (d : Nat) : WS :=
  (sSeq (sIf (wBt (aEq (16 * d + 190)) (wVar 1) (M.ret (.int 0))) (sRet (wVar 0)) sNext)
    (sSeq sNo
    (sRet (wCall (C f_changed) (wCons (wVar 0) (wCons (wVar 2) wNil))))))
/-- open_at(term, low, terms, further): slots 0 term, 1 low, 2 terms, 3 further, 4 many, 5 change -/
def w_open_at (C : CS) (d : Nat) : WS :=
  (sSeq (sAsg (wBlt aLen (wCons (wVar 2) wNil)) (aName 4))
    (sSeq (sIf (wTru (wCall (C f_has_more) (wCons (wLst (wCons (wVar 0) wNil)) (wCons (M.ret (.int 1000000)) wNil)))) (sRaise "LimitError") sNext)
    (sSeq sNo
    (sRet (wCall (C f_changed) (wCons (wVar 0) (wCons (wVar 5) wNil)))))))
/-- open_term(term, terms): slots 0 term, 1 terms -/
def w_open_term (C : CS) (d : Nat) : WS :=
  (sSeq (sIf (wNot (wTru (wVar 1))) (sRet (wVar 0)) sNext)
    (sRet (wCall (C f_open_at) (wCons (wTup (wCons (M.ret (.int 0)) (wCons (wBin aIx (wVar 0) (M.ret (.int 1))) (wCons (wBin aIx (wVar 0) (M.ret (.int 2))) wNil)))) (wCons (M.ret (.int 0)) (wCons (wVar 1) (wCons (M.ret (.int 0)) wNil)))))))
/-- limited(term): slots 0 term -/
def w_limited (C : CS) (d : Nat) : WS :=
  (sSeq (sIf (wOr (wTru (wCall (C f_has_more) (wCons (wLst (wCons (wVar 0) wNil)) (wCons (M.ret (.int 2000)) wNil)))) (wBt aGt (wCall (C f_depth) (wCons (wVar 0) wNil)) (M.ret (.int 100)))) (sRaise "LimitError") sNext)
    (sRet (wVar 0)))
/-- turned(goal, inner, change): slots 0 goal, 1 inner, 2 change, 3 kind, 4 rules, 5 part, 6 rule -/
def w_turned (C : CS) (d : Nat) : WS :=
  (sSeq (sAsg (wBin aIx (wVar 0) (M.ret (.int 0))) (aName 3))
    (sSeq (sIf (wBt (aEq (16 * d + 190)) (wVar 3) (M.ret (.str "true"))) (sRet (wVar 0)) sNext)
    (sSeq (sIf (wBt (aEq (16 * d + 190)) (wVar 3) (M.ret (.str "atom"))) (sRet (wTup (wCons (wVar 3) (wCons (wBin aIx (wVar 0) (M.ret (.int 1))) (wCons (wBlt aTuple (wCons (wLc (wIt (wBin aIx (wVar 0) (M.ret (.int 2)))) (aName 5) wYes wNo [5]) wNil)) wNil))))) sNext)
    (sSeq (sIf (wBt (aIn false) (wVar 3) (wTup (wCons (M.ret (.str "some")) (wCons (M.ret (.str "all")) wNil)))) (sRet (wTup (wCons (wVar 3) (wCons (wBin aIx (wVar 0) (M.ret (.int 1))) (wCons (wCall (C f_turned) (wCons (wBin aIx (wVar 0) (M.ret (.int 2))) (wCons (wBin aAdd (wVar 1) (M.ret (.int 1))) (wCons (wVar 2) wNil)))) wNil))))) sNext)
    (sSeq (sIf (wBt (aEq (16 * d + 190)) (wVar 3) (M.ret (.str "given"))) (sSeq (sAsg (wBlt aTuple (wCons (wLc (wIt (wBin aIx (wVar 0) (M.ret (.int 1)))) (aName 6) wYes (wCall (C f_turned_rule) (wCons (wVar 6) (wCons (wVar 1) (wCons (wVar 2) wNil)))) [6]) wNil)) (aName 4))
    (sRet (wTup (wCons (wVar 3) (wCons (wVar 4) (wCons (wCall (C f_turned) (wCons (wBin aIx (wVar 0) (M.ret (.int 2))) (wCons (wVar 1) (wCons (wVar 2) wNil)))) wNil)))))) sNext)
    (sSeq (sIf (wBt (aIn false) (wVar 3) (wTup (wCons (M.ret (.str "and")) (wCons (M.ret (.str "or")) wNil)))) (sRet (wTup (wCons (wVar 3) (wCons (wCall (C f_turned) (wCons (wBin aIx (wVar 0) (M.ret (.int 1))) (wCons (wVar 1) (wCons (wVar 2) wNil)))) (wCons (wCall (C f_turned) (wCons (wBin aIx (wVar 0) (M.ret (.int 2))) (wCons (wVar 1) (wCons (wVar 2) wNil)))) wNil))))) sNext)
    (sRet (wTup (wCons (wVar 3) (wCons (wBin aIx (wVar 0) (M.ret (.int 1))) (wCons wNo (wCons wNo wNil))))))))))))
/-- turned_rule(rule, inner, change): slots 0 rule, 1 inner, 2 change, 3 types, 4 predicate, 5 parts, 6 body, 7 below, 8 part -/
def w_turned_rule (C : CS) (d : Nat) : WS :=
  (sSeq (sAsg (wVar 0) (aGtup 4 (aGcons (aName 3) (aGcons (aName 4) (aGcons (aName 5) (aGcons (aName 6) aGnil))))))
    (sSeq (sAsg (wBin aAdd (wVar 1) (wBlt aLen (wCons (wVar 3) wNil))) (aName 7))
    (sRet (wTup (wCons (wVar 3) (wCons (wVar 4) (wCons (wBlt aTuple (wCons (wLc (wIt (wVar 5)) (aName 8) wYes wNo [8]) wNil)) (wCons (wCall (C f_turned) (wCons (wVar 6) (wCons (wVar 7) (wCons (wVar 2) wNil)))) wNil))))))))
/-- taken_rule(rule, more): slots 0 rule, 1 more -/
def w_taken_rule (C : CS) (d : Nat) : WS :=
  (sRet (wCall (C f_turned_rule) (wCons (wVar 0) (wCons (M.ret (.int 0)) (wCons wLam0 wNil)))))
/-- clauses(goal): slots 0 goal, 1 kind, 2 found, 3 types, 4 rules, 5 predicate, 6 parts, 7 given, 8 rule -/
def w_clauses (C : CS) (d : Nat) : WS :=
  (sSeq (sAsg (wBin aIx (wVar 0) (M.ret (.int 0))) (aName 1))
    (sSeq (sIf (wBt (aEq (16 * d + 190)) (wVar 1) (M.ret (.str "true"))) (sRet (wTup wNil)) sNext)
    (sSeq (sIf (wBt (aEq (16 * d + 190)) (wVar 1) (M.ret (.str "atom"))) (sRet (wTup (wCons (wTup (wCons (wTup wNil) (wCons (wTup wNil) (wCons (wBin aIx (wVar 0) (M.ret (.int 1))) (wCons (wBin aIx (wVar 0) (M.ret (.int 2))) wNil))))) wNil))) sNext)
    (sSeq (sIf (wBt (aEq (16 * d + 190)) (wVar 1) (M.ret (.str "and"))) (sRet (wBin aAdd (wCall (C f_clauses) (wCons (wBin aIx (wVar 0) (M.ret (.int 1))) wNil)) (wCall (C f_clauses) (wCons (wBin aIx (wVar 0) (M.ret (.int 2))) wNil)))) sNext)
    (sSeq (sAsg (wLst wNil) (aName 2))
    (sSeq (sFor (wIt (wCall (C f_clauses) (wCons (wBin aIx (wVar 0) (M.ret (.int 2))) wNil))) (aGtup 4 (aGcons (aName 3) (aGcons (aName 4) (aGcons (aName 5) (aGcons (aName 6) aGnil))))) (sIf (wBt (aEq (16 * d + 190)) (wVar 1) (M.ret (.str "all"))) (sExpr (wM aApp (wVar 2) (wCons (wTup (wCons (wBin aAdd (wTup (wCons (wBin aIx (wVar 0) (M.ret (.int 1))) wNil)) (wVar 3)) (wCons (wVar 4) (wCons (wVar 5) (wCons (wVar 6) wNil))))) wNil))) (sSeq (sAsg (wBlt aTuple (wCons (wLc (wIt (wBin aIx (wVar 0) (M.ret (.int 1)))) (aName 8) wYes (wCall (C f_taken_rule) (wCons (wVar 8) (wCons (wBlt aLen (wCons (wVar 3) wNil)) wNil))) [8]) wNil)) (aName 7))
    (sExpr (wM aApp (wVar 2) (wCons (wTup (wCons (wVar 3) (wCons (wBin aAdd (wVar 7) (wVar 4)) (wCons (wVar 5) (wCons (wVar 6) wNil))))) wNil))))))
    (sRet (wBlt aTuple (wCons (wVar 2) wNil)))))))))
/-- joined(goals): slots 0 goals, 1 found, 2 goal -/
def w_joined (C : CS) (d : Nat) : WS :=
  (sSeq (sIf (wNot (wTru (wVar 0))) (sRet (wTup (wCons (M.ret (.str "true")) wNil))) sNext)
    (sSeq (sAsg (wBin aIx (wVar 0) (wUn aNeg (M.ret (.int 1)))) (aName 1))
    (sSeq (sFor (wIt (wUn aRev (wSl (wVar 0) wNoPart (wPart (wUn aNeg (M.ret (.int 1))))))) (aName 2) (sAsg (wTup (wCons (M.ret (.str "and")) (wCons (wVar 2) (wCons (wVar 1) wNil)))) (aName 1)))
    (sRet (wVar 1)))))
/-- rules_of(goal): slots 0 goal, 1 found, 2 types, 3 rules, 4 predicate, 5 parts, 6 rule -/
def w_rules_of (C : CS) (d : Nat) : WS :=
  (sSeq (sAsg (wLst wNil) (aName 1))
    (sSeq (sFor (wIt (wCall (C f_clauses) (wCons (wVar 0) wNil))) (aGtup 4 (aGcons (aName 2) (aGcons (aName 3) (aGcons (aName 4) (aGcons (aName 5) aGnil))))) (sExpr (wM aApp (wVar 1) (wCons (wTup (wCons (wVar 2) (wCons (wVar 4) (wCons (wVar 5) (wCons (wCall (C f_joined) (wCons (wLc (wIt (wVar 3)) (aName 6) wYes (wCall (C f_goal_of) (wCons (wVar 6) wNil)) [6]) wNil)) wNil))))) wNil))))
    (sRet (wBlt aTuple (wCons (wVar 1) wNil)))))
/-- goal_of(rule): slots 0 rule, 1 types, 2 predicate, 3 parts, 4 body, 5 found, 6 rules, 7 kind -/
def w_goal_of (C : CS) (d : Nat) : WS :=
  (sSeq (sAsg (wVar 0) (aGtup 4 (aGcons (aName 1) (aGcons (aName 2) (aGcons (aName 3) (aGcons (aName 4) aGnil))))))
    (sSeq (sAsg (wTup (wCons (M.ret (.str "atom")) (wCons (wVar 2) (wCons (wVar 3) wNil)))) (aName 5))
    (sSeq (sAsg (wCall (C f_rules_of) (wCons (wVar 4) wNil)) (aName 6))
    (sSeq (sIf (wTru (wVar 6)) (sAsg (wTup (wCons (M.ret (.str "given")) (wCons (wVar 6) (wCons (wVar 5) wNil)))) (aName 5)) sNext)
    (sSeq (sFor (wIt (wUn aRev (wVar 1))) (aName 7) (sAsg (wTup (wCons (M.ret (.str "all")) (wCons (wVar 7) (wCons (wVar 5) wNil)))) (aName 5)))
    (sRet (wVar 5)))))))
/-- spans(rows): slots 0 rows, 1 found, 2 i, 3 row -/
def w_spans (C : CS) (d : Nat) : WS :=
  (sSeq (sAsg (wLc (wIt (wVar 0)) (aName 3) wYes (M.ret (.int 1)) [3]) (aName 1))
    (sSeq (sFor (wRngD (wCons (wBin aSub (wBlt aLen (wCons (wVar 0) wNil)) (M.ret (.int 1))) (wCons (wUn aNeg (M.ret (.int 1))) (wCons (wUn aNeg (M.ret (.int 1))) wNil)))) (aName 2) (sSeq (sIf (wBt (aIn true) (wBin aIx (wBin aIx (wVar 0) (wVar 2)) (M.ret (.int 0))) (M.ret (.tup [(.str "true"), (.str "equal"), (.str "match")]))) (sAugS aIadd (wVar 1) (wVar 2) (wBin aIx (wVar 1) (wBin aAdd (wVar 2) (M.ret (.int 1))))) sNext)
    (sIf (wBt (aEq (16 * d + 190)) (wBin aIx (wBin aIx (wVar 0) (wVar 2)) (M.ret (.int 0))) (M.ret (.str "and"))) (sAugS aIadd (wVar 1) (wVar 2) (wBin aIx (wVar 1) (wBin aAdd (wBin aAdd (wVar 2) (M.ret (.int 1))) (wBin aIx (wVar 1) (wBin aAdd (wVar 2) (M.ret (.int 1))))))) sNext)))
    (sRet (wVar 1))))
/-- places(goal, rules, rows): slots 0 goal, 1 rules, 2 rows, 3 found, 4 left, 5 row, 6 one, 7 known, 8 names, 9 kind -/
def w_places (C : CS) (d : Nat) : WS :=
  (sSeq (sAsg (wLst wNil) (aName 3))
    (sSeq (sAsg (wLst (wCons (wTup (wCons (wVar 0) (wCons (wVar 1) (wCons (M.ret (.int 0)) wNil)))) wNil)) (aName 4))
    (sSeq (sFor (wIt (wVar 2)) (aName 5) (sSeq (sAsg (wM aPop (wVar 4) wNil) (aGtup 3 (aGcons (aName 6) (aGcons (aName 7) (aGcons (aName 8) aGnil)))))
    (sSeq (sExpr (wM aApp (wVar 3) (wCons (wTup (wCons (wVar 8) (wCons (wVar 7) wNil))) wNil)))
    (sSeq (sAsg (wBin aIx (wVar 5) (M.ret (.int 0))) (aName 9))
    (sIf (wBt (aEq (16 * d + 190)) (wVar 9) (M.ret (.str "and"))) (sSeq (sExpr (wM aApp (wVar 4) (wCons (wTup (wCons (wBin aIx (wVar 6) (M.ret (.int 2))) (wCons (wVar 7) (wCons (wVar 8) wNil)))) wNil)))
    (sExpr (wM aApp (wVar 4) (wCons (wTup (wCons (wBin aIx (wVar 6) (M.ret (.int 1))) (wCons (wVar 7) (wCons (wVar 8) wNil)))) wNil)))) (sIf (wBt (aEq (16 * d + 190)) (wVar 9) (M.ret (.str "left"))) (sExpr (wM aApp (wVar 4) (wCons (wTup (wCons (wBin aIx (wVar 6) (M.ret (.int 1))) (wCons (wVar 7) (wCons (wVar 8) wNil)))) wNil))) (sIf (wBt (aIn false) (wVar 9) (wTup (wCons (M.ret (.str "right")) (wCons (M.ret (.str "some")) wNil)))) (sExpr (wM aApp (wVar 4) (wCons (wTup (wCons (wBin aIx (wVar 6) (M.ret (.int 2))) (wCons (wVar 7) (wCons (wVar 8) wNil)))) wNil))) (sIf (wBt (aEq (16 * d + 190)) (wVar 9) (M.ret (.str "all"))) (sExpr (wM aApp (wVar 4) (wCons (wTup (wCons (wBin aIx (wVar 6) (M.ret (.int 2))) (wCons (wVar 7) (wCons (wBin aAdd (wVar 8) (M.ret (.int 1))) wNil)))) wNil))) (sIf (wBt (aEq (16 * d + 190)) (wVar 9) (M.ret (.str "given"))) (sExpr (wM aApp (wVar 4) (wCons (wTup (wCons (wBin aIx (wVar 6) (M.ret (.int 2))) (wCons (wBin aAdd (wVar 7) (wBin aIx (wVar 6) (M.ret (.int 1)))) (wCons (wVar 8) wNil)))) wNil))) (sIf (wBt (aEq (16 * d + 190)) (wVar 9) (M.ret (.str "use"))) (sExpr (wM aApp (wVar 4) (wCons (wTup (wCons (wBin aIx (wBin aIx (wVar 7) (wBin aIx (wVar 5) (M.ret (.int 1)))) (M.ret (.int 3))) (wCons (wVar 7) (wCons (wVar 8) wNil)))) wNil))) sNext))))))))))
    (sRet (wVar 3)))))
/-- part_for(goal, rows, j): slots 0 goal, 1 rows, 2 j, 3 lengths, 4 at, 5 many -/
def w_part_for (C : CS) (d : Nat) : WS :=
  (sSeq (sAsg (wCall (C f_spans) (wCons (wVar 1) wNil)) (aName 3))
    (sSeq (sAsg (M.ret (.int 0)) (aName 4))
    (sSeq (sWhile (wBt (aNe (16 * d + 190)) (wBin aIx (wBin aIx (wVar 1) (wVar 4)) (M.ret (.int 0))) (M.ret (.str "use"))) (sIf (wBt (aEq (16 * d + 190)) (wBin aIx (wBin aIx (wVar 1) (wVar 4)) (M.ret (.int 0))) (M.ret (.str "and"))) (sSeq (sAsg (wBlt aLen (wCons (wCall (C f_clauses) (wCons (wBin aIx (wVar 0) (M.ret (.int 1))) wNil)) wNil)) (aName 5))
    (sSeq (sAug 4 aIadd (M.ret (.int 1)))
    (sIf (wBt aLt (wVar 2) (wVar 5)) (sAsg (wBin aIx (wVar 0) (M.ret (.int 1))) (aName 0)) (sSeq (sAug 2 aSub (wVar 5))
    (sSeq (sAug 4 aIadd (wBin aIx (wVar 3) (wVar 4)))
    (sAsg (wBin aIx (wVar 0) (M.ret (.int 2))) (aName 0))))))) (sSeq (sAug 4 aIadd (M.ret (.int 1)))
    (sAsg (wBin aIx (wVar 0) (M.ret (.int 2))) (aName 0)))))
    (sRet (wSl (wVar 1) (wPart (wVar 4)) (wPart (wBin aAdd (wVar 4) (wBin aIx (wVar 3) (wVar 4)))))))))
/-- fitted(rows, spots, terms, names, count, more): slots 0 rows, 1 spots, 2 terms, 3 names, 4 count, 5 more, 6 found, 7 row, 8 inner, 9 known, 10 number, 11 term -/
def w_fitted (C : CS) (d : Nat) : WS :=
  (sSeq (sAsg (wLst wNil) (aName 6))
    (sSeq (sFor (wZip (wCons (wVar 0) (wCons (wVar 1) wNil))) (aGtup 2 (aGcons (aName 7) (aGcons (aGtup 2 (aGcons (aName 8) (aGcons (aName 9) aGnil))) aGnil))) (sSeq (sIf (wBt (aEq (16 * d + 190)) (wBin aIx (wVar 7) (M.ret (.int 0))) (M.ret (.str "use"))) (sSeq (sAsg (wIf (wBt aLt (wBin aIx (wVar 7) (M.ret (.int 1))) (wVar 4)) (wBin aIx (wVar 7) (M.ret (.int 1))) (wBin aAdd (wBin aIx (wVar 7) (M.ret (.int 1))) (wVar 5))) (aName 10))
    (sAsg (wTup (wCons (M.ret (.str "use")) (wCons (wVar 10) (wCons (wBlt aTuple (wCons (wLc (wIt (wBin aIx (wVar 7) (M.ret (.int 2)))) (aName 11) wYes (wCall (C f_limited) (wCons (wCall (C f_open_at) (wCons (wVar 11) (wCons (wVar 8) (wCons (wVar 2) (wCons (wVar 3) wNil))))) wNil)) [11]) wNil)) wNil)))) (aName 7))) (sIf (wBt (aEq (16 * d + 190)) (wBin aIx (wVar 7) (M.ret (.int 0))) (M.ret (.str "some"))) (sAsg (wTup (wCons (M.ret (.str "some")) (wCons (wCall (C f_limited) (wCons (wCall (C f_open_at) (wCons (wBin aIx (wVar 7) (M.ret (.int 1))) (wCons (wVar 8) (wCons (wVar 2) (wCons (wVar 3) wNil))))) wNil)) wNil))) (aName 7)) sNext))
    (sExpr (wM aApp (wVar 6) (wCons (wVar 7) wNil)))))
    (sRet (wVar 6))))
/-- cut_rows(rules, middle, rest, goal, first, second): slots 0 rules, 1 middle, 2 rest, 3 goal, 4 first, 5 second, 6 parts, 7 count, 8 many, 9 spots, 10 lengths, 11 made, 12 i, 13 row, 14 below, 15 names, 16 known, 17 types, 18 inner_rules, 19 predicate, 20 heads, 21 here, 22 atom, 23 found, 24 inside -/
def w_cut_rows (C : CS) (d : Nat) : WS :=
  (sSeq (sAsg (wCall (C f_clauses) (wCons (wVar 1) wNil)) (aName 6))
    (sSeq (sPar 7 8 (wCons (wBlt aLen (wCons (wVar 0) wNil)) (wCons (wBlt aLen (wCons (wVar 2) wNil)) wNil)))
    (sSeq (sAsg (wCall (C f_places) (wCons (wVar 3) (wCons (wBin aAdd (wVar 0) (wVar 2)) (wCons (wVar 5) wNil)))) (aName 9))
    (sSeq (sAsg (wCall (C f_spans) (wCons (wVar 5) wNil)) (aName 10))
    (sSeq (sAsg wDict0 (aName 11))
    (sSeq (sFor (wRngD (wCons (wBin aSub (wBlt aLen (wCons (wVar 5) wNil)) (M.ret (.int 1))) (wCons (wUn aNeg (M.ret (.int 1))) (wCons (wUn aNeg (M.ret (.int 1))) wNil)))) (aName 12) (sSeq (sAsg (wBin aIx (wVar 5) (wVar 12)) (aName 13))
    (sSeq (sAsg (wIf (wBt (aIn false) (wBin aIx (wVar 13) (M.ret (.int 0))) (M.ret (.tup [(.str "true"), (.str "equal"), (.str "match")]))) (wLst wNil) (wBin aIx (wVar 11) (wBin aAdd (wVar 12) (M.ret (.int 1))))) (aName 14))
    (sSeq (sIf (wBt (aEq (16 * d + 190)) (wBin aIx (wVar 13) (M.ret (.int 0))) (M.ret (.str "and"))) (sAsg (wBin aAdd (wVar 14) (wBin aIx (wVar 11) (wBin aAdd (wBin aAdd (wVar 12) (M.ret (.int 1))) (wBin aIx (wVar 10) (wBin aAdd (wVar 12) (M.ret (.int 1))))))) (aName 14)) sNext)
    (sSeq (sIf (wAnd (wBt (aEq (16 * d + 190)) (wBin aIx (wVar 13) (M.ret (.int 0))) (M.ret (.str "use"))) (wBl (wChnV aLe aLt (wVar 7) (wBin aIx (wVar 13) (M.ret (.int 1))) (wBin aAdd (wVar 7) (wVar 8))))) (sSeq (sAsg (wBin aIx (wVar 9) (wVar 12)) (aGtup 2 (aGcons (aName 15) (aGcons (aName 16) aGnil))))
    (sSeq (sAsg (wBin aIx (wVar 6) (wBin aSub (wBin aIx (wVar 13) (M.ret (.int 1))) (wVar 7))) (aGtup 4 (aGcons (aName 17) (aGcons (aName 18) (aGcons (aName 19) (aGcons (aName 20) aGnil))))))
    (sSeq (sAsg (wBin aAdd (wVar 0) (wSl (wVar 16) (wPart (wBin aAdd (wVar 7) (wVar 8))) wNoPart)) (aName 21))
    (sSeq (sAsg (wTup (wCons (M.ret (.str "atom")) (wCons (wVar 19) (wCons (wVar 20) wNil)))) (aName 22))
    (sSeq (sAsg (wCall (C f_part_for) (wCons (wVar 1) (wCons (wVar 4) (wCons (wBin aSub (wBin aIx (wVar 13) (M.ret (.int 1))) (wVar 7)) wNil)))) (aName 23))
    (sSeq (sAsg (wCall (C f_places) (wCons (wVar 22) (wCons (wBin aAdd (wVar 0) (wVar 18)) (wCons (wVar 23) wNil)))) (aName 24))
    (sSeq (sAsg (wCall (C f_fitted) (wCons (wVar 23) (wCons (wVar 24) (wCons (wBin aIx (wVar 13) (M.ret (.int 2))) (wCons (wVar 15) (wCons (wVar 7) (wCons (wBin aSub (wBlt aLen (wCons (wVar 21) wNil)) (wVar 7)) wNil))))))) (aName 23))
    (sAsg (wCall (C f_cut_rows) (wCons (wVar 21) (wCons (wBin aIx (wBin aIx (wVar 2) (wBin aSub (wBin aIx (wVar 13) (M.ret (.int 1))) (wVar 7))) (M.ret (.int 3))) (wCons (wVar 18) (wCons (wVar 22) (wCons (wVar 14) (wCons (wVar 23) wNil))))))) (aSubT (wVar 11) (wVar 12)))))))))) (sIf (wAnd (wBt (aEq (16 * d + 190)) (wBin aIx (wVar 13) (M.ret (.int 0))) (M.ret (.str "use"))) (wBt aGe (wBin aIx (wVar 13) (M.ret (.int 1))) (wVar 7))) (sAsg (wBin aAdd (wLst (wCons (wTup (wCons (M.ret (.str "use")) (wCons (wBin aSub (wBin aIx (wVar 13) (M.ret (.int 1))) (wVar 8)) (wCons (wBin aIx (wVar 13) (M.ret (.int 2))) wNil)))) wNil)) (wVar 14)) (aSubT (wVar 11) (wVar 12))) (sAsg (wBin aAdd (wLst (wCons (wVar 13) wNil)) (wVar 14)) (aSubT (wVar 11) (wVar 12)))))
    (sIf (wBt aGt (wBlt aLen (wCons (wBin aIx (wVar 11) (wVar 12)) wNil)) (M.ret (.int 4000))) (sRaise "LimitError") sNext))))))
    (sRet (wBin aIx (wVar 11) (M.ret (.int 0))))))))))
/-- cut(program, middle, goal, first, second): slots 0 program, 1 middle, 2 goal, 3 first, 4 second, 5 rest, 6 rows -/
def w_cut (C : CS) (d : Nat) : WS :=
  (sSeq (sAsg (wCall (C f_rules_of) (wCons (wVar 1) wNil)) (aName 5))
    (sSeq (sAsg (wIf (wTru (wVar 5)) (wSl (wVar 4) (wPart (M.ret (.int 1))) wNoPart) (wVar 4)) (aName 6))
    (sRet (wBlt aTuple (wCons (wCall (C f_cut_rows) (wCons (wBin aIx (wVar 0) (M.ret (.int 1))) (wCons (wVar 1) (wCons (wVar 5) (wCons (wVar 2) (wCons (wBlt aList (wCons (wVar 3) wNil)) (wCons (wBlt aList (wCons (wVar 6) wNil)) wNil))))))) wNil)))))
/-- _law_start(script): slots 0 script, 1 seed, 2 cell, 3 first -/
def w__law_start (C : CS) (d : Nat) : WS :=
  (sSeq (sAsg (M.ret (.int 4711)) (aName 1))
    (sSeq (sFor (wIt (wSl (wVar 0) wNoPart (wPart (M.ret (.int 63))))) (aName 2) (sAsg (wBin aMod (wBlt aToInt (wCons (wBin aAdd (wBin aMul (wVar 1) (M.ret (.int 69621))) (wBin aMod (wBlt aAbs (wCons (wBlt aToInt (wCons (wVar 2) wNil)) wNil)) (M.ret (.int 2147483647)))) wNil)) (M.ret (.int 2147483647))) (aName 1)))
    (sSeq (sAsg (M.ret (.int 0)) (aName 3))
    (sSeq (sIf (wAnd (wBt aGt (wBlt aLen (wCons (wVar 0) wNil)) (M.ret (.int 0))) (wBt aGe (wBlt aToInt (wCons (wBin aIx (wVar 0) (M.ret (.int 0))) wNil)) (wBin aPow (M.ret (.int 10)) (M.ret (.int 18))))) (sAsg (wBlt aToInt (wCons (wBin aIx (wVar 0) (M.ret (.int 0))) wNil)) (aName 3)) sNext)
    (sRet (wLst (wCons (wVar 3) (wCons (wBin aMod (wBlt aToInt (wCons (wBin aAdd (wBin aMul (wVar 1) (M.ret (.int 48271))) (M.ret (.int 7))) wNil)) (M.ret (.int 2147483647))) (wCons (M.ret (.int 0)) wNil)))))))))
/-- _law_take(draw, many): slots 0 draw, 1 many, 2 digit -/
def w__law_take (C : CS) (d : Nat) : WS :=
  (sSeq (sIf (wBt aGt (wBin aIx (wVar 0) (M.ret (.int 0))) (M.ret (.int 0))) (sSeq (sAsg (wBin aMod (wBlt aToInt (wCons (wBin aIx (wVar 0) (M.ret (.int 0))) wNil)) (wVar 1)) (aName 2))
    (sSeq (sAsg (wBin aDiv (wBin aIx (wVar 0) (M.ret (.int 0))) (wVar 1)) (aSubT (wVar 0) (M.ret (.int 0))))
    (sRet (wVar 2)))) sNext)
    (sSeq (sAsg (wBin aMod (wBlt aToInt (wCons (wBin aAdd (wBin aMul (wBin aIx (wVar 0) (M.ret (.int 1))) (M.ret (.int 48271))) (M.ret (.int 11))) wNil)) (M.ret (.int 2147483647))) (aSubT (wVar 0) (M.ret (.int 1))))
    (sRet (wBin aMod (wBlt aToInt (wCons (wBin aDiv (wBin aIx (wVar 0) (M.ret (.int 1))) (M.ret (.int 7))) wNil)) (wVar 1)))))
/-- _law_doubled(turns): slots 0 turns, 1 rows, 2 turn, 3 below -/
def w__law_doubled (C : CS) (d : Nat) : WS :=
  (sSeq (sAsg (wLst (wCons (wTup (wCons (M.ret (.str "use")) (wCons (M.ret (.int 2)) (wCons (wTup wNil) wNil)))) (wCons (wTup (wCons (M.ret (.str "true")) wNil)) wNil))) (aName 1))
    (sSeq (sFor (wRng1 (wCons (wVar 0) wNil)) (aName 2) (sSeq (sAsg (wBin aAdd (wBin aAdd (wLst (wCons (wTup (wCons (M.ret (.str "use")) (wCons (M.ret (.int 1)) (wCons (wTup wNil) wNil)))) (wCons (wTup (wCons (M.ret (.str "and")) wNil)) wNil))) (wVar 1)) (wVar 1)) (aName 3))
    (sAsg (wBin aAdd (wLst (wCons (wTup (wCons (M.ret (.str "use")) (wCons (M.ret (.int 0)) (wCons (wTup wNil) wNil)))) wNil)) (wVar 3)) (aName 1))))
    (sRet (wSl (wVar 1) (wPart (M.ret (.int 1))) wNoPart))))
/-- law(script): slots 0 script, 1 draw, 2 p, 3 q, 4 more, 5 rules, 6 program, 7 middle, 8 count, 9 first, 10 turns, 11 second, 12 turn, 13 due, 14 told -/
def w_law (C : CS) (d : Nat) : WS :=
  (sSeq (sAsg (wCall (C f__law_start) (wCons (wVar 0) wNil)) (aName 1))
    (sSeq (sAsg (wTup (wCons (wTup (wCons (M.ret (.str "atom")) (wCons (M.ret (.str "p")) (wCons (wTup wNil) wNil)))) (wCons (wTup (wCons (M.ret (.str "atom")) (wCons (M.ret (.str "q")) (wCons (wTup wNil) wNil)))) wNil))) (aGtup 2 (aGcons (aName 2) (aGcons (aName 3) aGnil))))
    (sSeq (sAsg (wCall (C f__law_take) (wCons (wVar 1) (wCons (M.ret (.int 5)) wNil))) (aName 4))
    (sSeq (sAsg (wLst (wCons (wTup (wCons (wTup wNil) (wCons (M.ret (.str "q")) (wCons (wTup wNil) (wCons (wVar 2) wNil))))) (wCons (wTup (wCons (wTup wNil) (wCons (M.ret (.str "p")) (wCons (wTup wNil) (wCons (wTup (wCons (M.ret (.str "and")) (wCons (wVar 3) (wCons (wVar 3) wNil)))) wNil))))) (wCons (wTup (wCons (wTup wNil) (wCons (M.ret (.str "q")) (wCons (wTup wNil) (wCons (wTup (wCons (M.ret (.str "true")) wNil)) wNil))))) wNil)))) (aName 5))
    (sSeq (sAsg (wBin aAdd (wVar 5) (wBin aMul (wLst (wCons (wTup (wCons (wTup wNil) (wCons (M.ret (.str "q")) (wCons (wTup wNil) (wCons (wTup (wCons (M.ret (.str "and")) (wCons (wVar 2) (wCons (wVar 2) wNil)))) wNil))))) wNil)) (wVar 4))) (aName 5))
    (sSeq (sAsg (wTup (wCons (wTup (wCons (wTup (wCons (M.ret (.str "p")) (wCons (wTup (wCons (wTup wNil) (wCons (M.ret (.str "o")) wNil))) wNil))) (wCons (wTup (wCons (M.ret (.str "q")) (wCons (wTup (wCons (wTup wNil) (wCons (M.ret (.str "o")) wNil))) wNil))) wNil))) (wCons (wBlt aTuple (wCons (wVar 5) wNil)) wNil))) (aName 6))
    (sSeq (sAsg (wTup (wCons (M.ret (.str "given")) (wCons (wTup (wCons (wTup (wCons (wTup wNil) (wCons (M.ret (.str "q")) (wCons (wTup wNil) (wCons (wTup (wCons (M.ret (.str "true")) wNil)) wNil))))) wNil)) (wCons (wVar 2) wNil)))) (aName 7))
    (sSeq (sAsg (wBlt aLen (wCons (wVar 5) wNil)) (aName 8))
    (sSeq (sAsg (wTup (wCons (wTup (wCons (M.ret (.str "given")) wNil)) (wCons (wTup (wCons (M.ret (.str "use")) (wCons (M.ret (.int 1)) (wCons (wTup wNil) wNil)))) (wCons (wTup (wCons (M.ret (.str "and")) wNil)) (wCons (wTup (wCons (M.ret (.str "use")) (wCons (wVar 8) (wCons (wTup wNil) wNil)))) (wCons (wTup (wCons (M.ret (.str "true")) wNil)) (wCons (wTup (wCons (M.ret (.str "use")) (wCons (wVar 8) (wCons (wTup wNil) wNil)))) (wCons (wTup (wCons (M.ret (.str "true")) wNil)) wNil)))))))) (aName 9))
    (sSeq (sAsg (wBin aAdd (M.ret (.int 1)) (wCall (C f__law_take) (wCons (wVar 1) (wCons (M.ret (.int 12)) wNil)))) (aName 10))
    (sSeq (sAsg (wLst (wCons (wTup (wCons (M.ret (.str "given")) wNil)) wNil)) (aName 11))
    (sSeq (sFor (wRng1 (wCons (wBin aSub (wVar 10) (M.ret (.int 1))) wNil)) (aName 12) (sAsg (wBin aAdd (wVar 11) (wLst (wCons (wTup (wCons (M.ret (.str "use")) (wCons (wVar 8) (wCons (wTup wNil) wNil)))) (wCons (wTup (wCons (M.ret (.str "use")) (wCons (M.ret (.int 0)) (wCons (wTup wNil) wNil)))) wNil)))) (aName 11)))
    (sSeq (sAsg (wBin aAdd (wVar 11) (wLst (wCons (wTup (wCons (M.ret (.str "use")) (wCons (wVar 8) (wCons (wTup wNil) wNil)))) (wCons (wTup (wCons (M.ret (.str "use")) (wCons (M.ret (.int 2)) (wCons (wTup wNil) wNil)))) (wCons (wTup (wCons (M.ret (.str "true")) wNil)) wNil))))) (aName 11))
    (sSeq (sAsg (wBlt aTuple (wCons (wCall (C f__law_doubled) (wCons (wVar 10) wNil)) wNil)) (aName 13))
    (sSeq (sTry mt_LimitError (sAsg (wCall (C f_cut) (wCons (wVar 6) (wCons (wVar 7) (wCons (wVar 2) (wCons (wVar 9) (wCons (wBlt aTuple (wCons (wVar 11) wNil)) wNil)))))) (aName 14)) (sRet (wBin aGt (wBlt aLen (wCons (wVar 13) wNil)) (M.ret (.int 4000)))))
    (sRet (wAndV (wBin aLe (wBlt aLen (wCons (wVar 13) wNil)) (M.ret (.int 4000))) (wAndV (wIsi "tuple" (wVar 14)) (wBin (aEq (16 * d + 190)) (wVar 14) (wVar 13))))))))))))))))))))
def CT : Nat → CS
  | 0 => fun _ _ _ _ _ => False
  | d + 1 => fun i => match i with
    | 0 => fnC 2 3 (w_has_more (CT d) d)
    | 1 => fnC 1 5 (w_depth (CT d) d)
    | 2 => fnC 2 11 (w_changed (CT d) d)
    | 3 => fnC 2 3 (w_lift_term (CT d) d)
    | 4 => fnC 4 6 (w_open_at (CT d) d)
    | 5 => fnC 2 2 (w_open_term (CT d) d)
    | 6 => fnC 1 1 (w_limited (CT d) d)
    | 7 => fnC 3 7 (w_turned (CT d) d)
    | 8 => fnC 3 9 (w_turned_rule (CT d) d)
    | 9 => fnC 2 2 (w_taken_rule (CT d) d)
    | 10 => fnC 1 9 (w_clauses (CT d) d)
    | 11 => fnC 1 3 (w_joined (CT d) d)
    | 12 => fnC 1 7 (w_rules_of (CT d) d)
    | 13 => fnC 1 8 (w_goal_of (CT d) d)
    | 14 => fnC 1 4 (w_spans (CT d) d)
    | 15 => fnC 3 10 (w_places (CT d) d)
    | 16 => fnC 3 6 (w_part_for (CT d) d)
    | 17 => fnC 6 12 (w_fitted (CT d) d)
    | 18 => fnC 6 25 (w_cut_rows (CT d) d)
    | 19 => fnC 5 7 (w_cut (CT d) d)
    | 20 => fnC 1 4 (w__law_start (CT d) d)
    | 21 => fnC 2 3 (w__law_take (CT d) d)
    | 22 => fnC 1 4 (w__law_doubled (CT d) d)
    | 23 => fnC 1 15 (w_law (CT d) d)
    | _ => fun _ _ _ _ => False
end K66

namespace K66
open PySem PySem.Spec PyProof.Rows L2 Lx
structure MG (K : PySem.W.Frag) (mg : Str → Option Value) (base : Heap) : Prop where
  g_abs : mg "abs" = none
  g_int : mg "int" = none
  g_isinstance : mg "isinstance" = none
  g_len : mg "len" = none
  g_list : mg "list" = none
  g_range : mg "range" = none
  g_tuple : mg "tuple" = none
  g_zip : mg "zip" = none
  g_LEAVES : mg "LEAVES" = some (.ref (He.ga K "LEAVES")) ∧ ∀ H, RV K H (.tup [(.str "true"), (.str "equal"), (.str "match")]) (.ref (He.ga K "LEAVES"))
  g_MANY_cutting : ∃ t, mg "MANY_cutting" = some (.int 4000 t)
  g_MANY_filling : ∃ t, mg "MANY_filling" = some (.int 1000000 t)
  g_MOST : ∃ t, mg "MOST" = some (.int 2000 t)
  g_MOST_DEEP : ∃ t, mg "MOST_DEEP" = some (.int 100 t)
  g_LimitError : PySem.W.excIn K (He.ga K "LimitError") He.veBase "ValueError.__new__" = true ∧ mg "LimitError" = some (.ref (He.ga K "LimitError")) ∧ PySem.W.keepIn K (.ref (He.ga K "LimitError")) = true ∧ PySem.W.subIn K (.ref (He.ga K "LimitError")) (.type "BaseException") = some true ∧ PySem.W.typeIn K (.ref (He.ga K "LimitError")) = some (.type "type")
  m_LimitError : ∀ n b, mt_LimitError n = some b → PySem.W.exmOne K (.ref (He.ga K n)) (.ref (He.ga K "LimitError")) = some b
  tb_taken_rule : LamX.TabB base mg (He.codeOf K ("taken_rule", none)) (He.cT K ("taken_rule", none)).2
section
variable {P : Program} {w : World} {K : PySem.W.Frag} {mg : Str → Option Value} {base : Heap}
structure FT (P : Program) (w : World) (K : PySem.W.Frag) (mg : Str → Option Value) (base : Heap) (d : Nat) : Prop where
  f_has_more : FnT P w K mg base d "has_more" (CT d f_has_more)
  f_depth : FnT P w K mg base d "depth" (CT d f_depth)
  f_changed : FnT P w K mg base d "changed" (CT d f_changed)
  f_lift_term : FnT P w K mg base d "lift_term" (CT d f_lift_term)
  f_open_at : FnT P w K mg base d "open_at" (CT d f_open_at)
  f_open_term : FnT P w K mg base d "open_term" (CT d f_open_term)
  f_limited : FnT P w K mg base d "limited" (CT d f_limited)
  f_turned : FnT P w K mg base d "turned" (CT d f_turned)
  f_turned_rule : FnT P w K mg base d "turned_rule" (CT d f_turned_rule)
  f_taken_rule : FnT P w K mg base d "taken_rule" (CT d f_taken_rule)
  f_clauses : FnT P w K mg base d "clauses" (CT d f_clauses)
  f_joined : FnT P w K mg base d "joined" (CT d f_joined)
  f_rules_of : FnT P w K mg base d "rules_of" (CT d f_rules_of)
  f_goal_of : FnT P w K mg base d "goal_of" (CT d f_goal_of)
  f_spans : FnT P w K mg base d "spans" (CT d f_spans)
  f_places : FnT P w K mg base d "places" (CT d f_places)
  f_part_for : FnT P w K mg base d "part_for" (CT d f_part_for)
  f_fitted : FnT P w K mg base d "fitted" (CT d f_fitted)
  f_cut_rows : FnT P w K mg base d "cut_rows" (CT d f_cut_rows)
  f_cut : FnT P w K mg base d "cut" (CT d f_cut)
  f__law_start : FnT P w K mg base d "_law_start" (CT d f__law_start)
  f__law_take : FnT P w K mg base d "_law_take" (CT d f__law_take)
  f__law_doubled : FnT P w K mg base d "_law_doubled" (CT d f__law_doubled)
  f_law : FnT P w K mg base d "law" (CT d f_law)
theorem b_has_more (T : MG K mg base) {d : Nat} (F : FT P w K mg base d) {fA : Addr} {cdv : Value} {A : Around} {outer : List Env} {s : Shared} {H : Hp} {E : XK} (hr : Room d (A.deeper (envOfC "has_more" (defScope s_has_more) s.heap.objs.size fA cdv)))
    (tk : Takes (cxOf (L2.CX P w) P w K mg base N_has_more "has_more" (defScope s_has_more) fA cdv A outer s H E) (fun c d _ H => E c d H)) (hp : PassesOwn (model P w) (A.deeper (envOfC "has_more" (defScope s_has_more) s.heap.objs.size fA cdv)) (envOfC "has_more" (defScope s_has_more) s.heap.objs.size fA cdv) (cxOf (L2.CX P w) P w K mg base N_has_more "has_more" (defScope s_has_more) fA cdv A outer s H E).xe) :
    XSs (cxOf (L2.CX P w) P w K mg base N_has_more "has_more" (defScope s_has_more) fA cdv A outer s H E) (fun c d _ H => E c d H) (defBody s_has_more) (w_has_more (CT d) d) :=
  (xss_cons (xs_set (i := 2) sc_has_more.nd rfl (Or.inl rfl) (xe_ty xc_list rfl T.g_list (by decide +kernel) (xa_cons (xv 0) xa_nil)))
    (xss_cons (xs_while hp (PW.pt (xw_and (xt_tru (xv 2)) (xw_and1 (xt_cmp xo_ge (xv 1) xe_int (nobehind _ (by decide) (by decide)))))) (xss_cons (xs_aug (i := 1) sc_has_more.nd rfl (Or.inl rfl) xe_int xo_isub)
    (xss_one (xs_expr (xe_lm PySem.F.plainAttrs_list PySem.F.slot_list_extend PySem.F.type_list_extend xm_ext (xv 2) (xa_cons (xe_ix (hu_of hr) (xe_lm0 PySem.F.plainAttrs_list PySem.F.slot_list_pop PySem.F.type_list_pop xm_pop (xv 2)) xe_int (fun _ _ => rfl)) xa_nil))))))
    (xss_one (xs_ret (xe_cmp xo_lt (xv 1) xe_int (nobehind _ (by decide) (by decide)))))))
theorem b_depth (T : MG K mg base) {d : Nat} (F : FT P w K mg base d) {fA : Addr} {cdv : Value} {A : Around} {outer : List Env} {s : Shared} {H : Hp} {E : XK} (hr : Room d (A.deeper (envOfC "depth" (defScope s_depth) s.heap.objs.size fA cdv)))
    (tk : Takes (cxOf (L2.CX P w) P w K mg base N_depth "depth" (defScope s_depth) fA cdv A outer s H E) (fun c d _ H => E c d H)) (hp : PassesOwn (model P w) (A.deeper (envOfC "depth" (defScope s_depth) s.heap.objs.size fA cdv)) (envOfC "depth" (defScope s_depth) s.heap.objs.size fA cdv) (cxOf (L2.CX P w) P w K mg base N_depth "depth" (defScope s_depth) fA cdv A outer s H E).xe) :
    XSs (cxOf (L2.CX P w) P w K mg base N_depth "depth" (defScope s_depth) fA cdv A outer s H E) (fun c d _ H => E c d H) (defBody s_depth) (w_depth (CT d) d) :=
  (xss_cons (xs_set (i := 1) sc_depth.nd rfl (Or.inl rfl) (xe_lst (xa_cons (xv 0) xa_nil)))
    (xss_cons (xs_set (i := 2) sc_depth.nd rfl (Or.inl rfl) xe_int)
    (xss_cons (xs_while hp (xt_tru (xv 1)) (xss_cons (xs_aug (i := 2) sc_depth.nd rfl (Or.inl rfl) xe_int xo_iadd)
    (xss_cons (xs_set (i := 3) sc_depth.nd rfl (Or.inl rfl) (xe_lst xa_nil))
    (xss_cons (xs_for hp rfl (xi_seq (xv 1)) (xg_name (i := 4) sc_depth.nd rfl (Or.inl rfl)) (xss_one (xs_expr (xe_lm PySem.F.plainAttrs_list PySem.F.slot_list_extend PySem.F.type_list_extend xm_ext (xv 3) (xa_cons (xe_ix (hu_of hr) (xv 4) xe_int (fun _ _ => rfl)) xa_nil)))))
    (xss_one (xs_set (i := 1) sc_depth.nd rfl (Or.inl rfl) (xv 3)))))))
    (xss_one (xs_ret (xv 2))))))
theorem b_changed (T : MG K mg base) {d : Nat} (F : FT P w K mg base d) {fA : Addr} {cdv : Value} {A : Around} {outer : List Env} {s : Shared} {H : Hp} {E : XK} (hr : Room d (A.deeper (envOfC "changed" (defScope s_changed) s.heap.objs.size fA cdv)))
    (tk : Takes (cxOf (L2.CX P w) P w K mg base N_changed "changed" (defScope s_changed) fA cdv A outer s H E) (fun c d _ H => E c d H)) (hp : PassesOwn (model P w) (A.deeper (envOfC "changed" (defScope s_changed) s.heap.objs.size fA cdv)) (envOfC "changed" (defScope s_changed) s.heap.objs.size fA cdv) (cxOf (L2.CX P w) P w K mg base N_changed "changed" (defScope s_changed) fA cdv A outer s H E).xe) :
    XSs (cxOf (L2.CX P w) P w K mg base N_changed "changed" (defScope s_changed) fA cdv A outer s H E) (fun c d _ H => E c d H) (defBody s_changed) (w_changed (CT d) d) :=
  (xss_cons (xs_set (i := 2) sc_changed.nd rfl (Or.inl rfl) (xe_lst xa_nil))
    (xss_cons (xs_set (i := 3) sc_changed.nd rfl (Or.inl rfl) (xe_lst (xa_cons (xe_tup (xa_cons (xv 0) (xa_cons xe_int (xa_cons xe_bl xa_nil)))) xa_nil)))
    (xss_cons (xs_while hp (xt_tru (xv 3)) (xss_cons (xs_asg (xe_lm0 PySem.F.plainAttrs_list PySem.F.slot_list_pop PySem.F.type_list_pop xm_pop (xv 3)) (xg_tup rfl (xgs_cons (xg_name (i := 4) sc_changed.nd rfl (Or.inl rfl)) (xgs_cons (xg_name (i := 5) sc_changed.nd rfl (Or.inl rfl)) (xgs_cons (xg_name (i := 6) sc_changed.nd rfl (Or.inl rfl)) xgs_nil)))))
    (xss_cons (xs_set (i := 7) sc_changed.nd rfl (Or.inr rfl) (xe_op xo_add (xv 5) (xe_ix (hu_of hr) (xv 4) xe_int (fun _ _ => rfl))))
    (xss_one (xs_if (xt_tru (xv 6)) (xss_cons (xs_set (i := 8) sc_changed.nd rfl (Or.inl rfl) (xe_op xo_sub (xe_blt xc_len rfl T.g_len (by decide +kernel) (xa_cons (xv 2) xa_nil)) (xe_blt xc_len rfl T.g_len (by decide +kernel) (xa_cons (xe_ix (hu_of hr) (xv 4) xe_int (fun _ _ => rfl)) xa_nil))))
    (xss_cons (xs_set (i := 9) sc_changed.nd rfl (Or.inl rfl) (xe_ty xc_tuple rfl T.g_tuple (by decide +kernel) (xa_cons (xe_sl (xv 2) (xo_some (xv 8)) xo_none) xa_nil)))
    (xss_cons xs_no
    (xss_one (xs_expr (xe_lm PySem.F.plainAttrs_list PySem.F.slot_list_append PySem.F.type_list_append xm_app (xv 2) (xa_cons xe_no xa_nil))))))) (xss_cons (xs_expr (xe_lm PySem.F.plainAttrs_list PySem.F.slot_list_append PySem.F.type_list_append xm_app (xv 3) (xa_cons (xe_tup (xa_cons (xv 4) (xa_cons (xv 5) (xa_cons xe_bl xa_nil)))) xa_nil)))
    (xss_one (xs_expr (xe_lm PySem.F.plainAttrs_list PySem.F.slot_list_extend PySem.F.type_list_extend xm_ext (xv 3) (xa_cons (xe_lc (own := [("part", 10)]) rfl sc_changed.nd (xi_seq (xe_rev (xe_ix (hu_of hr) (xv 4) xe_int (fun _ _ => rfl)))) (blkOk_by (N := N_changed) (sc := defScope s_changed) (by decide +kernel)) (fun _ _ _ _ _ => (xg_name (i := 10) sc_changed.nd rfl (Or.inl rfl))) (fun _ _ _ _ _ => xts_nil) (fun _ _ _ _ _ => (xe_tup (xa_cons (xv 10) (xa_cons (xv 7) (xa_cons xe_bl xa_nil)))))) xa_nil))))))))))
    (xss_one (xs_ret (xe_ix (hu_of hr) (xv 2) xe_int (fun _ _ => rfl)))))))
theorem b_lift_term (T : MG K mg base) {d : Nat} (F : FT P w K mg base d) {fA : Addr} {cdv : Value} {A : Around} {outer : List Env} {s : Shared} {H : Hp} {E : XK} (hr : Room d (A.deeper (envOfC "lift_term" (defScope s_lift_term) s.heap.objs.size fA cdv)))
    (tk : Takes (cxOf (L2.CX P w) P w K mg base N_lift_term "lift_term" (defScope s_lift_term) fA cdv A outer s H E) (fun c d _ H => E c d H)) (hp : PassesOwn (model P w) (A.deeper (envOfC "lift_term" (defScope s_lift_term) s.heap.objs.size fA cdv)) (envOfC "lift_term" (defScope s_lift_term) s.heap.objs.size fA cdv) (cxOf (L2.CX P w) P w K mg base N_lift_term "lift_term" (defScope s_lift_term) fA cdv A outer s H E).xe) :
    XSs (cxOf (L2.CX P w) P w K mg base N_lift_term "lift_term" (defScope s_lift_term) fA cdv A outer s H E) (fun c d _ H => E c d H) (defBody s_lift_term) (w_lift_term (CT d) d) :=
  (xss_cons (xs_if (xt_cmp (xo_eq (lim_of hr)) (xv 1) xe_int (nobehind _ (by decide) (by decide))) (xss_one (xs_ret (xv 0))) xss_nil)
    (xss_cons xs_no
    (xss_one (xs_ret (xe_call F.f_changed hr tk rfl (xa_cons (xv 0) (xa_cons (xv 2) xa_nil)))))))
theorem b_open_at (T : MG K mg base) {d : Nat} (F : FT P w K mg base d) {fA : Addr} {cdv : Value} {A : Around} {outer : List Env} {s : Shared} {H : Hp} {E : XK} (hr : Room d (A.deeper (envOfC "open_at" (defScope s_open_at) s.heap.objs.size fA cdv)))
    (tk : Takes (cxOf (L2.CX P w) P w K mg base N_open_at "open_at" (defScope s_open_at) fA cdv A outer s H E) (fun c d _ H => E c d H)) (hp : PassesOwn (model P w) (A.deeper (envOfC "open_at" (defScope s_open_at) s.heap.objs.size fA cdv)) (envOfC "open_at" (defScope s_open_at) s.heap.objs.size fA cdv) (cxOf (L2.CX P w) P w K mg base N_open_at "open_at" (defScope s_open_at) fA cdv A outer s H E).xe) :
    XSs (cxOf (L2.CX P w) P w K mg base N_open_at "open_at" (defScope s_open_at) fA cdv A outer s H E) (fun c d _ H => E c d H) (defBody s_open_at) (w_open_at (CT d) d) :=
  (xss_cons (xs_set (i := 4) sc_open_at.nd rfl (Or.inr rfl) (xe_blt xc_len rfl T.g_len (by decide +kernel) (xa_cons (xv 2) xa_nil)))
    (xss_cons (xs_if (xt_tru (xe_call F.f_has_more hr tk rfl (xa_cons (xe_lst (xa_cons (xv 0) xa_nil)) (xa_cons (xe_gint rfl T.g_MANY_filling) xa_nil)))) (xss_one (xs_raise rfl tk PySem.F.excBase_ValueError T.g_LimitError.1 T.g_LimitError.2.1 T.g_LimitError.2.2.1 (raises_own T.g_LimitError.2.2.2.1 T.g_LimitError.2.2.2.2) rfl)) xss_nil)
    (xss_cons xs_no
    (xss_one (xs_ret (xe_call F.f_changed hr tk rfl (xa_cons (xv 0) (xa_cons (xv 5) xa_nil))))))))
theorem b_open_term (T : MG K mg base) {d : Nat} (F : FT P w K mg base d) {fA : Addr} {cdv : Value} {A : Around} {outer : List Env} {s : Shared} {H : Hp} {E : XK} (hr : Room d (A.deeper (envOfC "open_term" (defScope s_open_term) s.heap.objs.size fA cdv)))
    (tk : Takes (cxOf (L2.CX P w) P w K mg base N_open_term "open_term" (defScope s_open_term) fA cdv A outer s H E) (fun c d _ H => E c d H)) (hp : PassesOwn (model P w) (A.deeper (envOfC "open_term" (defScope s_open_term) s.heap.objs.size fA cdv)) (envOfC "open_term" (defScope s_open_term) s.heap.objs.size fA cdv) (cxOf (L2.CX P w) P w K mg base N_open_term "open_term" (defScope s_open_term) fA cdv A outer s H E).xe) :
    XSs (cxOf (L2.CX P w) P w K mg base N_open_term "open_term" (defScope s_open_term) fA cdv A outer s H E) (fun c d _ H => E c d H) (defBody s_open_term) (w_open_term (CT d) d) :=
  (xss_cons (xs_if (xt_not (xt_tru (xv 1))) (xss_one (xs_ret (xv 0))) xss_nil)
    (xss_one (xs_ret (xe_call F.f_open_at hr tk rfl (xa_cons (xe_tup (xa_cons xe_int (xa_cons (xe_ix (hu_of hr) (xv 0) xe_int (fun _ _ => rfl)) (xa_cons (xe_ix (hu_of hr) (xv 0) xe_int (fun _ _ => rfl)) xa_nil)))) (xa_cons xe_int (xa_cons (xv 1) (xa_cons xe_int xa_nil))))))))
theorem b_limited (T : MG K mg base) {d : Nat} (F : FT P w K mg base d) {fA : Addr} {cdv : Value} {A : Around} {outer : List Env} {s : Shared} {H : Hp} {E : XK} (hr : Room d (A.deeper (envOfC "limited" (defScope s_limited) s.heap.objs.size fA cdv)))
    (tk : Takes (cxOf (L2.CX P w) P w K mg base N_limited "limited" (defScope s_limited) fA cdv A outer s H E) (fun c d _ H => E c d H)) (hp : PassesOwn (model P w) (A.deeper (envOfC "limited" (defScope s_limited) s.heap.objs.size fA cdv)) (envOfC "limited" (defScope s_limited) s.heap.objs.size fA cdv) (cxOf (L2.CX P w) P w K mg base N_limited "limited" (defScope s_limited) fA cdv A outer s H E).xe) :
    XSs (cxOf (L2.CX P w) P w K mg base N_limited "limited" (defScope s_limited) fA cdv A outer s H E) (fun c d _ H => E c d H) (defBody s_limited) (w_limited (CT d) d) :=
  (xss_cons (xs_if (PW.pt (xw_or (xt_tru (xe_call F.f_has_more hr tk rfl (xa_cons (xe_lst (xa_cons (xv 0) xa_nil)) (xa_cons (xe_gint rfl T.g_MOST) xa_nil)))) (xw_or1 (xt_cmp xo_gt (xe_call F.f_depth hr tk rfl (xa_cons (xv 0) xa_nil)) (xe_gint rfl T.g_MOST_DEEP) (nobehind _ (by decide) (by decide)))))) (xss_one (xs_raise rfl tk PySem.F.excBase_ValueError T.g_LimitError.1 T.g_LimitError.2.1 T.g_LimitError.2.2.1 (raises_own T.g_LimitError.2.2.2.1 T.g_LimitError.2.2.2.2) rfl)) xss_nil)
    (xss_one (xs_ret (xv 0))))
theorem b_turned (T : MG K mg base) {d : Nat} (F : FT P w K mg base d) {fA : Addr} {cdv : Value} {A : Around} {outer : List Env} {s : Shared} {H : Hp} {E : XK} (hr : Room d (A.deeper (envOfC "turned" (defScope s_turned) s.heap.objs.size fA cdv)))
    (tk : Takes (cxOf (L2.CX P w) P w K mg base N_turned "turned" (defScope s_turned) fA cdv A outer s H E) (fun c d _ H => E c d H)) (hp : PassesOwn (model P w) (A.deeper (envOfC "turned" (defScope s_turned) s.heap.objs.size fA cdv)) (envOfC "turned" (defScope s_turned) s.heap.objs.size fA cdv) (cxOf (L2.CX P w) P w K mg base N_turned "turned" (defScope s_turned) fA cdv A outer s H E).xe) :
    XSs (cxOf (L2.CX P w) P w K mg base N_turned "turned" (defScope s_turned) fA cdv A outer s H E) (fun c d _ H => E c d H) (defBody s_turned) (w_turned (CT d) d) :=
  (xss_cons (xs_set (i := 3) sc_turned.nd rfl (Or.inl rfl) (xe_ix (hu_of hr) (xv 0) xe_int (fun _ _ => rfl)))
    (xss_cons (xs_if (xt_cmp (xo_eq (lim_of hr)) (xv 3) xe_str (nobehind _ (by decide) (by decide))) (xss_one (xs_ret (xv 0))) xss_nil)
    (xss_cons (xs_if (xt_cmp (xo_eq (lim_of hr)) (xv 3) xe_str (nobehind _ (by decide) (by decide))) (xss_one (xs_ret (xe_tup (xa_cons (xv 3) (xa_cons (xe_ix (hu_of hr) (xv 0) xe_int (fun _ _ => rfl)) (xa_cons (xe_ty xc_tuple rfl T.g_tuple (by decide +kernel) (xa_cons (xe_lc (own := [("part", 5)]) rfl sc_turned.nd (xi_seq (xe_ix (hu_of hr) (xv 0) xe_int (fun _ _ => rfl))) (blkOk_by (N := N_turned) (sc := defScope s_turned) (by decide +kernel)) (fun _ _ _ _ _ => (xg_name (i := 5) sc_turned.nd rfl (Or.inl rfl))) (fun _ _ _ _ _ => xts_nil) (fun _ _ _ _ _ => xe_no)) xa_nil)) xa_nil)))))) xss_nil)
    (xss_cons (xs_if (xt_cmp (xo_in (hu_of hr)) (xv 3) (xe_tup (xa_cons xe_str (xa_cons xe_str xa_nil))) rfl) (xss_one (xs_ret (xe_tup (xa_cons (xv 3) (xa_cons (xe_ix (hu_of hr) (xv 0) xe_int (fun _ _ => rfl)) (xa_cons (xe_call F.f_turned hr tk rfl (xa_cons (xe_ix (hu_of hr) (xv 0) xe_int (fun _ _ => rfl)) (xa_cons (xe_op xo_add (xv 1) xe_int) (xa_cons (xv 2) xa_nil)))) xa_nil)))))) xss_nil)
    (xss_cons (xs_if (xt_cmp (xo_eq (lim_of hr)) (xv 3) xe_str (nobehind _ (by decide) (by decide))) (xss_cons (xs_set (i := 4) sc_turned.nd rfl (Or.inl rfl) (xe_ty xc_tuple rfl T.g_tuple (by decide +kernel) (xa_cons (xe_lc (own := [("rule", 6)]) rfl sc_turned.nd (xi_seq (xe_ix (hu_of hr) (xv 0) xe_int (fun _ _ => rfl))) (blkOk_by (N := N_turned) (sc := defScope s_turned) (by decide +kernel)) (fun _ _ _ _ _ => (xg_name (i := 6) sc_turned.nd rfl (Or.inl rfl))) (fun _ _ _ _ _ => xts_nil) (fun _ _ _ _ _ => (xe_call F.f_turned_rule hr takesN rfl (xa_cons (xv 6) (xa_cons (xv 1) (xa_cons (xv 2) xa_nil)))))) xa_nil)))
    (xss_one (xs_ret (xe_tup (xa_cons (xv 3) (xa_cons (xv 4) (xa_cons (xe_call F.f_turned hr tk rfl (xa_cons (xe_ix (hu_of hr) (xv 0) xe_int (fun _ _ => rfl)) (xa_cons (xv 1) (xa_cons (xv 2) xa_nil)))) xa_nil))))))) xss_nil)
    (xss_cons (xs_if (xt_cmp (xo_in (hu_of hr)) (xv 3) (xe_tup (xa_cons xe_str (xa_cons xe_str xa_nil))) rfl) (xss_one (xs_ret (xe_tup (xa_cons (xv 3) (xa_cons (xe_call F.f_turned hr tk rfl (xa_cons (xe_ix (hu_of hr) (xv 0) xe_int (fun _ _ => rfl)) (xa_cons (xv 1) (xa_cons (xv 2) xa_nil)))) (xa_cons (xe_call F.f_turned hr tk rfl (xa_cons (xe_ix (hu_of hr) (xv 0) xe_int (fun _ _ => rfl)) (xa_cons (xv 1) (xa_cons (xv 2) xa_nil)))) xa_nil)))))) xss_nil)
    (xss_one (xs_ret (xe_tup (xa_cons (xv 3) (xa_cons (xe_ix (hu_of hr) (xv 0) xe_int (fun _ _ => rfl)) (xa_cons xe_no (xa_cons xe_no xa_nil)))))))))))))
theorem b_turned_rule (T : MG K mg base) {d : Nat} (F : FT P w K mg base d) {fA : Addr} {cdv : Value} {A : Around} {outer : List Env} {s : Shared} {H : Hp} {E : XK} (hr : Room d (A.deeper (envOfC "turned_rule" (defScope s_turned_rule) s.heap.objs.size fA cdv)))
    (tk : Takes (cxOf (L2.CX P w) P w K mg base N_turned_rule "turned_rule" (defScope s_turned_rule) fA cdv A outer s H E) (fun c d _ H => E c d H)) (hp : PassesOwn (model P w) (A.deeper (envOfC "turned_rule" (defScope s_turned_rule) s.heap.objs.size fA cdv)) (envOfC "turned_rule" (defScope s_turned_rule) s.heap.objs.size fA cdv) (cxOf (L2.CX P w) P w K mg base N_turned_rule "turned_rule" (defScope s_turned_rule) fA cdv A outer s H E).xe) :
    XSs (cxOf (L2.CX P w) P w K mg base N_turned_rule "turned_rule" (defScope s_turned_rule) fA cdv A outer s H E) (fun c d _ H => E c d H) (defBody s_turned_rule) (w_turned_rule (CT d) d) :=
  (xss_cons (xs_asg (xv 0) (xg_tup rfl (xgs_cons (xg_name (i := 3) sc_turned_rule.nd rfl (Or.inl rfl)) (xgs_cons (xg_name (i := 4) sc_turned_rule.nd rfl (Or.inl rfl)) (xgs_cons (xg_name (i := 5) sc_turned_rule.nd rfl (Or.inl rfl)) (xgs_cons (xg_name (i := 6) sc_turned_rule.nd rfl (Or.inl rfl)) xgs_nil))))))
    (xss_cons (xs_set (i := 7) sc_turned_rule.nd rfl (Or.inr rfl) (xe_op xo_add (xv 1) (xe_blt xc_len rfl T.g_len (by decide +kernel) (xa_cons (xv 3) xa_nil))))
    (xss_one (xs_ret (xe_tup (xa_cons (xv 3) (xa_cons (xv 4) (xa_cons (xe_ty xc_tuple rfl T.g_tuple (by decide +kernel) (xa_cons (xe_lc (own := [("part", 8)]) rfl sc_turned_rule.nd (xi_seq (xv 5)) (blkOk_by (N := N_turned_rule) (sc := defScope s_turned_rule) (by decide +kernel)) (fun _ _ _ _ _ => (xg_name (i := 8) sc_turned_rule.nd rfl (Or.inl rfl))) (fun _ _ _ _ _ => xts_nil) (fun _ _ _ _ _ => xe_no)) xa_nil)) (xa_cons (xe_call F.f_turned hr tk rfl (xa_cons (xv 6) (xa_cons (xv 7) (xa_cons (xv 2) xa_nil)))) xa_nil)))))))))
theorem b_taken_rule (T : MG K mg base) {d : Nat} (F : FT P w K mg base d) {fA : Addr} {A : Around} {outer : List Env} {s : Shared} {H : Hp} {E : XK} (hr : Room d (A.deeper (envOfC "taken_rule" (defScope s_taken_rule) s.heap.objs.size fA (.ref (He.codeOf K ("taken_rule", none))))))
    (tk : Takes (cxOf (L2.CX P w) P w K mg base N_taken_rule "taken_rule" (defScope s_taken_rule) fA (.ref (He.codeOf K ("taken_rule", none))) A outer s H E) (fun c d _ H => E c d H)) (hp : PassesOwn (model P w) (A.deeper (envOfC "taken_rule" (defScope s_taken_rule) s.heap.objs.size fA (.ref (He.codeOf K ("taken_rule", none))))) (envOfC "taken_rule" (defScope s_taken_rule) s.heap.objs.size fA (.ref (He.codeOf K ("taken_rule", none)))) (cxOf (L2.CX P w) P w K mg base N_taken_rule "taken_rule" (defScope s_taken_rule) fA (.ref (He.codeOf K ("taken_rule", none))) A outer s H E).xe) :
    XSs (cxOf (L2.CX P w) P w K mg base N_taken_rule "taken_rule" (defScope s_taken_rule) fA (.ref (He.codeOf K ("taken_rule", none))) A outer s H E) (fun c d _ H => E c d H) (defBody s_taken_rule) (w_taken_rule (CT d) d) :=
  (xss_one (xs_ret (xe_call F.f_turned_rule hr tk rfl (xa_cons (xv 0) (xa_cons xe_int (xa_cons (xe_lam0 T.tb_taken_rule rfl (List.mem_singleton.mpr rfl) (fun p hp _ => by rw [List.mem_singleton.mp hp] <;> rfl) rfl (by show ∀ y ∈ (_ : List (Str × NameKind)), y.2 = NameKind.free → (defScope s_taken_rule).names.lookup y.1 = some .cell ∨ (defScope s_taken_rule).names.lookup y.1 = some .free; decide +kernel)) xa_nil))))))
theorem b_clauses (T : MG K mg base) {d : Nat} (F : FT P w K mg base d) {fA : Addr} {cdv : Value} {A : Around} {outer : List Env} {s : Shared} {H : Hp} {E : XK} (hr : Room d (A.deeper (envOfC "clauses" (defScope s_clauses) s.heap.objs.size fA cdv)))
    (tk : Takes (cxOf (L2.CX P w) P w K mg base N_clauses "clauses" (defScope s_clauses) fA cdv A outer s H E) (fun c d _ H => E c d H)) (hp : PassesOwn (model P w) (A.deeper (envOfC "clauses" (defScope s_clauses) s.heap.objs.size fA cdv)) (envOfC "clauses" (defScope s_clauses) s.heap.objs.size fA cdv) (cxOf (L2.CX P w) P w K mg base N_clauses "clauses" (defScope s_clauses) fA cdv A outer s H E).xe) :
    XSs (cxOf (L2.CX P w) P w K mg base N_clauses "clauses" (defScope s_clauses) fA cdv A outer s H E) (fun c d _ H => E c d H) (defBody s_clauses) (w_clauses (CT d) d) :=
  (xss_cons (xs_set (i := 1) sc_clauses.nd rfl (Or.inl rfl) (xe_ix (hu_of hr) (xv 0) xe_int (fun _ _ => rfl)))
    (xss_cons (xs_if (xt_cmp (xo_eq (lim_of hr)) (xv 1) xe_str (nobehind _ (by decide) (by decide))) (xss_one (xs_ret (xe_tup xa_nil))) xss_nil)
    (xss_cons (xs_if (xt_cmp (xo_eq (lim_of hr)) (xv 1) xe_str (nobehind _ (by decide) (by decide))) (xss_one (xs_ret (xe_tup (xa_cons (xe_tup (xa_cons (xe_tup xa_nil) (xa_cons (xe_tup xa_nil) (xa_cons (xe_ix (hu_of hr) (xv 0) xe_int (fun _ _ => rfl)) (xa_cons (xe_ix (hu_of hr) (xv 0) xe_int (fun _ _ => rfl)) xa_nil))))) xa_nil)))) xss_nil)
    (xss_cons (xs_if (xt_cmp (xo_eq (lim_of hr)) (xv 1) xe_str (nobehind _ (by decide) (by decide))) (xss_one (xs_ret (xe_op xo_add (xe_call F.f_clauses hr tk rfl (xa_cons (xe_ix (hu_of hr) (xv 0) xe_int (fun _ _ => rfl)) xa_nil)) (xe_call F.f_clauses hr tk rfl (xa_cons (xe_ix (hu_of hr) (xv 0) xe_int (fun _ _ => rfl)) xa_nil))))) xss_nil)
    (xss_cons (xs_set (i := 2) sc_clauses.nd rfl (Or.inl rfl) (xe_lst xa_nil))
    (xss_cons (xs_for hp rfl (xi_seq (xe_call F.f_clauses hr tk rfl (xa_cons (xe_ix (hu_of hr) (xv 0) xe_int (fun _ _ => rfl)) xa_nil))) (xg_tup rfl (xgs_cons (xg_name (i := 3) sc_clauses.nd rfl (Or.inr rfl)) (xgs_cons (xg_name (i := 4) sc_clauses.nd rfl (Or.inl rfl)) (xgs_cons (xg_name (i := 5) sc_clauses.nd rfl (Or.inl rfl)) (xgs_cons (xg_name (i := 6) sc_clauses.nd rfl (Or.inl rfl)) xgs_nil))))) (xss_one (xs_if (xt_cmp (xo_eq (lim_of hr)) (xv 1) xe_str (nobehind _ (by decide) (by decide))) (xss_one (xs_expr (xe_lm PySem.F.plainAttrs_list PySem.F.slot_list_append PySem.F.type_list_append xm_app (xv 2) (xa_cons (xe_tup (xa_cons (xe_op xo_add (xe_tup (xa_cons (xe_ix (hu_of hr) (xv 0) xe_int (fun _ _ => rfl)) xa_nil)) (xv 3)) (xa_cons (xv 4) (xa_cons (xv 5) (xa_cons (xv 6) xa_nil))))) xa_nil)))) (xss_cons (xs_set (i := 7) sc_clauses.nd rfl (Or.inl rfl) (xe_ty xc_tuple rfl T.g_tuple (by decide +kernel) (xa_cons (xe_lc (own := [("rule", 8)]) rfl sc_clauses.nd (xi_seq (xe_ix (hu_of hr) (xv 0) xe_int (fun _ _ => rfl))) (blkOk_by (N := N_clauses) (sc := defScope s_clauses) (by decide +kernel)) (fun _ _ _ _ _ => (xg_name (i := 8) sc_clauses.nd rfl (Or.inl rfl))) (fun _ _ _ _ _ => xts_nil) (fun _ _ _ _ _ => (xe_call F.f_taken_rule hr takesN rfl (xa_cons (xv 8) (xa_cons (xe_blt xc_len rfl T.g_len (by decide +kernel) (xa_cons (xv 3) xa_nil)) xa_nil))))) xa_nil)))
    (xss_one (xs_expr (xe_lm PySem.F.plainAttrs_list PySem.F.slot_list_append PySem.F.type_list_append xm_app (xv 2) (xa_cons (xe_tup (xa_cons (xv 3) (xa_cons (xe_op xo_add (xv 7) (xv 4)) (xa_cons (xv 5) (xa_cons (xv 6) xa_nil))))) xa_nil))))))))
    (xss_one (xs_ret (xe_ty xc_tuple rfl T.g_tuple (by decide +kernel) (xa_cons (xv 2) xa_nil))))))))))
theorem b_joined (T : MG K mg base) {d : Nat} (F : FT P w K mg base d) {fA : Addr} {cdv : Value} {A : Around} {outer : List Env} {s : Shared} {H : Hp} {E : XK} (hr : Room d (A.deeper (envOfC "joined" (defScope s_joined) s.heap.objs.size fA cdv)))
    (tk : Takes (cxOf (L2.CX P w) P w K mg base N_joined "joined" (defScope s_joined) fA cdv A outer s H E) (fun c d _ H => E c d H)) (hp : PassesOwn (model P w) (A.deeper (envOfC "joined" (defScope s_joined) s.heap.objs.size fA cdv)) (envOfC "joined" (defScope s_joined) s.heap.objs.size fA cdv) (cxOf (L2.CX P w) P w K mg base N_joined "joined" (defScope s_joined) fA cdv A outer s H E).xe) :
    XSs (cxOf (L2.CX P w) P w K mg base N_joined "joined" (defScope s_joined) fA cdv A outer s H E) (fun c d _ H => E c d H) (defBody s_joined) (w_joined (CT d) d) :=
  (xss_cons (xs_if (xt_not (xt_tru (xv 0))) (xss_one (xs_ret (xe_tup (xa_cons xe_str xa_nil)))) xss_nil)
    (xss_cons (xs_set (i := 1) sc_joined.nd rfl (Or.inl rfl) (xe_ix (hu_of hr) (xv 0) (xe_un xu_neg xe_int) (fun _ _ => rfl)))
    (xss_cons (xs_for hp rfl (xi_seq (xe_rev (xe_sl (xv 0) xo_none (xo_some (xe_un xu_neg xe_int))))) (xg_name (i := 2) sc_joined.nd rfl (Or.inl rfl)) (xss_one (xs_set (i := 1) sc_joined.nd rfl (Or.inl rfl) (xe_tup (xa_cons xe_str (xa_cons (xv 2) (xa_cons (xv 1) xa_nil)))))))
    (xss_one (xs_ret (xv 1))))))
theorem b_rules_of (T : MG K mg base) {d : Nat} (F : FT P w K mg base d) {fA : Addr} {cdv : Value} {A : Around} {outer : List Env} {s : Shared} {H : Hp} {E : XK} (hr : Room d (A.deeper (envOfC "rules_of" (defScope s_rules_of) s.heap.objs.size fA cdv)))
    (tk : Takes (cxOf (L2.CX P w) P w K mg base N_rules_of "rules_of" (defScope s_rules_of) fA cdv A outer s H E) (fun c d _ H => E c d H)) (hp : PassesOwn (model P w) (A.deeper (envOfC "rules_of" (defScope s_rules_of) s.heap.objs.size fA cdv)) (envOfC "rules_of" (defScope s_rules_of) s.heap.objs.size fA cdv) (cxOf (L2.CX P w) P w K mg base N_rules_of "rules_of" (defScope s_rules_of) fA cdv A outer s H E).xe) :
    XSs (cxOf (L2.CX P w) P w K mg base N_rules_of "rules_of" (defScope s_rules_of) fA cdv A outer s H E) (fun c d _ H => E c d H) (defBody s_rules_of) (w_rules_of (CT d) d) :=
  (xss_cons (xs_set (i := 1) sc_rules_of.nd rfl (Or.inl rfl) (xe_lst xa_nil))
    (xss_cons (xs_for hp rfl (xi_seq (xe_call F.f_clauses hr tk rfl (xa_cons (xv 0) xa_nil))) (xg_tup rfl (xgs_cons (xg_name (i := 2) sc_rules_of.nd rfl (Or.inl rfl)) (xgs_cons (xg_name (i := 3) sc_rules_of.nd rfl (Or.inl rfl)) (xgs_cons (xg_name (i := 4) sc_rules_of.nd rfl (Or.inl rfl)) (xgs_cons (xg_name (i := 5) sc_rules_of.nd rfl (Or.inl rfl)) xgs_nil))))) (xss_one (xs_expr (xe_lm PySem.F.plainAttrs_list PySem.F.slot_list_append PySem.F.type_list_append xm_app (xv 1) (xa_cons (xe_tup (xa_cons (xv 2) (xa_cons (xv 4) (xa_cons (xv 5) (xa_cons (xe_call F.f_joined hr tk rfl (xa_cons (xe_lc (own := [("rule", 6)]) rfl sc_rules_of.nd (xi_seq (xv 3)) (blkOk_by (N := N_rules_of) (sc := defScope s_rules_of) (by decide +kernel)) (fun _ _ _ _ _ => (xg_name (i := 6) sc_rules_of.nd rfl (Or.inl rfl))) (fun _ _ _ _ _ => xts_nil) (fun _ _ _ _ _ => (xe_call F.f_goal_of hr takesN rfl (xa_cons (xv 6) xa_nil)))) xa_nil)) xa_nil))))) xa_nil)))))
    (xss_one (xs_ret (xe_ty xc_tuple rfl T.g_tuple (by decide +kernel) (xa_cons (xv 1) xa_nil))))))
theorem b_goal_of (T : MG K mg base) {d : Nat} (F : FT P w K mg base d) {fA : Addr} {cdv : Value} {A : Around} {outer : List Env} {s : Shared} {H : Hp} {E : XK} (hr : Room d (A.deeper (envOfC "goal_of" (defScope s_goal_of) s.heap.objs.size fA cdv)))
    (tk : Takes (cxOf (L2.CX P w) P w K mg base N_goal_of "goal_of" (defScope s_goal_of) fA cdv A outer s H E) (fun c d _ H => E c d H)) (hp : PassesOwn (model P w) (A.deeper (envOfC "goal_of" (defScope s_goal_of) s.heap.objs.size fA cdv)) (envOfC "goal_of" (defScope s_goal_of) s.heap.objs.size fA cdv) (cxOf (L2.CX P w) P w K mg base N_goal_of "goal_of" (defScope s_goal_of) fA cdv A outer s H E).xe) :
    XSs (cxOf (L2.CX P w) P w K mg base N_goal_of "goal_of" (defScope s_goal_of) fA cdv A outer s H E) (fun c d _ H => E c d H) (defBody s_goal_of) (w_goal_of (CT d) d) :=
  (xss_cons (xs_asg (xv 0) (xg_tup rfl (xgs_cons (xg_name (i := 1) sc_goal_of.nd rfl (Or.inl rfl)) (xgs_cons (xg_name (i := 2) sc_goal_of.nd rfl (Or.inl rfl)) (xgs_cons (xg_name (i := 3) sc_goal_of.nd rfl (Or.inl rfl)) (xgs_cons (xg_name (i := 4) sc_goal_of.nd rfl (Or.inl rfl)) xgs_nil))))))
    (xss_cons (xs_set (i := 5) sc_goal_of.nd rfl (Or.inl rfl) (xe_tup (xa_cons xe_str (xa_cons (xv 2) (xa_cons (xv 3) xa_nil)))))
    (xss_cons (xs_set (i := 6) sc_goal_of.nd rfl (Or.inl rfl) (xe_call F.f_rules_of hr tk rfl (xa_cons (xv 4) xa_nil)))
    (xss_cons (xs_if (xt_tru (xv 6)) (xss_one (xs_set (i := 5) sc_goal_of.nd rfl (Or.inl rfl) (xe_tup (xa_cons xe_str (xa_cons (xv 6) (xa_cons (xv 5) xa_nil)))))) xss_nil)
    (xss_cons (xs_for hp rfl (xi_seq (xe_rev (xv 1))) (xg_name (i := 7) sc_goal_of.nd rfl (Or.inl rfl)) (xss_one (xs_set (i := 5) sc_goal_of.nd rfl (Or.inl rfl) (xe_tup (xa_cons xe_str (xa_cons (xv 7) (xa_cons (xv 5) xa_nil)))))))
    (xss_one (xs_ret (xv 5))))))))
theorem b_spans (T : MG K mg base) {d : Nat} (F : FT P w K mg base d) {fA : Addr} {cdv : Value} {A : Around} {outer : List Env} {s : Shared} {H : Hp} {E : XK} (hr : Room d (A.deeper (envOfC "spans" (defScope s_spans) s.heap.objs.size fA cdv)))
    (tk : Takes (cxOf (L2.CX P w) P w K mg base N_spans "spans" (defScope s_spans) fA cdv A outer s H E) (fun c d _ H => E c d H)) (hp : PassesOwn (model P w) (A.deeper (envOfC "spans" (defScope s_spans) s.heap.objs.size fA cdv)) (envOfC "spans" (defScope s_spans) s.heap.objs.size fA cdv) (cxOf (L2.CX P w) P w K mg base N_spans "spans" (defScope s_spans) fA cdv A outer s H E).xe) :
    XSs (cxOf (L2.CX P w) P w K mg base N_spans "spans" (defScope s_spans) fA cdv A outer s H E) (fun c d _ H => E c d H) (defBody s_spans) (w_spans (CT d) d) :=
  (xss_cons (xs_setLc (i := 1) (own := [("row", 3)]) rfl sc_spans.nd rfl rfl (sw_true rfl rfl rfl (by decide +kernel)) (xi_seq (xv 0)) (blkOk_by (N := N_spans) (sc := defScope s_spans) (by decide +kernel)) (fun _ _ _ _ _ => (xg_name (i := 3) sc_spans.nd rfl (Or.inl rfl))) (fun _ _ _ _ _ => xts_nil) (fun _ _ _ _ _ => xe_int))
    (xss_cons (xs_for hp rfl (xi_rngD rfl T.g_range (xa_cons (xe_op xo_sub (xe_blt xc_len rfl T.g_len (by decide +kernel) (xa_cons (xv 0) xa_nil)) xe_int) (xa_cons (xe_un xu_neg xe_int) (xa_cons (xe_un xu_neg xe_int) xa_nil)))) (xg_name (i := 2) sc_spans.nd rfl (Or.inl rfl)) (xss_cons (xs_if (xt_cmp (xo_nin (hu_of hr)) (xe_ix (hu_of hr) (xe_ix (hu_of hr) (xv 0) (xv 2) (fun _ _ => rfl)) xe_int (fun _ _ => rfl)) (xe_gtree rfl T.g_LEAVES.1 T.g_LEAVES.2) rfl) (xss_one (xs_augS (hu_of hr) (xv 1) (xv 2) (xe_ix (hu_of hr) (xv 1) (xe_op xo_add (xv 2) xe_int) (fun _ _ => rfl)) xo_iadd)) xss_nil)
    (xss_one (xs_if (xt_cmp (xo_eq (lim_of hr)) (xe_ix (hu_of hr) (xe_ix (hu_of hr) (xv 0) (xv 2) (fun _ _ => rfl)) xe_int (fun _ _ => rfl)) xe_str (nobehind _ (by decide) (by decide))) (xss_one (xs_augS (hu_of hr) (xv 1) (xv 2) (xe_ix (hu_of hr) (xv 1) (xe_op xo_add (xe_op xo_add (xv 2) xe_int) (xe_ix (hu_of hr) (xv 1) (xe_op xo_add (xv 2) xe_int) (fun _ _ => rfl))) (fun _ _ => rfl)) xo_iadd)) xss_nil))))
    (xss_one (xs_ret (xv 1)))))
theorem b_places (T : MG K mg base) {d : Nat} (F : FT P w K mg base d) {fA : Addr} {cdv : Value} {A : Around} {outer : List Env} {s : Shared} {H : Hp} {E : XK} (hr : Room d (A.deeper (envOfC "places" (defScope s_places) s.heap.objs.size fA cdv)))
    (tk : Takes (cxOf (L2.CX P w) P w K mg base N_places "places" (defScope s_places) fA cdv A outer s H E) (fun c d _ H => E c d H)) (hp : PassesOwn (model P w) (A.deeper (envOfC "places" (defScope s_places) s.heap.objs.size fA cdv)) (envOfC "places" (defScope s_places) s.heap.objs.size fA cdv) (cxOf (L2.CX P w) P w K mg base N_places "places" (defScope s_places) fA cdv A outer s H E).xe) :
    XSs (cxOf (L2.CX P w) P w K mg base N_places "places" (defScope s_places) fA cdv A outer s H E) (fun c d _ H => E c d H) (defBody s_places) (w_places (CT d) d) :=
  (xss_cons (xs_set (i := 3) sc_places.nd rfl (Or.inl rfl) (xe_lst xa_nil))
    (xss_cons (xs_set (i := 4) sc_places.nd rfl (Or.inl rfl) (xe_lst (xa_cons (xe_tup (xa_cons (xv 0) (xa_cons (xv 1) (xa_cons xe_int xa_nil)))) xa_nil)))
    (xss_cons (xs_for hp rfl (xi_seq (xv 2)) (xg_name (i := 5) sc_places.nd rfl (Or.inl rfl)) (xss_cons (xs_asg (xe_lm0 PySem.F.plainAttrs_list PySem.F.slot_list_pop PySem.F.type_list_pop xm_pop (xv 4)) (xg_tup rfl (xgs_cons (xg_name (i := 6) sc_places.nd rfl (Or.inl rfl)) (xgs_cons (xg_name (i := 7) sc_places.nd rfl (Or.inl rfl)) (xgs_cons (xg_name (i := 8) sc_places.nd rfl (Or.inl rfl)) xgs_nil)))))
    (xss_cons (xs_expr (xe_lm PySem.F.plainAttrs_list PySem.F.slot_list_append PySem.F.type_list_append xm_app (xv 3) (xa_cons (xe_tup (xa_cons (xv 8) (xa_cons (xv 7) xa_nil))) xa_nil)))
    (xss_cons (xs_set (i := 9) sc_places.nd rfl (Or.inl rfl) (xe_ix (hu_of hr) (xv 5) xe_int (fun _ _ => rfl)))
    (xss_one (xs_if (xt_cmp (xo_eq (lim_of hr)) (xv 9) xe_str (nobehind _ (by decide) (by decide))) (xss_cons (xs_expr (xe_lm PySem.F.plainAttrs_list PySem.F.slot_list_append PySem.F.type_list_append xm_app (xv 4) (xa_cons (xe_tup (xa_cons (xe_ix (hu_of hr) (xv 6) xe_int (fun _ _ => rfl)) (xa_cons (xv 7) (xa_cons (xv 8) xa_nil)))) xa_nil)))
    (xss_one (xs_expr (xe_lm PySem.F.plainAttrs_list PySem.F.slot_list_append PySem.F.type_list_append xm_app (xv 4) (xa_cons (xe_tup (xa_cons (xe_ix (hu_of hr) (xv 6) xe_int (fun _ _ => rfl)) (xa_cons (xv 7) (xa_cons (xv 8) xa_nil)))) xa_nil))))) (xss_one (xs_if (xt_cmp (xo_eq (lim_of hr)) (xv 9) xe_str (nobehind _ (by decide) (by decide))) (xss_one (xs_expr (xe_lm PySem.F.plainAttrs_list PySem.F.slot_list_append PySem.F.type_list_append xm_app (xv 4) (xa_cons (xe_tup (xa_cons (xe_ix (hu_of hr) (xv 6) xe_int (fun _ _ => rfl)) (xa_cons (xv 7) (xa_cons (xv 8) xa_nil)))) xa_nil)))) (xss_one (xs_if (xt_cmp (xo_in (hu_of hr)) (xv 9) (xe_tup (xa_cons xe_str (xa_cons xe_str xa_nil))) rfl) (xss_one (xs_expr (xe_lm PySem.F.plainAttrs_list PySem.F.slot_list_append PySem.F.type_list_append xm_app (xv 4) (xa_cons (xe_tup (xa_cons (xe_ix (hu_of hr) (xv 6) xe_int (fun _ _ => rfl)) (xa_cons (xv 7) (xa_cons (xv 8) xa_nil)))) xa_nil)))) (xss_one (xs_if (xt_cmp (xo_eq (lim_of hr)) (xv 9) xe_str (nobehind _ (by decide) (by decide))) (xss_one (xs_expr (xe_lm PySem.F.plainAttrs_list PySem.F.slot_list_append PySem.F.type_list_append xm_app (xv 4) (xa_cons (xe_tup (xa_cons (xe_ix (hu_of hr) (xv 6) xe_int (fun _ _ => rfl)) (xa_cons (xv 7) (xa_cons (xe_op xo_add (xv 8) xe_int) xa_nil)))) xa_nil)))) (xss_one (xs_if (xt_cmp (xo_eq (lim_of hr)) (xv 9) xe_str (nobehind _ (by decide) (by decide))) (xss_one (xs_expr (xe_lm PySem.F.plainAttrs_list PySem.F.slot_list_append PySem.F.type_list_append xm_app (xv 4) (xa_cons (xe_tup (xa_cons (xe_ix (hu_of hr) (xv 6) xe_int (fun _ _ => rfl)) (xa_cons (xe_op xo_add (xv 7) (xe_ix (hu_of hr) (xv 6) xe_int (fun _ _ => rfl))) (xa_cons (xv 8) xa_nil)))) xa_nil)))) (xss_one (xs_if (xt_cmp (xo_eq (lim_of hr)) (xv 9) xe_str (nobehind _ (by decide) (by decide))) (xss_one (xs_expr (xe_lm PySem.F.plainAttrs_list PySem.F.slot_list_append PySem.F.type_list_append xm_app (xv 4) (xa_cons (xe_tup (xa_cons (xe_ix (hu_of hr) (xe_ix (hu_of hr) (xv 7) (xe_ix (hu_of hr) (xv 5) xe_int (fun _ _ => rfl)) (fun _ _ => rfl)) xe_int (fun _ _ => rfl)) (xa_cons (xv 7) (xa_cons (xv 8) xa_nil)))) xa_nil)))) xss_nil))))))))))))))))
    (xss_one (xs_ret (xv 3))))))
theorem b_part_for (T : MG K mg base) {d : Nat} (F : FT P w K mg base d) {fA : Addr} {cdv : Value} {A : Around} {outer : List Env} {s : Shared} {H : Hp} {E : XK} (hr : Room d (A.deeper (envOfC "part_for" (defScope s_part_for) s.heap.objs.size fA cdv)))
    (tk : Takes (cxOf (L2.CX P w) P w K mg base N_part_for "part_for" (defScope s_part_for) fA cdv A outer s H E) (fun c d _ H => E c d H)) (hp : PassesOwn (model P w) (A.deeper (envOfC "part_for" (defScope s_part_for) s.heap.objs.size fA cdv)) (envOfC "part_for" (defScope s_part_for) s.heap.objs.size fA cdv) (cxOf (L2.CX P w) P w K mg base N_part_for "part_for" (defScope s_part_for) fA cdv A outer s H E).xe) :
    XSs (cxOf (L2.CX P w) P w K mg base N_part_for "part_for" (defScope s_part_for) fA cdv A outer s H E) (fun c d _ H => E c d H) (defBody s_part_for) (w_part_for (CT d) d) :=
  (xss_cons (xs_set (i := 3) sc_part_for.nd rfl (Or.inl rfl) (xe_call F.f_spans hr tk rfl (xa_cons (xv 1) xa_nil)))
    (xss_cons (xs_set (i := 4) sc_part_for.nd rfl (Or.inl rfl) xe_int)
    (xss_cons (xs_while hp (xt_cmp (xo_ne (lim_of hr)) (xe_ix (hu_of hr) (xe_ix (hu_of hr) (xv 1) (xv 4) (fun _ _ => rfl)) xe_int (fun _ _ => rfl)) xe_str (nobehind _ (by decide) (by decide))) (xss_one (xs_if (xt_cmp (xo_eq (lim_of hr)) (xe_ix (hu_of hr) (xe_ix (hu_of hr) (xv 1) (xv 4) (fun _ _ => rfl)) xe_int (fun _ _ => rfl)) xe_str (nobehind _ (by decide) (by decide))) (xss_cons (xs_set (i := 5) sc_part_for.nd rfl (Or.inl rfl) (xe_blt xc_len rfl T.g_len (by decide +kernel) (xa_cons (xe_call F.f_clauses hr tk rfl (xa_cons (xe_ix (hu_of hr) (xv 0) xe_int (fun _ _ => rfl)) xa_nil)) xa_nil)))
    (xss_cons (xs_aug (i := 4) sc_part_for.nd rfl (Or.inl rfl) xe_int xo_iadd)
    (xss_one (xs_if (xt_cmp xo_lt (xv 2) (xv 5) (nobehind _ (by decide) (by decide))) (xss_one (xs_set (i := 0) sc_part_for.nd rfl (Or.inl rfl) (xe_ix (hu_of hr) (xv 0) xe_int (fun _ _ => rfl)))) (xss_cons (xs_aug (i := 2) sc_part_for.nd rfl (Or.inl rfl) (xv 5) xo_isub)
    (xss_cons (xs_aug (i := 4) sc_part_for.nd rfl (Or.inl rfl) (xe_ix (hu_of hr) (xv 3) (xv 4) (fun _ _ => rfl)) xo_iadd)
    (xss_one (xs_set (i := 0) sc_part_for.nd rfl (Or.inl rfl) (xe_ix (hu_of hr) (xv 0) xe_int (fun _ _ => rfl)))))))))) (xss_cons (xs_aug (i := 4) sc_part_for.nd rfl (Or.inl rfl) xe_int xo_iadd)
    (xss_one (xs_set (i := 0) sc_part_for.nd rfl (Or.inl rfl) (xe_ix (hu_of hr) (xv 0) xe_int (fun _ _ => rfl))))))))
    (xss_one (xs_ret (xe_sl (xv 1) (xo_some (xv 4)) (xo_some (xe_op xo_add (xv 4) (xe_ix (hu_of hr) (xv 3) (xv 4) (fun _ _ => rfl))))))))))
theorem b_fitted (T : MG K mg base) {d : Nat} (F : FT P w K mg base d) {fA : Addr} {cdv : Value} {A : Around} {outer : List Env} {s : Shared} {H : Hp} {E : XK} (hr : Room d (A.deeper (envOfC "fitted" (defScope s_fitted) s.heap.objs.size fA cdv)))
    (tk : Takes (cxOf (L2.CX P w) P w K mg base N_fitted "fitted" (defScope s_fitted) fA cdv A outer s H E) (fun c d _ H => E c d H)) (hp : PassesOwn (model P w) (A.deeper (envOfC "fitted" (defScope s_fitted) s.heap.objs.size fA cdv)) (envOfC "fitted" (defScope s_fitted) s.heap.objs.size fA cdv) (cxOf (L2.CX P w) P w K mg base N_fitted "fitted" (defScope s_fitted) fA cdv A outer s H E).xe) :
    XSs (cxOf (L2.CX P w) P w K mg base N_fitted "fitted" (defScope s_fitted) fA cdv A outer s H E) (fun c d _ H => E c d H) (defBody s_fitted) (w_fitted (CT d) d) :=
  (xss_cons (xs_set (i := 6) sc_fitted.nd rfl (Or.inl rfl) (xe_lst xa_nil))
    (xss_cons (xs_for hp rfl (xi_zip rfl T.g_zip (xa_cons (xv 0) (xa_cons (xv 1) xa_nil))) (xg_tup rfl (xgs_cons (xg_name (i := 7) sc_fitted.nd rfl (Or.inl rfl)) (xgs_cons (xg_tup rfl (xgs_cons (xg_name (i := 8) sc_fitted.nd rfl (Or.inr rfl)) (xgs_cons (xg_name (i := 9) sc_fitted.nd rfl (Or.inl rfl)) xgs_nil))) xgs_nil))) (xss_cons (xs_if (xt_cmp (xo_eq (lim_of hr)) (xe_ix (hu_of hr) (xv 7) xe_int (fun _ _ => rfl)) xe_str (nobehind _ (by decide) (by decide))) (xss_cons (xs_set (i := 10) sc_fitted.nd rfl (Or.inl rfl) (xe_if (xt_cmp xo_lt (xe_ix (hu_of hr) (xv 7) xe_int (fun _ _ => rfl)) (xv 4) (nobehind _ (by decide) (by decide))) (xe_ix (hu_of hr) (xv 7) xe_int (fun _ _ => rfl)) (xe_op xo_add (xe_ix (hu_of hr) (xv 7) xe_int (fun _ _ => rfl)) (xv 5))))
    (xss_one (xs_set (i := 7) sc_fitted.nd rfl (Or.inl rfl) (xe_tup (xa_cons xe_str (xa_cons (xv 10) (xa_cons (xe_ty xc_tuple rfl T.g_tuple (by decide +kernel) (xa_cons (xe_lc (own := [("term", 11)]) rfl sc_fitted.nd (xi_seq (xe_ix (hu_of hr) (xv 7) xe_int (fun _ _ => rfl))) (blkOk_by (N := N_fitted) (sc := defScope s_fitted) (by decide +kernel)) (fun _ _ _ _ _ => (xg_name (i := 11) sc_fitted.nd rfl (Or.inl rfl))) (fun _ _ _ _ _ => xts_nil) (fun _ _ _ _ _ => (xe_call F.f_limited hr takesN rfl (xa_cons (xe_call F.f_open_at hr takesN rfl (xa_cons (xv 11) (xa_cons (xv 8) (xa_cons (xv 2) (xa_cons (xv 3) xa_nil))))) xa_nil)))) xa_nil)) xa_nil))))))) (xss_one (xs_if (xt_cmp (xo_eq (lim_of hr)) (xe_ix (hu_of hr) (xv 7) xe_int (fun _ _ => rfl)) xe_str (nobehind _ (by decide) (by decide))) (xss_one (xs_set (i := 7) sc_fitted.nd rfl (Or.inl rfl) (xe_tup (xa_cons xe_str (xa_cons (xe_call F.f_limited hr tk rfl (xa_cons (xe_call F.f_open_at hr tk rfl (xa_cons (xe_ix (hu_of hr) (xv 7) xe_int (fun _ _ => rfl)) (xa_cons (xv 8) (xa_cons (xv 2) (xa_cons (xv 3) xa_nil))))) xa_nil)) xa_nil))))) xss_nil)))
    (xss_one (xs_expr (xe_lm PySem.F.plainAttrs_list PySem.F.slot_list_append PySem.F.type_list_append xm_app (xv 6) (xa_cons (xv 7) xa_nil))))))
    (xss_one (xs_ret (xv 6)))))
theorem b_cut_rows (T : MG K mg base) {d : Nat} (F : FT P w K mg base d) {fA : Addr} {cdv : Value} {A : Around} {outer : List Env} {s : Shared} {H : Hp} {E : XK} (hr : Room d (A.deeper (envOfC "cut_rows" (defScope s_cut_rows) s.heap.objs.size fA cdv)))
    (tk : Takes (cxOf (L2.CX P w) P w K mg base N_cut_rows "cut_rows" (defScope s_cut_rows) fA cdv A outer s H E) (fun c d _ H => E c d H)) (hp : PassesOwn (model P w) (A.deeper (envOfC "cut_rows" (defScope s_cut_rows) s.heap.objs.size fA cdv)) (envOfC "cut_rows" (defScope s_cut_rows) s.heap.objs.size fA cdv) (cxOf (L2.CX P w) P w K mg base N_cut_rows "cut_rows" (defScope s_cut_rows) fA cdv A outer s H E).xe) :
    XSs (cxOf (L2.CX P w) P w K mg base N_cut_rows "cut_rows" (defScope s_cut_rows) fA cdv A outer s H E) (fun c d _ H => E c d H) (defBody s_cut_rows) (w_cut_rows (CT d) d) :=
  (xss_cons (xs_set (i := 6) sc_cut_rows.nd rfl (Or.inl rfl) (xe_call F.f_clauses hr tk rfl (xa_cons (xv 1) xa_nil)))
    (xss_cons (xs_par (i := 7) (j := 8) rfl sc_cut_rows.nd rfl rfl (by decide) rfl rfl (xa_cons (xe_blt xc_len rfl T.g_len (by decide +kernel) (xa_cons (xv 0) xa_nil)) (xa_cons (xe_blt xc_len rfl T.g_len (by decide +kernel) (xa_cons (xv 2) xa_nil)) xa_nil)) rfl)
    (xss_cons (xs_set (i := 9) sc_cut_rows.nd rfl (Or.inl rfl) (xe_call F.f_places hr tk rfl (xa_cons (xv 3) (xa_cons (xe_op xo_add (xv 0) (xv 2)) (xa_cons (xv 5) xa_nil)))))
    (xss_cons (xs_set (i := 10) sc_cut_rows.nd rfl (Or.inl rfl) (xe_call F.f_spans hr tk rfl (xa_cons (xv 5) xa_nil)))
    (xss_cons (xs_set (i := 11) sc_cut_rows.nd rfl (Or.inl rfl) xe_dict0)
    (xss_cons (xs_for hp rfl (xi_rngD rfl T.g_range (xa_cons (xe_op xo_sub (xe_blt xc_len rfl T.g_len (by decide +kernel) (xa_cons (xv 5) xa_nil)) xe_int) (xa_cons (xe_un xu_neg xe_int) (xa_cons (xe_un xu_neg xe_int) xa_nil)))) (xg_name (i := 12) sc_cut_rows.nd rfl (Or.inl rfl)) (xss_cons (xs_set (i := 13) sc_cut_rows.nd rfl (Or.inl rfl) (xe_ix (hu_of hr) (xv 5) (xv 12) (fun _ _ => rfl)))
    (xss_cons (xs_set (i := 14) sc_cut_rows.nd rfl (Or.inl rfl) (xe_if (xt_cmp (xo_in (hu_of hr)) (xe_ix (hu_of hr) (xv 13) xe_int (fun _ _ => rfl)) (xe_gtree rfl T.g_LEAVES.1 T.g_LEAVES.2) rfl) (xe_lst xa_nil) (xe_ix (hu_of hr) (xv 11) (xe_op xo_add (xv 12) xe_int) (fun _ _ => rfl))))
    (xss_cons (xs_if (xt_cmp (xo_eq (lim_of hr)) (xe_ix (hu_of hr) (xv 13) xe_int (fun _ _ => rfl)) xe_str (nobehind _ (by decide) (by decide))) (xss_one (xs_set (i := 14) sc_cut_rows.nd rfl (Or.inl rfl) (xe_op xo_add (xv 14) (xe_ix (hu_of hr) (xv 11) (xe_op xo_add (xe_op xo_add (xv 12) xe_int) (xe_ix (hu_of hr) (xv 10) (xe_op xo_add (xv 12) xe_int) (fun _ _ => rfl))) (fun _ _ => rfl))))) xss_nil)
    (xss_cons (xs_if (PW.pt (xw_and (xt_cmp (xo_eq (lim_of hr)) (xe_ix (hu_of hr) (xv 13) xe_int (fun _ _ => rfl)) xe_str (nobehind _ (by decide) (by decide))) (xw_and1 (xt_chain xo_le xo_lt (xv 7) (xe_ix (hu_of hr) (xv 13) xe_int (fun _ _ => rfl)) (xe_op xo_add (xv 7) (xv 8)))))) (xss_cons (xs_asg (xe_ix (hu_of hr) (xv 9) (xv 12) (fun _ _ => rfl)) (xg_tup rfl (xgs_cons (xg_name (i := 15) sc_cut_rows.nd rfl (Or.inl rfl)) (xgs_cons (xg_name (i := 16) sc_cut_rows.nd rfl (Or.inl rfl)) xgs_nil))))
    (xss_cons (xs_asg (xe_ix (hu_of hr) (xv 6) (xe_op xo_sub (xe_ix (hu_of hr) (xv 13) xe_int (fun _ _ => rfl)) (xv 7)) (fun _ _ => rfl)) (xg_tup rfl (xgs_cons (xg_name (i := 17) sc_cut_rows.nd rfl (Or.inl rfl)) (xgs_cons (xg_name (i := 18) sc_cut_rows.nd rfl (Or.inl rfl)) (xgs_cons (xg_name (i := 19) sc_cut_rows.nd rfl (Or.inl rfl)) (xgs_cons (xg_name (i := 20) sc_cut_rows.nd rfl (Or.inl rfl)) xgs_nil))))))
    (xss_cons (xs_set (i := 21) sc_cut_rows.nd rfl (Or.inl rfl) (xe_op xo_add (xv 0) (xe_sl (xv 16) (xo_some (xe_op xo_add (xv 7) (xv 8))) xo_none)))
    (xss_cons (xs_set (i := 22) sc_cut_rows.nd rfl (Or.inl rfl) (xe_tup (xa_cons xe_str (xa_cons (xv 19) (xa_cons (xv 20) xa_nil)))))
    (xss_cons (xs_set (i := 23) sc_cut_rows.nd rfl (Or.inl rfl) (xe_call F.f_part_for hr tk rfl (xa_cons (xv 1) (xa_cons (xv 4) (xa_cons (xe_op xo_sub (xe_ix (hu_of hr) (xv 13) xe_int (fun _ _ => rfl)) (xv 7)) xa_nil)))))
    (xss_cons (xs_set (i := 24) sc_cut_rows.nd rfl (Or.inl rfl) (xe_call F.f_places hr tk rfl (xa_cons (xv 22) (xa_cons (xe_op xo_add (xv 0) (xv 18)) (xa_cons (xv 23) xa_nil)))))
    (xss_cons (xs_set (i := 23) sc_cut_rows.nd rfl (Or.inl rfl) (xe_call F.f_fitted hr tk rfl (xa_cons (xv 23) (xa_cons (xv 24) (xa_cons (xe_ix (hu_of hr) (xv 13) xe_int (fun _ _ => rfl)) (xa_cons (xv 15) (xa_cons (xv 7) (xa_cons (xe_op xo_sub (xe_blt xc_len rfl T.g_len (by decide +kernel) (xa_cons (xv 21) xa_nil)) (xv 7)) xa_nil))))))))
    (xss_one (xs_asg (xe_call F.f_cut_rows hr tk rfl (xa_cons (xv 21) (xa_cons (xe_ix (hu_of hr) (xe_ix (hu_of hr) (xv 2) (xe_op xo_sub (xe_ix (hu_of hr) (xv 13) xe_int (fun _ _ => rfl)) (xv 7)) (fun _ _ => rfl)) xe_int (fun _ _ => rfl)) (xa_cons (xv 18) (xa_cons (xv 22) (xa_cons (xv 14) (xa_cons (xv 23) xa_nil))))))) (xg_sub (hu_of hr) (xv 11) (xv 12))))))))))) (xss_one (xs_if (PW.pt (xw_and (xt_cmp (xo_eq (lim_of hr)) (xe_ix (hu_of hr) (xv 13) xe_int (fun _ _ => rfl)) xe_str (nobehind _ (by decide) (by decide))) (xw_and1 (xt_cmp xo_ge (xe_ix (hu_of hr) (xv 13) xe_int (fun _ _ => rfl)) (xv 7) (nobehind _ (by decide) (by decide)))))) (xss_one (xs_asg (xe_op xo_add (xe_lst (xa_cons (xe_tup (xa_cons xe_str (xa_cons (xe_op xo_sub (xe_ix (hu_of hr) (xv 13) xe_int (fun _ _ => rfl)) (xv 8)) (xa_cons (xe_ix (hu_of hr) (xv 13) xe_int (fun _ _ => rfl)) xa_nil)))) xa_nil)) (xv 14)) (xg_sub (hu_of hr) (xv 11) (xv 12)))) (xss_one (xs_asg (xe_op xo_add (xe_lst (xa_cons (xv 13) xa_nil)) (xv 14)) (xg_sub (hu_of hr) (xv 11) (xv 12)))))))
    (xss_one (xs_if (xt_cmp xo_gt (xe_blt xc_len rfl T.g_len (by decide +kernel) (xa_cons (xe_ix (hu_of hr) (xv 11) (xv 12) (fun _ _ => rfl)) xa_nil)) (xe_gint rfl T.g_MANY_cutting) (nobehind _ (by decide) (by decide))) (xss_one (xs_raise rfl tk PySem.F.excBase_ValueError T.g_LimitError.1 T.g_LimitError.2.1 T.g_LimitError.2.2.1 (raises_own T.g_LimitError.2.2.2.1 T.g_LimitError.2.2.2.2) rfl)) xss_nil)))))))
    (xss_one (xs_ret (xe_ix (hu_of hr) (xv 11) xe_int (fun _ _ => rfl))))))))))
theorem b_cut (T : MG K mg base) {d : Nat} (F : FT P w K mg base d) {fA : Addr} {cdv : Value} {A : Around} {outer : List Env} {s : Shared} {H : Hp} {E : XK} (hr : Room d (A.deeper (envOfC "cut" (defScope s_cut) s.heap.objs.size fA cdv)))
    (tk : Takes (cxOf (L2.CX P w) P w K mg base N_cut "cut" (defScope s_cut) fA cdv A outer s H E) (fun c d _ H => E c d H)) (hp : PassesOwn (model P w) (A.deeper (envOfC "cut" (defScope s_cut) s.heap.objs.size fA cdv)) (envOfC "cut" (defScope s_cut) s.heap.objs.size fA cdv) (cxOf (L2.CX P w) P w K mg base N_cut "cut" (defScope s_cut) fA cdv A outer s H E).xe) :
    XSs (cxOf (L2.CX P w) P w K mg base N_cut "cut" (defScope s_cut) fA cdv A outer s H E) (fun c d _ H => E c d H) (defBody s_cut) (w_cut (CT d) d) :=
  (xss_cons (xs_set (i := 5) sc_cut.nd rfl (Or.inl rfl) (xe_call F.f_rules_of hr tk rfl (xa_cons (xv 1) xa_nil)))
    (xss_cons (xs_set (i := 6) sc_cut.nd rfl (Or.inl rfl) (xe_if (xt_tru (xv 5)) (xe_sl (xv 4) (xo_some xe_int) xo_none) (xv 4)))
    (xss_one (xs_ret (xe_ty xc_tuple rfl T.g_tuple (by decide +kernel) (xa_cons (xe_call F.f_cut_rows hr tk rfl (xa_cons (xe_ix (hu_of hr) (xv 0) xe_int (fun _ _ => rfl)) (xa_cons (xv 1) (xa_cons (xv 5) (xa_cons (xv 2) (xa_cons (xe_ty xc_list rfl T.g_list (by decide +kernel) (xa_cons (xv 3) xa_nil)) (xa_cons (xe_ty xc_list rfl T.g_list (by decide +kernel) (xa_cons (xv 6) xa_nil)) xa_nil))))))) xa_nil))))))
theorem b__law_start (T : MG K mg base) {d : Nat} (F : FT P w K mg base d) {fA : Addr} {cdv : Value} {A : Around} {outer : List Env} {s : Shared} {H : Hp} {E : XK} (hr : Room d (A.deeper (envOfC "_law_start" (defScope s__law_start) s.heap.objs.size fA cdv)))
    (tk : Takes (cxOf (L2.CX P w) P w K mg base N__law_start "_law_start" (defScope s__law_start) fA cdv A outer s H E) (fun c d _ H => E c d H)) (hp : PassesOwn (model P w) (A.deeper (envOfC "_law_start" (defScope s__law_start) s.heap.objs.size fA cdv)) (envOfC "_law_start" (defScope s__law_start) s.heap.objs.size fA cdv) (cxOf (L2.CX P w) P w K mg base N__law_start "_law_start" (defScope s__law_start) fA cdv A outer s H E).xe) :
    XSs (cxOf (L2.CX P w) P w K mg base N__law_start "_law_start" (defScope s__law_start) fA cdv A outer s H E) (fun c d _ H => E c d H) (defBody s__law_start) (w__law_start (CT d) d) :=
  (xss_cons (xs_set (i := 1) sc__law_start.nd rfl (Or.inl rfl) xe_int)
    (xss_cons (xs_for hp rfl (xi_seq (xe_sl (xv 0) xo_none (xo_some xe_int))) (xg_name (i := 2) sc__law_start.nd rfl (Or.inl rfl)) (xss_one (xs_set (i := 1) sc__law_start.nd rfl (Or.inl rfl) (xe_op xo_mod (xe_ty xc_int rfl T.g_int (by decide +kernel) (xa_cons (xe_op xo_add (xe_op xo_mul (xv 1) xe_int) (xe_op xo_mod (xe_blt xc_abs rfl T.g_abs (by decide +kernel) (xa_cons (xe_ty xc_int rfl T.g_int (by decide +kernel) (xa_cons (xv 2) xa_nil)) xa_nil)) xe_int)) xa_nil)) xe_int))))
    (xss_cons (xs_set (i := 3) sc__law_start.nd rfl (Or.inl rfl) xe_int)
    (xss_cons (xs_if (PW.pt (xw_and (xt_cmp xo_gt (xe_blt xc_len rfl T.g_len (by decide +kernel) (xa_cons (xv 0) xa_nil)) xe_int (nobehind _ (by decide) (by decide))) (xw_and1 (xt_cmp xo_ge (xe_ty xc_int rfl T.g_int (by decide +kernel) (xa_cons (xe_ix (hu_of hr) (xv 0) xe_int (fun _ _ => rfl)) xa_nil)) (xe_op xo_pow xe_int xe_int) (nobehind _ (by decide) (by decide)))))) (xss_one (xs_set (i := 3) sc__law_start.nd rfl (Or.inl rfl) (xe_ty xc_int rfl T.g_int (by decide +kernel) (xa_cons (xe_ix (hu_of hr) (xv 0) xe_int (fun _ _ => rfl)) xa_nil)))) xss_nil)
    (xss_one (xs_ret (xe_lst (xa_cons (xv 3) (xa_cons (xe_op xo_mod (xe_ty xc_int rfl T.g_int (by decide +kernel) (xa_cons (xe_op xo_add (xe_op xo_mul (xv 1) xe_int) xe_int) xa_nil)) xe_int) (xa_cons xe_int xa_nil))))))))))
theorem b__law_take (T : MG K mg base) {d : Nat} (F : FT P w K mg base d) {fA : Addr} {cdv : Value} {A : Around} {outer : List Env} {s : Shared} {H : Hp} {E : XK} (hr : Room d (A.deeper (envOfC "_law_take" (defScope s__law_take) s.heap.objs.size fA cdv)))
    (tk : Takes (cxOf (L2.CX P w) P w K mg base N__law_take "_law_take" (defScope s__law_take) fA cdv A outer s H E) (fun c d _ H => E c d H)) (hp : PassesOwn (model P w) (A.deeper (envOfC "_law_take" (defScope s__law_take) s.heap.objs.size fA cdv)) (envOfC "_law_take" (defScope s__law_take) s.heap.objs.size fA cdv) (cxOf (L2.CX P w) P w K mg base N__law_take "_law_take" (defScope s__law_take) fA cdv A outer s H E).xe) :
    XSs (cxOf (L2.CX P w) P w K mg base N__law_take "_law_take" (defScope s__law_take) fA cdv A outer s H E) (fun c d _ H => E c d H) (defBody s__law_take) (w__law_take (CT d) d) :=
  (xss_cons (xs_if (xt_cmp xo_gt (xe_ix (hu_of hr) (xv 0) xe_int (fun _ _ => rfl)) xe_int (nobehind _ (by decide) (by decide))) (xss_cons (xs_set (i := 2) sc__law_take.nd rfl (Or.inl rfl) (xe_op xo_mod (xe_ty xc_int rfl T.g_int (by decide +kernel) (xa_cons (xe_ix (hu_of hr) (xv 0) xe_int (fun _ _ => rfl)) xa_nil)) (xv 1)))
    (xss_cons (xs_asg (xe_op xo_div (xe_ix (hu_of hr) (xv 0) xe_int (fun _ _ => rfl)) (xv 1)) (xg_sub (hu_of hr) (xv 0) xe_int))
    (xss_one (xs_ret (xv 2))))) xss_nil)
    (xss_cons (xs_asg (xe_op xo_mod (xe_ty xc_int rfl T.g_int (by decide +kernel) (xa_cons (xe_op xo_add (xe_op xo_mul (xe_ix (hu_of hr) (xv 0) xe_int (fun _ _ => rfl)) xe_int) xe_int) xa_nil)) xe_int) (xg_sub (hu_of hr) (xv 0) xe_int))
    (xss_one (xs_ret (xe_op xo_mod (xe_ty xc_int rfl T.g_int (by decide +kernel) (xa_cons (xe_op xo_div (xe_ix (hu_of hr) (xv 0) xe_int (fun _ _ => rfl)) xe_int) xa_nil)) (xv 1))))))
theorem b__law_doubled (T : MG K mg base) {d : Nat} (F : FT P w K mg base d) {fA : Addr} {cdv : Value} {A : Around} {outer : List Env} {s : Shared} {H : Hp} {E : XK} (hr : Room d (A.deeper (envOfC "_law_doubled" (defScope s__law_doubled) s.heap.objs.size fA cdv)))
    (tk : Takes (cxOf (L2.CX P w) P w K mg base N__law_doubled "_law_doubled" (defScope s__law_doubled) fA cdv A outer s H E) (fun c d _ H => E c d H)) (hp : PassesOwn (model P w) (A.deeper (envOfC "_law_doubled" (defScope s__law_doubled) s.heap.objs.size fA cdv)) (envOfC "_law_doubled" (defScope s__law_doubled) s.heap.objs.size fA cdv) (cxOf (L2.CX P w) P w K mg base N__law_doubled "_law_doubled" (defScope s__law_doubled) fA cdv A outer s H E).xe) :
    XSs (cxOf (L2.CX P w) P w K mg base N__law_doubled "_law_doubled" (defScope s__law_doubled) fA cdv A outer s H E) (fun c d _ H => E c d H) (defBody s__law_doubled) (w__law_doubled (CT d) d) :=
  (xss_cons (xs_set (i := 1) sc__law_doubled.nd rfl (Or.inl rfl) (xe_lst (xa_cons (xe_tup (xa_cons xe_str (xa_cons xe_int (xa_cons (xe_tup xa_nil) xa_nil)))) (xa_cons (xe_tup (xa_cons xe_str xa_nil)) xa_nil))))
    (xss_cons (xs_for hp rfl (xi_rng1 rfl T.g_range (xa_cons (xv 0) xa_nil)) (xg_name (i := 2) sc__law_doubled.nd rfl (Or.inl rfl)) (xss_cons (xs_set (i := 3) sc__law_doubled.nd rfl (Or.inl rfl) (xe_op xo_add (xe_op xo_add (xe_lst (xa_cons (xe_tup (xa_cons xe_str (xa_cons xe_int (xa_cons (xe_tup xa_nil) xa_nil)))) (xa_cons (xe_tup (xa_cons xe_str xa_nil)) xa_nil))) (xv 1)) (xv 1)))
    (xss_one (xs_set (i := 1) sc__law_doubled.nd rfl (Or.inl rfl) (xe_op xo_add (xe_lst (xa_cons (xe_tup (xa_cons xe_str (xa_cons xe_int (xa_cons (xe_tup xa_nil) xa_nil)))) xa_nil)) (xv 3))))))
    (xss_one (xs_ret (xe_sl (xv 1) (xo_some xe_int) xo_none)))))
theorem b_law (T : MG K mg base) {d : Nat} (F : FT P w K mg base d) {fA : Addr} {cdv : Value} {A : Around} {outer : List Env} {s : Shared} {H : Hp} {E : XK} (hr : Room d (A.deeper (envOfC "law" (defScope s_law) s.heap.objs.size fA cdv)))
    (tk : Takes (cxOf (L2.CX P w) P w K mg base N_law "law" (defScope s_law) fA cdv A outer s H E) (fun c d _ H => E c d H)) (hp : PassesOwn (model P w) (A.deeper (envOfC "law" (defScope s_law) s.heap.objs.size fA cdv)) (envOfC "law" (defScope s_law) s.heap.objs.size fA cdv) (cxOf (L2.CX P w) P w K mg base N_law "law" (defScope s_law) fA cdv A outer s H E).xe) :
    XSs (cxOf (L2.CX P w) P w K mg base N_law "law" (defScope s_law) fA cdv A outer s H E) (fun c d _ H => E c d H) (defBody s_law) (w_law (CT d) d) :=
  (xss_cons (xs_set (i := 1) sc_law.nd rfl (Or.inl rfl) (xe_call F.f__law_start hr tk rfl (xa_cons (xv 0) xa_nil)))
    (xss_cons (xs_asg (xe_tup (xa_cons (xe_tup (xa_cons xe_str (xa_cons xe_str (xa_cons (xe_tup xa_nil) xa_nil)))) (xa_cons (xe_tup (xa_cons xe_str (xa_cons xe_str (xa_cons (xe_tup xa_nil) xa_nil)))) xa_nil))) (xg_tup rfl (xgs_cons (xg_name (i := 2) sc_law.nd rfl (Or.inl rfl)) (xgs_cons (xg_name (i := 3) sc_law.nd rfl (Or.inl rfl)) xgs_nil))))
    (xss_cons (xs_set (i := 4) sc_law.nd rfl (Or.inl rfl) (xe_call F.f__law_take hr tk rfl (xa_cons (xv 1) (xa_cons xe_int xa_nil))))
    (xss_cons (xs_set (i := 5) sc_law.nd rfl (Or.inl rfl) (xe_lst (xa_cons (xe_tup (xa_cons (xe_tup xa_nil) (xa_cons xe_str (xa_cons (xe_tup xa_nil) (xa_cons (xv 2) xa_nil))))) (xa_cons (xe_tup (xa_cons (xe_tup xa_nil) (xa_cons xe_str (xa_cons (xe_tup xa_nil) (xa_cons (xe_tup (xa_cons xe_str (xa_cons (xv 3) (xa_cons (xv 3) xa_nil)))) xa_nil))))) (xa_cons (xe_tup (xa_cons (xe_tup xa_nil) (xa_cons xe_str (xa_cons (xe_tup xa_nil) (xa_cons (xe_tup (xa_cons xe_str xa_nil)) xa_nil))))) xa_nil)))))
    (xss_cons (xs_set (i := 5) sc_law.nd rfl (Or.inl rfl) (xe_op xo_add (xv 5) (xe_op xo_mul (xe_lst (xa_cons (xe_tup (xa_cons (xe_tup xa_nil) (xa_cons xe_str (xa_cons (xe_tup xa_nil) (xa_cons (xe_tup (xa_cons xe_str (xa_cons (xv 2) (xa_cons (xv 2) xa_nil)))) xa_nil))))) xa_nil)) (xv 4))))
    (xss_cons (xs_set (i := 6) sc_law.nd rfl (Or.inl rfl) (xe_tup (xa_cons (xe_tup (xa_cons (xe_tup (xa_cons xe_str (xa_cons (xe_tup (xa_cons (xe_tup xa_nil) (xa_cons xe_str xa_nil))) xa_nil))) (xa_cons (xe_tup (xa_cons xe_str (xa_cons (xe_tup (xa_cons (xe_tup xa_nil) (xa_cons xe_str xa_nil))) xa_nil))) xa_nil))) (xa_cons (xe_ty xc_tuple rfl T.g_tuple (by decide +kernel) (xa_cons (xv 5) xa_nil)) xa_nil))))
    (xss_cons (xs_set (i := 7) sc_law.nd rfl (Or.inl rfl) (xe_tup (xa_cons xe_str (xa_cons (xe_tup (xa_cons (xe_tup (xa_cons (xe_tup xa_nil) (xa_cons xe_str (xa_cons (xe_tup xa_nil) (xa_cons (xe_tup (xa_cons xe_str xa_nil)) xa_nil))))) xa_nil)) (xa_cons (xv 2) xa_nil)))))
    (xss_cons (xs_set (i := 8) sc_law.nd rfl (Or.inl rfl) (xe_blt xc_len rfl T.g_len (by decide +kernel) (xa_cons (xv 5) xa_nil)))
    (xss_cons (xs_set (i := 9) sc_law.nd rfl (Or.inl rfl) (xe_tup (xa_cons (xe_tup (xa_cons xe_str xa_nil)) (xa_cons (xe_tup (xa_cons xe_str (xa_cons xe_int (xa_cons (xe_tup xa_nil) xa_nil)))) (xa_cons (xe_tup (xa_cons xe_str xa_nil)) (xa_cons (xe_tup (xa_cons xe_str (xa_cons (xv 8) (xa_cons (xe_tup xa_nil) xa_nil)))) (xa_cons (xe_tup (xa_cons xe_str xa_nil)) (xa_cons (xe_tup (xa_cons xe_str (xa_cons (xv 8) (xa_cons (xe_tup xa_nil) xa_nil)))) (xa_cons (xe_tup (xa_cons xe_str xa_nil)) xa_nil)))))))))
    (xss_cons (xs_set (i := 10) sc_law.nd rfl (Or.inl rfl) (xe_op xo_add xe_int (xe_call F.f__law_take hr tk rfl (xa_cons (xv 1) (xa_cons xe_int xa_nil)))))
    (xss_cons (xs_set (i := 11) sc_law.nd rfl (Or.inl rfl) (xe_lst (xa_cons (xe_tup (xa_cons xe_str xa_nil)) xa_nil)))
    (xss_cons (xs_for hp rfl (xi_rng1 rfl T.g_range (xa_cons (xe_op xo_sub (xv 10) xe_int) xa_nil)) (xg_name (i := 12) sc_law.nd rfl (Or.inl rfl)) (xss_one (xs_set (i := 11) sc_law.nd rfl (Or.inl rfl) (xe_op xo_add (xv 11) (xe_lst (xa_cons (xe_tup (xa_cons xe_str (xa_cons (xv 8) (xa_cons (xe_tup xa_nil) xa_nil)))) (xa_cons (xe_tup (xa_cons xe_str (xa_cons xe_int (xa_cons (xe_tup xa_nil) xa_nil)))) xa_nil)))))))
    (xss_cons (xs_set (i := 11) sc_law.nd rfl (Or.inl rfl) (xe_op xo_add (xv 11) (xe_lst (xa_cons (xe_tup (xa_cons xe_str (xa_cons (xv 8) (xa_cons (xe_tup xa_nil) xa_nil)))) (xa_cons (xe_tup (xa_cons xe_str (xa_cons xe_int (xa_cons (xe_tup xa_nil) xa_nil)))) (xa_cons (xe_tup (xa_cons xe_str xa_nil)) xa_nil))))))
    (xss_cons (xs_set (i := 13) sc_law.nd rfl (Or.inl rfl) (xe_ty xc_tuple rfl T.g_tuple (by decide +kernel) (xa_cons (xe_call F.f__law_doubled hr tk rfl (xa_cons (xv 10) xa_nil)) xa_nil)))
    (xss_cons (xs_try rfl rfl ⟨rfl, by decide, .inl T.g_LimitError.2.1⟩ tk T.m_LimitError (fun _ _ _ tk hp => (xss_one (xs_set (i := 14) sc_law.nd rfl (Or.inl rfl) (xe_call F.f_cut hr tk rfl (xa_cons (xv 6) (xa_cons (xv 7) (xa_cons (xv 2) (xa_cons (xv 9) (xa_cons (xe_ty xc_tuple rfl T.g_tuple (by decide +kernel) (xa_cons (xv 11) xa_nil)) xa_nil))))))))) (fun _ _ => (xss_one (xs_ret (xe_cmp xo_gt (xe_blt xc_len rfl T.g_len (by decide +kernel) (xa_cons (xv 13) xa_nil)) xe_int (nobehind _ (by decide) (by decide)))))))
    (xss_one (xs_ret (xe_and (xe_cmp xo_le (xe_blt xc_len rfl T.g_len (by decide +kernel) (xa_cons (xv 13) xa_nil)) xe_int (nobehind _ (by decide) (by decide))) (xe_and (xe_isi (.inr (.inr (.inr (.inl rfl)))) rfl T.g_isinstance (by decide +kernel) rfl T.g_tuple (by decide +kernel) (xv 14)) (xe_one (xe_cmp (xo_eq (lim_of hr)) (xv 14) (xv 13) (nobehind _ (by decide) (by decide)))))))))))))))))))))))
structure FD (K : PySem.W.Frag) (mg : Str → Option Value) : Prop where
  f_has_more : ∃ fd, FunD K "has_more" "has_more" (defArgs s_has_more) (defBody s_has_more) (defScope s_has_more) [] [] (He.fAd K ("has_more", none)) fd ∧ mg "has_more" = some (.ref (He.fAd K ("has_more", none)))
  f_depth : ∃ fd, FunD K "depth" "depth" (defArgs s_depth) (defBody s_depth) (defScope s_depth) [] [] (He.fAd K ("depth", none)) fd ∧ mg "depth" = some (.ref (He.fAd K ("depth", none)))
  f_changed : ∃ fd, FunD K "changed" "changed" (defArgs s_changed) (defBody s_changed) (defScope s_changed) [] [] (He.fAd K ("changed", none)) fd ∧ mg "changed" = some (.ref (He.fAd K ("changed", none)))
  f_lift_term : ∃ fd, FunD K "lift_term" "lift_term" (defArgs s_lift_term) (defBody s_lift_term) (defScope s_lift_term) [] [] (He.fAd K ("lift_term", none)) fd ∧ mg "lift_term" = some (.ref (He.fAd K ("lift_term", none)))
  f_open_at : ∃ fd, FunD K "open_at" "open_at" (defArgs s_open_at) (defBody s_open_at) (defScope s_open_at) [] [] (He.fAd K ("open_at", none)) fd ∧ mg "open_at" = some (.ref (He.fAd K ("open_at", none)))
  f_open_term : ∃ fd, FunD K "open_term" "open_term" (defArgs s_open_term) (defBody s_open_term) (defScope s_open_term) [] [] (He.fAd K ("open_term", none)) fd ∧ mg "open_term" = some (.ref (He.fAd K ("open_term", none)))
  f_limited : ∃ fd, FunD K "limited" "limited" (defArgs s_limited) (defBody s_limited) (defScope s_limited) [] [] (He.fAd K ("limited", none)) fd ∧ mg "limited" = some (.ref (He.fAd K ("limited", none)))
  f_turned : ∃ fd, FunD K "turned" "turned" (defArgs s_turned) (defBody s_turned) (defScope s_turned) [] [] (He.fAd K ("turned", none)) fd ∧ mg "turned" = some (.ref (He.fAd K ("turned", none)))
  f_turned_rule : ∃ fd, FunD K "turned_rule" "turned_rule" (defArgs s_turned_rule) (defBody s_turned_rule) (defScope s_turned_rule) [] [] (He.fAd K ("turned_rule", none)) fd ∧ mg "turned_rule" = some (.ref (He.fAd K ("turned_rule", none)))
  f_taken_rule : ∃ fd, FunD K "taken_rule" "taken_rule" (defArgs s_taken_rule) (defBody s_taken_rule) (defScope s_taken_rule) [] [] (He.fAd K ("taken_rule", none)) fd ∧ mg "taken_rule" = some (.ref (He.fAd K ("taken_rule", none)))
  f_clauses : ∃ fd, FunD K "clauses" "clauses" (defArgs s_clauses) (defBody s_clauses) (defScope s_clauses) [] [] (He.fAd K ("clauses", none)) fd ∧ mg "clauses" = some (.ref (He.fAd K ("clauses", none)))
  f_joined : ∃ fd, FunD K "joined" "joined" (defArgs s_joined) (defBody s_joined) (defScope s_joined) [] [] (He.fAd K ("joined", none)) fd ∧ mg "joined" = some (.ref (He.fAd K ("joined", none)))
  f_rules_of : ∃ fd, FunD K "rules_of" "rules_of" (defArgs s_rules_of) (defBody s_rules_of) (defScope s_rules_of) [] [] (He.fAd K ("rules_of", none)) fd ∧ mg "rules_of" = some (.ref (He.fAd K ("rules_of", none)))
  f_goal_of : ∃ fd, FunD K "goal_of" "goal_of" (defArgs s_goal_of) (defBody s_goal_of) (defScope s_goal_of) [] [] (He.fAd K ("goal_of", none)) fd ∧ mg "goal_of" = some (.ref (He.fAd K ("goal_of", none)))
  f_spans : ∃ fd, FunD K "spans" "spans" (defArgs s_spans) (defBody s_spans) (defScope s_spans) [] [] (He.fAd K ("spans", none)) fd ∧ mg "spans" = some (.ref (He.fAd K ("spans", none)))
  f_places : ∃ fd, FunD K "places" "places" (defArgs s_places) (defBody s_places) (defScope s_places) [] [] (He.fAd K ("places", none)) fd ∧ mg "places" = some (.ref (He.fAd K ("places", none)))
  f_part_for : ∃ fd, FunD K "part_for" "part_for" (defArgs s_part_for) (defBody s_part_for) (defScope s_part_for) [] [] (He.fAd K ("part_for", none)) fd ∧ mg "part_for" = some (.ref (He.fAd K ("part_for", none)))
  f_fitted : ∃ fd, FunD K "fitted" "fitted" (defArgs s_fitted) (defBody s_fitted) (defScope s_fitted) [] [] (He.fAd K ("fitted", none)) fd ∧ mg "fitted" = some (.ref (He.fAd K ("fitted", none)))
  f_cut_rows : ∃ fd, FunD K "cut_rows" "cut_rows" (defArgs s_cut_rows) (defBody s_cut_rows) (defScope s_cut_rows) [] [] (He.fAd K ("cut_rows", none)) fd ∧ mg "cut_rows" = some (.ref (He.fAd K ("cut_rows", none)))
  f_cut : ∃ fd, FunD K "cut" "cut" (defArgs s_cut) (defBody s_cut) (defScope s_cut) [] [] (He.fAd K ("cut", none)) fd ∧ mg "cut" = some (.ref (He.fAd K ("cut", none)))
  f__law_start : ∃ fd, FunD K "_law_start" "_law_start" (defArgs s__law_start) (defBody s__law_start) (defScope s__law_start) [] [] (He.fAd K ("_law_start", none)) fd ∧ mg "_law_start" = some (.ref (He.fAd K ("_law_start", none)))
  f__law_take : ∃ fd, FunD K "_law_take" "_law_take" (defArgs s__law_take) (defBody s__law_take) (defScope s__law_take) [] [] (He.fAd K ("_law_take", none)) fd ∧ mg "_law_take" = some (.ref (He.fAd K ("_law_take", none)))
  f__law_doubled : ∃ fd, FunD K "_law_doubled" "_law_doubled" (defArgs s__law_doubled) (defBody s__law_doubled) (defScope s__law_doubled) [] [] (He.fAd K ("_law_doubled", none)) fd ∧ mg "_law_doubled" = some (.ref (He.fAd K ("_law_doubled", none)))
  f_law : ∃ fd, FunD K "law" "law" (defArgs s_law) (defBody s_law) (defScope s_law) [] [] (He.fAd K ("law", none)) fd ∧ mg "law" = some (.ref (He.fAd K ("law", none)))
theorem all_ft (T : MG K mg base) (D : FD K mg) : ∀ d, FT P w K mg base d
  | 0 => by
    obtain ⟨fd_has_more, F_has_more, g_has_more⟩ := D.f_has_more
    obtain ⟨fd_depth, F_depth, g_depth⟩ := D.f_depth
    obtain ⟨fd_changed, F_changed, g_changed⟩ := D.f_changed
    obtain ⟨fd_lift_term, F_lift_term, g_lift_term⟩ := D.f_lift_term
    obtain ⟨fd_open_at, F_open_at, g_open_at⟩ := D.f_open_at
    obtain ⟨fd_open_term, F_open_term, g_open_term⟩ := D.f_open_term
    obtain ⟨fd_limited, F_limited, g_limited⟩ := D.f_limited
    obtain ⟨fd_turned, F_turned, g_turned⟩ := D.f_turned
    obtain ⟨fd_turned_rule, F_turned_rule, g_turned_rule⟩ := D.f_turned_rule
    obtain ⟨fd_taken_rule, F_taken_rule, g_taken_rule⟩ := D.f_taken_rule
    obtain ⟨fd_clauses, F_clauses, g_clauses⟩ := D.f_clauses
    obtain ⟨fd_joined, F_joined, g_joined⟩ := D.f_joined
    obtain ⟨fd_rules_of, F_rules_of, g_rules_of⟩ := D.f_rules_of
    obtain ⟨fd_goal_of, F_goal_of, g_goal_of⟩ := D.f_goal_of
    obtain ⟨fd_spans, F_spans, g_spans⟩ := D.f_spans
    obtain ⟨fd_places, F_places, g_places⟩ := D.f_places
    obtain ⟨fd_part_for, F_part_for, g_part_for⟩ := D.f_part_for
    obtain ⟨fd_fitted, F_fitted, g_fitted⟩ := D.f_fitted
    obtain ⟨fd_cut_rows, F_cut_rows, g_cut_rows⟩ := D.f_cut_rows
    obtain ⟨fd_cut, F_cut, g_cut⟩ := D.f_cut
    obtain ⟨fd__law_start, F__law_start, g__law_start⟩ := D.f__law_start
    obtain ⟨fd__law_take, F__law_take, g__law_take⟩ := D.f__law_take
    obtain ⟨fd__law_doubled, F__law_doubled, g__law_doubled⟩ := D.f__law_doubled
    obtain ⟨fd_law, F_law, g_law⟩ := D.f_law
    exact ⟨FnT.mk' F_has_more g_has_more (F_has_more.bindsN (ps := ["terms", "most"]) fun _ _ _ _ _ _ us hl => match us, hl with | [_, _], _ => rfl) fnt_no,
      FnT.mk' F_depth g_depth (F_depth.bindsN (ps := ["term"]) fun _ _ _ _ _ _ us hl => match us, hl with | [_], _ => rfl) fnt_no,
      FnT.mk' F_changed g_changed (F_changed.bindsN (ps := ["term", "change"]) fun _ _ _ _ _ _ us hl => match us, hl with | [_, _], _ => rfl) fnt_no,
      FnT.mk' F_lift_term g_lift_term (F_lift_term.bindsN (ps := ["term", "k"]) fun _ _ _ _ _ _ us hl => match us, hl with | [_, _], _ => rfl) fnt_no,
      FnT.mk' F_open_at g_open_at (F_open_at.bindsN (ps := ["term", "low", "terms", "further"]) fun _ _ _ _ _ _ us hl => match us, hl with | [_, _, _, _], _ => rfl) fnt_no,
      FnT.mk' F_open_term g_open_term (F_open_term.bindsN (ps := ["term", "terms"]) fun _ _ _ _ _ _ us hl => match us, hl with | [_, _], _ => rfl) fnt_no,
      FnT.mk' F_limited g_limited (F_limited.bindsN (ps := ["term"]) fun _ _ _ _ _ _ us hl => match us, hl with | [_], _ => rfl) fnt_no,
      FnT.mk' F_turned g_turned (F_turned.bindsN (ps := ["goal", "inner", "change"]) fun _ _ _ _ _ _ us hl => match us, hl with | [_, _, _], _ => rfl) fnt_no,
      FnT.mk' F_turned_rule g_turned_rule (F_turned_rule.bindsN (ps := ["rule", "inner", "change"]) fun _ _ _ _ _ _ us hl => match us, hl with | [_, _, _], _ => rfl) fnt_no,
      FnT.mk' F_taken_rule g_taken_rule (F_taken_rule.bindsN (ps := ["rule", "more"]) fun _ _ _ _ _ _ us hl => match us, hl with | [_, _], _ => rfl) fnt_no,
      FnT.mk' F_clauses g_clauses (F_clauses.bindsN (ps := ["goal"]) fun _ _ _ _ _ _ us hl => match us, hl with | [_], _ => rfl) fnt_no,
      FnT.mk' F_joined g_joined (F_joined.bindsN (ps := ["goals"]) fun _ _ _ _ _ _ us hl => match us, hl with | [_], _ => rfl) fnt_no,
      FnT.mk' F_rules_of g_rules_of (F_rules_of.bindsN (ps := ["goal"]) fun _ _ _ _ _ _ us hl => match us, hl with | [_], _ => rfl) fnt_no,
      FnT.mk' F_goal_of g_goal_of (F_goal_of.bindsN (ps := ["rule"]) fun _ _ _ _ _ _ us hl => match us, hl with | [_], _ => rfl) fnt_no,
      FnT.mk' F_spans g_spans (F_spans.bindsN (ps := ["rows"]) fun _ _ _ _ _ _ us hl => match us, hl with | [_], _ => rfl) fnt_no,
      FnT.mk' F_places g_places (F_places.bindsN (ps := ["goal", "rules", "rows"]) fun _ _ _ _ _ _ us hl => match us, hl with | [_, _, _], _ => rfl) fnt_no,
      FnT.mk' F_part_for g_part_for (F_part_for.bindsN (ps := ["goal", "rows", "j"]) fun _ _ _ _ _ _ us hl => match us, hl with | [_, _, _], _ => rfl) fnt_no,
      FnT.mk' F_fitted g_fitted (F_fitted.bindsN (ps := ["rows", "spots", "terms", "names", "count", "more"]) fun _ _ _ _ _ _ us hl => match us, hl with | [_, _, _, _, _, _], _ => rfl) fnt_no,
      FnT.mk' F_cut_rows g_cut_rows (F_cut_rows.bindsN (ps := ["rules", "middle", "rest", "goal", "first", "second"]) fun _ _ _ _ _ _ us hl => match us, hl with | [_, _, _, _, _, _], _ => rfl) fnt_no,
      FnT.mk' F_cut g_cut (F_cut.bindsN (ps := ["program", "middle", "goal", "first", "second"]) fun _ _ _ _ _ _ us hl => match us, hl with | [_, _, _, _, _], _ => rfl) fnt_no,
      FnT.mk' F__law_start g__law_start (F__law_start.bindsN (ps := ["script"]) fun _ _ _ _ _ _ us hl => match us, hl with | [_], _ => rfl) fnt_no,
      FnT.mk' F__law_take g__law_take (F__law_take.bindsN (ps := ["draw", "many"]) fun _ _ _ _ _ _ us hl => match us, hl with | [_, _], _ => rfl) fnt_no,
      FnT.mk' F__law_doubled g__law_doubled (F__law_doubled.bindsN (ps := ["turns"]) fun _ _ _ _ _ _ us hl => match us, hl with | [_], _ => rfl) fnt_no,
      FnT.mk' F_law g_law (F_law.bindsN (ps := ["script"]) fun _ _ _ _ _ _ us hl => match us, hl with | [_], _ => rfl) fnt_no⟩
  | d + 1 => by
    have F := all_ft T D d
    obtain ⟨fd_has_more, F_has_more, g_has_more⟩ := D.f_has_more
    obtain ⟨fd_depth, F_depth, g_depth⟩ := D.f_depth
    obtain ⟨fd_changed, F_changed, g_changed⟩ := D.f_changed
    obtain ⟨fd_lift_term, F_lift_term, g_lift_term⟩ := D.f_lift_term
    obtain ⟨fd_open_at, F_open_at, g_open_at⟩ := D.f_open_at
    obtain ⟨fd_open_term, F_open_term, g_open_term⟩ := D.f_open_term
    obtain ⟨fd_limited, F_limited, g_limited⟩ := D.f_limited
    obtain ⟨fd_turned, F_turned, g_turned⟩ := D.f_turned
    obtain ⟨fd_turned_rule, F_turned_rule, g_turned_rule⟩ := D.f_turned_rule
    obtain ⟨fd_taken_rule, F_taken_rule, g_taken_rule⟩ := D.f_taken_rule
    obtain ⟨fd_clauses, F_clauses, g_clauses⟩ := D.f_clauses
    obtain ⟨fd_joined, F_joined, g_joined⟩ := D.f_joined
    obtain ⟨fd_rules_of, F_rules_of, g_rules_of⟩ := D.f_rules_of
    obtain ⟨fd_goal_of, F_goal_of, g_goal_of⟩ := D.f_goal_of
    obtain ⟨fd_spans, F_spans, g_spans⟩ := D.f_spans
    obtain ⟨fd_places, F_places, g_places⟩ := D.f_places
    obtain ⟨fd_part_for, F_part_for, g_part_for⟩ := D.f_part_for
    obtain ⟨fd_fitted, F_fitted, g_fitted⟩ := D.f_fitted
    obtain ⟨fd_cut_rows, F_cut_rows, g_cut_rows⟩ := D.f_cut_rows
    obtain ⟨fd_cut, F_cut, g_cut⟩ := D.f_cut
    obtain ⟨fd__law_start, F__law_start, g__law_start⟩ := D.f__law_start
    obtain ⟨fd__law_take, F__law_take, g__law_take⟩ := D.f__law_take
    obtain ⟨fd__law_doubled, F__law_doubled, g__law_doubled⟩ := D.f__law_doubled
    obtain ⟨fd_law, F_law, g_law⟩ := D.f_law
    exact ⟨FnT.mk' F_has_more g_has_more (F_has_more.bindsN (ps := ["terms", "most"]) fun _ _ _ _ _ _ us hl => match us, hl with | [_, _], _ => rfl) (fnt_of F_has_more sc_has_more rfl rfl fun cdv A outer s H E hr tk hp => b_has_more T F hr tk hp),
      FnT.mk' F_depth g_depth (F_depth.bindsN (ps := ["term"]) fun _ _ _ _ _ _ us hl => match us, hl with | [_], _ => rfl) (fnt_of F_depth sc_depth rfl rfl fun cdv A outer s H E hr tk hp => b_depth T F hr tk hp),
      FnT.mk' F_changed g_changed (F_changed.bindsN (ps := ["term", "change"]) fun _ _ _ _ _ _ us hl => match us, hl with | [_, _], _ => rfl) (fnt_of F_changed sc_changed rfl rfl fun cdv A outer s H E hr tk hp => b_changed T F hr tk hp),
      FnT.mk' F_lift_term g_lift_term (F_lift_term.bindsN (ps := ["term", "k"]) fun _ _ _ _ _ _ us hl => match us, hl with | [_, _], _ => rfl) (fnt_of F_lift_term sc_lift_term rfl rfl fun cdv A outer s H E hr tk hp => b_lift_term T F hr tk hp),
      FnT.mk' F_open_at g_open_at (F_open_at.bindsN (ps := ["term", "low", "terms", "further"]) fun _ _ _ _ _ _ us hl => match us, hl with | [_, _, _, _], _ => rfl) (fnt_of F_open_at sc_open_at rfl rfl fun cdv A outer s H E hr tk hp => b_open_at T F hr tk hp),
      FnT.mk' F_open_term g_open_term (F_open_term.bindsN (ps := ["term", "terms"]) fun _ _ _ _ _ _ us hl => match us, hl with | [_, _], _ => rfl) (fnt_of F_open_term sc_open_term rfl rfl fun cdv A outer s H E hr tk hp => b_open_term T F hr tk hp),
      FnT.mk' F_limited g_limited (F_limited.bindsN (ps := ["term"]) fun _ _ _ _ _ _ us hl => match us, hl with | [_], _ => rfl) (fnt_of F_limited sc_limited rfl rfl fun cdv A outer s H E hr tk hp => b_limited T F hr tk hp),
      FnT.mk' F_turned g_turned (F_turned.bindsN (ps := ["goal", "inner", "change"]) fun _ _ _ _ _ _ us hl => match us, hl with | [_, _, _], _ => rfl) (fnt_of F_turned sc_turned rfl rfl fun cdv A outer s H E hr tk hp => b_turned T F hr tk hp),
      FnT.mk' F_turned_rule g_turned_rule (F_turned_rule.bindsN (ps := ["rule", "inner", "change"]) fun _ _ _ _ _ _ us hl => match us, hl with | [_, _, _], _ => rfl) (fnt_of F_turned_rule sc_turned_rule rfl rfl fun cdv A outer s H E hr tk hp => b_turned_rule T F hr tk hp),
      FnT.mk' F_taken_rule g_taken_rule (F_taken_rule.bindsN (ps := ["rule", "more"]) fun _ _ _ _ _ _ us hl => match us, hl with | [_, _], _ => rfl) (fnt_ofC (p := ("taken_rule", none)) F_taken_rule sc_taken_rule rfl rfl fun A outer s H E hr tk hp => b_taken_rule T F hr tk hp),
      FnT.mk' F_clauses g_clauses (F_clauses.bindsN (ps := ["goal"]) fun _ _ _ _ _ _ us hl => match us, hl with | [_], _ => rfl) (fnt_of F_clauses sc_clauses rfl rfl fun cdv A outer s H E hr tk hp => b_clauses T F hr tk hp),
      FnT.mk' F_joined g_joined (F_joined.bindsN (ps := ["goals"]) fun _ _ _ _ _ _ us hl => match us, hl with | [_], _ => rfl) (fnt_of F_joined sc_joined rfl rfl fun cdv A outer s H E hr tk hp => b_joined T F hr tk hp),
      FnT.mk' F_rules_of g_rules_of (F_rules_of.bindsN (ps := ["goal"]) fun _ _ _ _ _ _ us hl => match us, hl with | [_], _ => rfl) (fnt_of F_rules_of sc_rules_of rfl rfl fun cdv A outer s H E hr tk hp => b_rules_of T F hr tk hp),
      FnT.mk' F_goal_of g_goal_of (F_goal_of.bindsN (ps := ["rule"]) fun _ _ _ _ _ _ us hl => match us, hl with | [_], _ => rfl) (fnt_of F_goal_of sc_goal_of rfl rfl fun cdv A outer s H E hr tk hp => b_goal_of T F hr tk hp),
      FnT.mk' F_spans g_spans (F_spans.bindsN (ps := ["rows"]) fun _ _ _ _ _ _ us hl => match us, hl with | [_], _ => rfl) (fnt_of F_spans sc_spans rfl rfl fun cdv A outer s H E hr tk hp => b_spans T F hr tk hp),
      FnT.mk' F_places g_places (F_places.bindsN (ps := ["goal", "rules", "rows"]) fun _ _ _ _ _ _ us hl => match us, hl with | [_, _, _], _ => rfl) (fnt_of F_places sc_places rfl rfl fun cdv A outer s H E hr tk hp => b_places T F hr tk hp),
      FnT.mk' F_part_for g_part_for (F_part_for.bindsN (ps := ["goal", "rows", "j"]) fun _ _ _ _ _ _ us hl => match us, hl with | [_, _, _], _ => rfl) (fnt_of F_part_for sc_part_for rfl rfl fun cdv A outer s H E hr tk hp => b_part_for T F hr tk hp),
      FnT.mk' F_fitted g_fitted (F_fitted.bindsN (ps := ["rows", "spots", "terms", "names", "count", "more"]) fun _ _ _ _ _ _ us hl => match us, hl with | [_, _, _, _, _, _], _ => rfl) (fnt_of F_fitted sc_fitted rfl rfl fun cdv A outer s H E hr tk hp => b_fitted T F hr tk hp),
      FnT.mk' F_cut_rows g_cut_rows (F_cut_rows.bindsN (ps := ["rules", "middle", "rest", "goal", "first", "second"]) fun _ _ _ _ _ _ us hl => match us, hl with | [_, _, _, _, _, _], _ => rfl) (fnt_of F_cut_rows sc_cut_rows rfl rfl fun cdv A outer s H E hr tk hp => b_cut_rows T F hr tk hp),
      FnT.mk' F_cut g_cut (F_cut.bindsN (ps := ["program", "middle", "goal", "first", "second"]) fun _ _ _ _ _ _ us hl => match us, hl with | [_, _, _, _, _], _ => rfl) (fnt_of F_cut sc_cut rfl rfl fun cdv A outer s H E hr tk hp => b_cut T F hr tk hp),
      FnT.mk' F__law_start g__law_start (F__law_start.bindsN (ps := ["script"]) fun _ _ _ _ _ _ us hl => match us, hl with | [_], _ => rfl) (fnt_of F__law_start sc__law_start rfl rfl fun cdv A outer s H E hr tk hp => b__law_start T F hr tk hp),
      FnT.mk' F__law_take g__law_take (F__law_take.bindsN (ps := ["draw", "many"]) fun _ _ _ _ _ _ us hl => match us, hl with | [_, _], _ => rfl) (fnt_of F__law_take sc__law_take rfl rfl fun cdv A outer s H E hr tk hp => b__law_take T F hr tk hp),
      FnT.mk' F__law_doubled g__law_doubled (F__law_doubled.bindsN (ps := ["turns"]) fun _ _ _ _ _ _ us hl => match us, hl with | [_], _ => rfl) (fnt_of F__law_doubled sc__law_doubled rfl rfl fun cdv A outer s H E hr tk hp => b__law_doubled T F hr tk hp),
      FnT.mk' F_law g_law (F_law.bindsN (ps := ["script"]) fun _ _ _ _ _ _ us hl => match us, hl with | [_], _ => rfl) (fnt_of F_law sc_law rfl rfl fun cdv A outer s H E hr tk hp => b_law T F hr tk hp)⟩
end
end K66

namespace K66
open PySem PySem.Spec PyProof.Rows L2 Lx
abbrev nil : AV := .tup []
abbrev aP : AV := .tup [.str "atom", .str "p", nil]
abbrev aQ : AV := .tup [.str "atom", .str "q", nil]
abbrev tT : AV := .tup [.str "true"]
abbrev r2 : AV := .tup [nil, .str "q", nil, tT]
abbrev mid : AV := .tup [.str "given", .tup [r2], aP]
theorem clauses_T (d : Nat) (h : AH) : Gives (CT (d + 1) f_clauses) [tT] h (.ok nil) := fun Q E q => by
  show fnC 1 9 (w_clauses (CT d) d) _ _ _ _
  refine ⟨rfl, ?_⟩
  unfold w_clauses
  simp
  refine later ?_
  simp
  refine later ?_
  simp
  exact qu (.refl _) q
theorem clauses_A (d : Nat) (h : AH) (x : String) : Gives (CT (d + 1) f_clauses) [.tup [.str "atom", .str x, nil]] h (.ok (.tup [.tup [nil, nil, .str x, nil]])) := fun Q E q => by
  show fnC 1 9 (w_clauses (CT d) d) _ _ _ _
  refine ⟨rfl, ?_⟩
  unfold w_clauses
  simp
  refine later ?_
  simp
  refine later ?_
  simp
  refine later ?_
  simp
  exact qu (.refl _) q
theorem turned_T (d : Nat) (h : AH) (n : Int) (p : AV) : Gives (CT (d + 1) f_turned) [tT, .int n, p] h (.ok tT) := fun Q E q => by
  show fnC 3 7 (w_turned (CT d) d) _ _ _ _
  refine ⟨rfl, ?_⟩
  unfold w_turned
  simp
  refine later ?_
  simp
  refine later ?_
  simp
  exact qu (.refl _) q
theorem turned_rule_r2 (d : Nat) (h : AH) (p : AV) : Gives (CT (d + 2) f_turned_rule) [r2, .int 0, p] h (.ok r2) := fun Q E q => by
  show fnC 3 9 (w_turned_rule (CT (d + 1)) (d + 1)) _ _ _ _
  refine ⟨rfl, ?_⟩
  unfold w_turned_rule
  simp
  refine later ?_
  simp
  refine later ?_
  simp [lcGo]
  refine fun D hD => turned_T d _ 0 p _ _ (qu (.up hD) q)
theorem taken_r2 (d : Nat) (h : AH) : Gives (CT (d + 3) f_taken_rule) [r2, .int 0] h (.ok r2) := fun Q E q => by
  show fnC 2 2 (w_taken_rule (CT (d + 2)) (d + 2)) _ _ _ _
  refine ⟨rfl, ?_⟩
  unfold w_taken_rule
  simp [wLam0]
  intro p
  exact turned_rule_r2 d h (.ref p) _ _ (qu (.refl _) q)
theorem clauses_mid (d : Nat) (h : AH) : Gives (CT (d + 4) f_clauses) [mid] h (.ok (.tup [.tup [nil, .tup [r2], .str "p", nil]])) := fun Q E q => by
  show fnC 1 9 (w_clauses (CT (d + 3)) (d + 3)) _ _ _ _
  refine ⟨rfl, ?_⟩
  unfold w_clauses
  simp
  refine later ?_
  simp
  refine later ?_
  simp
  refine later ?_
  simp
  refine later ?_
  simp
  refine fun p hp => later ?_
  simp
  refine clauses_A (d + 2) _ "p" _ _ ?_
  simp [sForGo]
  refine later ?_
  simp [lcGo, awipe]
  refine taken_r2 d _ _ _ ?_
  try simp
  intro D hD
  refine later ?_
  have n1 : p ≠ D := fun z => by subst z; simp at hD
  simp [aup_ne n1]
  refine later ?_
  simp
  exact qu ((((ALe.refl h).aup2 hp).aup2 (aup_none hD).1).aup2 hp) q
theorem rules_of_T (d : Nat) (h : AH) : Gives (CT (d + 2) f_rules_of) [tT] h (.ok nil) := fun Q E q => by
  show fnC 1 7 (w_rules_of (CT (d + 1)) (d + 1)) _ _ _ _
  refine ⟨rfl, ?_⟩
  unfold w_rules_of
  simp
  refine fun p hp => later ?_
  simp
  refine clauses_T d _ _ _ ?_
  simp [sForGo]
  refine later ?_
  simp
  exact qu (.up hp) q
theorem goal_of_r2 (d : Nat) (h : AH) : Gives (CT (d + 3) f_goal_of) [r2] h (.ok aQ) := fun Q E q => by
  show fnC 1 8 (w_goal_of (CT (d + 2)) (d + 2)) _ _ _ _
  refine ⟨rfl, ?_⟩
  unfold w_goal_of
  simp
  refine later ?_
  simp
  refine later ?_
  simp
  refine rules_of_T d _ _ _ ?_
  refine later ?_
  simp
  refine later ?_
  simp [sForGo]
  refine later ?_
  simp
  exact qu (.refl _) q
theorem joined_1 (d : Nat) (h : AH) (p : Addr) (g : AV) (e : h p = some (.lst [g])) : Gives (CT (d + 1) f_joined) [.ref p] h (.ok g) := fun Q E q => by
  show fnC 1 3 (w_joined (CT d) d) _ _ _ _
  refine ⟨rfl, ?_⟩
  unfold w_joined
  simp [isTru, truA, e]
  refine later ?_
  simp [aIx, seqA, e, atI, ixN]
  refine later ?_
  simp [e]
  intro p1 h1 p2 h2
  rw [show cutA [g] none (some (-1)) = [] from rfl] at *
  have k2 := (aup_none h2).1
  simp [sForGo]
  refine later ?_
  simp
  exact qu (((ALe.refl h).aup2 h1).aup2 k2) q
theorem rules_of_mid (d : Nat) (h : AH) : Gives (CT (d + 5) f_rules_of) [mid] h (.ok (.tup [.tup [nil, .str "p", nil, aQ]])) := fun Q E q => by
  show fnC 1 7 (w_rules_of (CT (d + 4)) (d + 4)) _ _ _ _
  refine ⟨rfl, ?_⟩
  unfold w_rules_of
  simp
  refine fun p hp => later ?_
  simp
  refine clauses_mid d _ _ _ ?_
  simp [sForGo, lcGo, awipe]
  refine goal_of_r2 (d + 1) _ _ _ ?_
  try simp
  intro D hD
  have n1 : p ≠ D := fun z => by subst z; simp at hD
  refine joined_1 (d + 3) _ D aQ aup_s _ _ ?_
  simp [aup_ne n1]
  refine later ?_
  simp
  exact qu ((((ALe.refl h).aup2 hp).aup2 (aup_none hD).1).aup2 hp) q
end K66

namespace K66
open PySem PySem.Spec PyProof.Rows L2 Lx
/-! ### rows, forests, what is made of them (no program) -/
abbrev kU : AV := .str "use"
abbrev kA : AV := .str "and"
inductive Rw where
  | T | A | U (k : Nat) | G
  deriving DecidableEq
def Rw.v : Rw → AV
  | .T => tT
  | .A => .tup [kA]
  | .U k => .tup [kU, .int k, nil]
  | .G => .tup [.str "given"]
/-- n derivations one behind the other -/
inductive Fo : Nat → List Rw → Prop
  | nil : Fo 0 []
  | leaf {n rest} : Fo n rest → Fo (n + 1) (.T :: rest)
  | use {n k rest} : Fo (n + 1) rest → Fo (n + 1) (.U k :: rest)
  | giv {n rest} : Fo (n + 1) rest → Fo (n + 1) (.G :: rest)
  | and {n rest} : Fo (n + 2) rest → Fo (n + 1) (.A :: rest)
/-- how long is the derivation that begins at each row -/
def sp : List Rw → List Nat
  | [] => []
  | .T :: rest => 1 :: sp rest
  | .U _ :: rest => (1 + (sp rest).getD 0 0) :: sp rest
  | .G :: rest => (1 + (sp rest).getD 0 0) :: sp rest
  | .A :: rest => (1 + (sp rest).getD 0 0 + (sp rest).getD ((sp rest).getD 0 0) 0) :: sp rest
theorem sp_cons (r : Rw) (rest : List Rw) : ∃ x, sp (r :: rest) = x :: sp rest := by cases r <;> exact ⟨_, rfl⟩
theorem sp_len : ∀ rows, (sp rows).length = rows.length
  | [] => rfl
  | r :: rest => by
    obtain ⟨x, e⟩ := sp_cons r rest
    rw [e, List.length_cons, List.length_cons, sp_len rest]
theorem sp_drop : ∀ (rows : List Rw) (j : Nat), (sp rows).drop j = sp (rows.drop j)
  | [], j => by simp [sp]
  | r :: rest, 0 => rfl
  | r :: rest, j + 1 => by
    obtain ⟨x, e⟩ := sp_cons r rest
    rw [e, List.drop_succ_cons, List.drop_succ_cons, sp_drop rest j]
theorem getD_drop {α : Type} (xs : List α) (s : Nat) (d : α) : xs.getD s d = (xs.drop s).getD 0 d := by
  simp [List.getD_eq_getElem?_getD, List.getElem?_drop]
theorem fo_first : ∀ (N : Nat) (rows : List Rw) (n : Nat), rows.length ≤ N → Fo (n + 1) rows → 0 < (sp rows).getD 0 0 ∧ (sp rows).getD 0 0 ≤ rows.length ∧ Fo n (rows.drop ((sp rows).getD 0 0)) := by
  intro N
  induction N with
  | zero =>
    intro rows n l f
    cases f <;> simp at l
  | succ N ih =>
    intro rows n l f
    cases f with
    | leaf f => simp [sp]; exact f
    | @use _ k rest f =>
      obtain ⟨h1, h2, h3⟩ := ih rest n (by simp at l; omega) f
      have e : (sp (.U k :: rest)).getD 0 0 = 1 + (sp rest).getD 0 0 := rfl
      rw [e]
      refine ⟨by omega, by simp only [List.length_cons]; omega, ?_⟩
      rw [Nat.add_comm, List.drop_succ_cons]
      exact h3
    | @giv _ rest f =>
      obtain ⟨h1, h2, h3⟩ := ih rest n (by simp at l; omega) f
      have e : (sp (.G :: rest)).getD 0 0 = 1 + (sp rest).getD 0 0 := rfl
      rw [e]
      refine ⟨by omega, by simp only [List.length_cons]; omega, ?_⟩
      rw [Nat.add_comm, List.drop_succ_cons]
      exact h3
    | @and _ rest f =>
      obtain ⟨h1, h2, h3⟩ := ih rest (n + 1) (by simp at l; omega) f
      obtain ⟨k1, k2, k3⟩ := ih (rest.drop ((sp rest).getD 0 0)) n (by simp at l ⊢; omega) h3
      have e : (sp (.A :: rest)).getD 0 0 = 1 + (sp rest).getD 0 0 + (sp rest).getD ((sp rest).getD 0 0) 0 := rfl
      have e2 : (sp rest).getD ((sp rest).getD 0 0) 0 = (sp (rest.drop ((sp rest).getD 0 0))).getD 0 0 := by rw [getD_drop, sp_drop]
      rw [e, e2]
      generalize (sp rest).getD 0 0 = s at *
      generalize (sp (rest.drop s)).getD 0 0 = t at *
      rw [List.length_drop] at k2
      refine ⟨by omega, by simp only [List.length_cons]; omega, ?_⟩
      rw [show 1 + s + t = (s + t) + 1 by omega, List.drop_succ_cons, ← List.drop_drop]
      exact k3
theorem fo_one {rows : List Rw} (f : Fo 1 rows) : (sp rows).getD 0 0 = rows.length := by
  obtain ⟨h1, h2, h3⟩ := fo_first rows.length rows 0 (Nat.le_refl _) f
  have : rows.drop ((sp rows).getD 0 0) = [] := by
    generalize rows.drop ((sp rows).getD 0 0) = l at h3
    cases h3
    rfl
  have := List.drop_eq_nil_iff.mp this
  omega
section
variable (f : List Rw → List Rw) (z : Nat → Bool)
/-- what cut_rows makes at each row -/
def mk : List Rw → List (List Rw)
  | [] => []
  | .T :: rest => [.T] :: mk rest
  | .U k :: rest => (if z k = true then f ((mk rest).getD 0 []) else .U k :: (mk rest).getD 0 []) :: mk rest
  | .G :: rest => (.G :: (mk rest).getD 0 []) :: mk rest
  | .A :: rest => (.A :: ((mk rest).getD 0 [] ++ (mk rest).getD ((sp rest).getD 0 0) [])) :: mk rest
theorem mk_cons (r : Rw) (rest : List Rw) : ∃ x, mk f z (r :: rest) = x :: mk f z rest := by cases r <;> exact ⟨_, rfl⟩
theorem mk_len : ∀ rows, (mk f z rows).length = rows.length
  | [] => rfl
  | r :: rest => by
    obtain ⟨x, e⟩ := mk_cons f z r rest
    rw [e, List.length_cons, List.length_cons, mk_len rest]
theorem mk_drop : ∀ (rows : List Rw) (j : Nat), (mk f z rows).drop j = mk f z (rows.drop j)
  | [], j => by simp [mk]
  | r :: rest, 0 => rfl
  | r :: rest, j + 1 => by
    obtain ⟨x, e⟩ := mk_cons f z r rest
    rw [e, List.drop_succ_cons, List.drop_succ_cons, mk_drop rest j]
/-- no row of a derivation stands for more than the whole -/
theorem mk_le (hf : ∀ b, b.length ≤ (f b).length) : ∀ (N : Nat) (rows : List Rw) (n : Nat), rows.length ≤ N → Fo (n + 1) rows → ∀ i, i < (sp rows).getD 0 0 → ((mk f z rows).getD i []).length ≤ ((mk f z rows).getD 0 []).length := by
  intro N
  induction N with
  | zero =>
    intro rows n l f
    cases f <;> simp at l
  | succ N ih =>
    intro rows n l fo i hi
    cases fo with
    | leaf fo => 
      simp [sp] at hi
      subst hi
      exact Nat.le_refl _
    | @use _ k rest fo =>
      have e : (sp (.U k :: rest)).getD 0 0 = 1 + (sp rest).getD 0 0 := rfl
      rw [e] at hi
      cases i with
      | zero => exact Nat.le_refl _
      | succ i =>
        have := ih rest n (by simp at l; omega) fo i (by omega)
        show ((mk f z rest).getD i []).length ≤ (if z k = true then f ((mk f z rest).getD 0 []) else .U k :: (mk f z rest).getD 0 []).length
        have hb := hf ((mk f z rest).getD 0 [])
        split
        · omega
        · simp only [List.length_cons]; omega
    | @giv _ rest fo =>
      have e : (sp (.G :: rest)).getD 0 0 = 1 + (sp rest).getD 0 0 := rfl
      rw [e] at hi
      cases i with
      | zero => exact Nat.le_refl _
      | succ i =>
        have := ih rest n (by simp at l; omega) fo i (by omega)
        show ((mk f z rest).getD i []).length ≤ (Rw.G :: (mk f z rest).getD 0 []).length
        have hb := hf ((mk f z rest).getD 0 [])
        simp only [List.length_cons]; omega
    | @and _ rest fo =>
      obtain ⟨h1, h2, h3⟩ := fo_first rest.length rest (n + 1) (Nat.le_refl _) fo
      have e : (sp (.A :: rest)).getD 0 0 = 1 + (sp rest).getD 0 0 + (sp rest).getD ((sp rest).getD 0 0) 0 := rfl
      have e2 : (sp rest).getD ((sp rest).getD 0 0) 0 = (sp (rest.drop ((sp rest).getD 0 0))).getD 0 0 := by rw [getD_drop, sp_drop]
      rw [e, e2] at hi
      cases i with
      | zero => exact Nat.le_refl _
      | succ i =>
        show ((mk f z rest).getD i []).length ≤ (Rw.A :: ((mk f z rest).getD 0 [] ++ (mk f z rest).getD ((sp rest).getD 0 0) [])).length
        simp only [List.length_cons, List.length_append]
        by_cases q : i < (sp rest).getD 0 0
        · have := ih rest (n + 1) (by simp at l; omega) fo i q
          omega
        · have := ih (rest.drop ((sp rest).getD 0 0)) n (by simp at l ⊢; omega) h3 (i - (sp rest).getD 0 0) (by omega)
          rw [← mk_drop, ← getD_drop] at this
          have e3 : ((mk f z rest).drop ((sp rest).getD 0 0)).getD (i - (sp rest).getD 0 0) [] = (mk f z rest).getD i [] := by
            generalize (sp rest).getD 0 0 = s at *
            simp only [List.getD_eq_getElem?_getD, List.getElem?_drop]
            rw [show s + (i - s) = i by omega]
          rw [e3] at this
          omega
/-- nothing is cut: the rows themselves -/
theorem mk_no (hz : ∀ k, z k = false) : ∀ (N : Nat) (rows : List Rw) (n : Nat), rows.length ≤ N → Fo (n + 1) rows → (mk f z rows).getD 0 [] = rows.take ((sp rows).getD 0 0) := by
  intro N
  induction N with
  | zero =>
    intro rows n l f
    cases f <;> simp at l
  | succ N ih =>
    intro rows n l fo
    cases fo with
    | leaf fo => simp [mk, sp]
    | @use _ k rest fo =>
      have e : (sp (.U k :: rest)).getD 0 0 = 1 + (sp rest).getD 0 0 := rfl
      rw [e, Nat.add_comm, List.take_succ_cons, ← ih rest n (by simp at l; omega) fo]
      show (if z k = true then _ else _) = _
      rw [hz k, if_neg Bool.false_ne_true]
    | @giv _ rest fo =>
      have e : (sp (.G :: rest)).getD 0 0 = 1 + (sp rest).getD 0 0 := rfl
      rw [e, Nat.add_comm, List.take_succ_cons, ← ih rest n (by simp at l; omega) fo]
      rfl
    | @and _ rest fo =>
      obtain ⟨h1, h2, h3⟩ := fo_first rest.length rest (n + 1) (Nat.le_refl _) fo
      have e : (sp (.A :: rest)).getD 0 0 = 1 + (sp rest).getD 0 0 + (sp rest).getD ((sp rest).getD 0 0) 0 := rfl
      have e2 : (sp rest).getD ((sp rest).getD 0 0) 0 = (sp (rest.drop ((sp rest).getD 0 0))).getD 0 0 := by rw [getD_drop, sp_drop]
      have i1 := ih rest (n + 1) (by simp at l; omega) fo
      have i2 := ih (rest.drop ((sp rest).getD 0 0)) n (by simp at l ⊢; omega) h3
      rw [← mk_drop, ← getD_drop] at i2
      rw [e, e2, show 1 + (sp rest).getD 0 0 + (sp (rest.drop ((sp rest).getD 0 0))).getD 0 0 = ((sp rest).getD 0 0 + (sp (rest.drop ((sp rest).getD 0 0))).getD 0 0) + 1 by omega, List.take_succ_cons, List.take_add]
      show Rw.A :: ((mk f z rest).getD 0 [] ++ (mk f z rest).getD ((sp rest).getD 0 0) []) = _
      rw [i1, i2]
end
/-- goals and their derivations' rows, over the rules K -/
inductive PvF (K : List AV) : List AV → List Rw → Prop
  | nil : PvF K [] []
  | leaf {g gs rest} : PvF K gs rest → PvF K (g :: gs) (.T :: rest)
  | and {g1 g2 gs rest} : PvF K (g1 :: g2 :: gs) rest → PvF K (.tup [kA, g1, g2] :: gs) (.A :: rest)
  | use {g gs k x0 x1 x2 b rest} : K[k]? = some (.tup [x0, x1, x2, b]) → PvF K (b :: gs) rest → PvF K (g :: gs) (.U k :: rest)
theorem PvF.fo {K : List AV} {gs : List AV} {rows : List Rw} (p : PvF K gs rows) : Fo gs.length rows := by
  induction p with
  | nil => exact .nil
  | leaf _ ih => exact .leaf ih
  | and _ ih => exact .and ih
  | use _ _ ih => exact .use ih
theorem PvF.app {K : List AV} {gs hs : List AV} {rows more : List Rw} (p : PvF K gs rows) (q : PvF K hs more) : PvF K (gs ++ hs) (rows ++ more) := by
  induction p with
  | nil => exact q
  | leaf _ ih => exact .leaf ih
  | and _ ih => exact .and ih
  | use e _ ih => exact .use e ih
/-- more rules -/
theorem PvF.mono {K L : List AV} {gs : List AV} {rows : List Rw} (p : PvF K gs rows) : PvF (K ++ L) gs rows := by
  induction p with
  | nil => exact .nil
  | leaf _ ih => exact .leaf ih
  | and _ ih => exact .and ih
  | use e _ ih => exact .use (by rw [List.getElem?_append_left (by have := (List.getElem?_eq_some_iff.mp e).1; exact this)]; exact e) ih
theorem PvF.drop {K : List AV} {gs : List AV} {rows : List Rw} (p : PvF K gs rows) : ∀ j, ∃ gs', PvF K gs' (rows.drop j) := by
  intro j
  induction j generalizing rows gs with
  | zero => exact ⟨gs, p⟩
  | succ j ih =>
    cases p with
    | nil => exact ⟨[], by simpa using PvF.nil⟩
    | leaf p => exact ih p
    | and p => exact ih p
    | use _ p => exact ih p
end K66

namespace K66
open PySem PySem.Spec PyProof.Rows L2 Lx
/-- found, where the rows from i on are done -/
def FL (rows : List Rw) (i : Nat) : List AV := (List.replicate i (1 : Nat) ++ sp (rows.drop i)).map fun (n : Nat) => AV.int (n : Int)
theorem fl_lo (rows : List Rw) {i j : Nat} (h : j < i) : (FL rows i)[j]? = some (.int 1) := by
  unfold FL
  rw [List.getElem?_map, List.getElem?_append_left (by simpa using h), List.getElem?_replicate, if_pos h]
  rfl
theorem fl_hi (rows : List Rw) {i j : Nat} (h : i ≤ j) (hj : j < rows.length) : (FL rows i)[j]? = some (.int ((sp (rows.drop j)).getD 0 0 : Nat)) := by
  unfold FL
  rw [List.getElem?_map, List.getElem?_append_right (by simpa using h), List.length_replicate, ← sp_drop, ← sp_drop, List.getElem?_drop]
  have e : i + (j - i) = j := by omega
  rw [e, List.getD_eq_getElem?_getD, List.getElem?_drop, Nat.add_zero]
  have : j < (sp rows).length := by rw [sp_len]; exact hj
  rw [List.getElem?_eq_getElem this]
  rfl
theorem fl_len (rows : List Rw) {i : Nat} (h : i ≤ rows.length) : (FL rows i).length = rows.length := by
  unfold FL
  simp [sp_len]
  omega
theorem fl_set (rows : List Rw) {j : Nat} {r : Rw} {rest : List Rw} (e : rows.drop j = r :: rest) : (FL rows (j + 1)).set j (.int ((sp (r :: rest)).getD 0 0 : Nat)) = FL rows j := by
  obtain ⟨x, ex⟩ := sp_cons r rest
  have e1 : rows.drop (j + 1) = rest := by rw [← List.drop_drop, e]; rfl
  unfold FL
  rw [e, e1, ex, List.replicate_succ', List.append_assoc, List.map_append, List.map_append]
  simp [List.set_append]
theorem fo_drop {rows : List Rw} {n : Nat} (f : Fo n rows) : ∀ j, ∃ m, Fo m (rows.drop j) := by
  intro j
  induction j generalizing rows n with
  | zero => exact ⟨n, f⟩
  | succ j ih =>
    cases f with
    | nil => exact ⟨0, by simpa using Fo.nil⟩
    | leaf f => exact ih f
    | use f => exact ih f
    | giv f => exact ih f
    | and f => exact ih f
theorem spans_ok (d : Nat) (h : AH) (a : Addr) (rows : List Rw) (n : Nat) (fo : Fo n rows) (l : rows.length ≤ 16777216) (e : h a = some (.lst (rows.map Rw.v))) : Gives (CT (d + 1) f_spans) [.ref a] h (.lst ((sp rows).map fun (n : Nat) => AV.int (n : Int))) := fun Q E q => by
  show fnC 1 4 (w_spans (CT d) d) _ _ _ _
  refine ⟨rfl, ?_⟩
  unfold w_spans
  simp [e]
  refine lc_map (fun _ => .int 1) e _ _ (by simpa using l) (fun x hx K k => by simpa using k) ?_
  intro D hD
  refine later ?_
  have nD : a ≠ D := ne_of_at e hD
  simp [lenA, aup_o nD, e]
  refine ⟨_, _, ⟨rfl, rfl⟩, ⟨by omega, by omega, by omega, by omega⟩, ?_⟩
  refine for_rest (fun rest σ h2 => ∃ i y, i ≤ rows.length ∧ rest = rngA ((i : Int) - 1) (-1) i ∧ σ = [some (.ref a), some (.ref D), y, none] ∧ h2 = aup h D (.lst (FL rows i))) ?_ ?_ _ _ _ ⟨rows.length, none, Nat.le_refl _, ?_, ?_, ?_⟩
  · rintro x rest σ h2 K ⟨i, y, li, er, rfl, rfl⟩ hK
    refine ⟨trivial, ?_⟩
    cases i with
    | zero => simp [rngA] at er
    | succ j =>
      have ej : ((j + 1 : Nat) : Int) - 1 = (j : Int) := by omega
      rw [ej, rngD_succ] at er
      injection er with er1 er2
      subst er1 er2
      have ed := List.drop_eq_getElem_cons (show j < rows.length by omega)
      generalize hr : rows[j] = r at ed
      have ev : (rows.map Rw.v)[j]? = some r.v := by rw [List.getElem?_map, List.getElem?_eq_getElem (by omega), hr]; rfl
      have eh : (aup h D (.lst (FL rows (j + 1)))) a = some (.lst (rows.map Rw.v)) := (aup_o nD).trans e
      have el : (FL rows (j + 1)).length = rows.length := fl_len rows li
      simp
      refine ixL eh ev ?_
      cases r with
      | T =>
        have er : FL rows (j + 1) = FL rows j := by
          have := fl_set rows ed
          rw [← this]
          exact (List.ext_getElem? fun k => by
            rw [List.getElem?_set]
            split
            · rename_i z; subst z
              rw [fl_lo rows (Nat.lt_succ_self _), if_pos (by omega)]
              rfl
            · rfl)
        simp [Rw.v]
        refine later ?_
        simp
        refine ixL eh ev ?_
        simp [Rw.v]
        exact hK _ _ ⟨j, _, by omega, rfl, rfl, by rw [er]⟩
      | U k =>
        have hl : 0 < (rows.drop (j + 1)).length := by
          obtain ⟨m, fm⟩ := fo_drop fo j
          rw [ed] at fm
          cases fm with
          | use fm => obtain ⟨h1, h2, h3⟩ := fo_first _ _ _ (Nat.le_refl _) fm; omega
        rw [List.length_drop] at hl
        have e1 : (rows.drop (j + 1)) = rows.drop (j + 1) := rfl
        simp [Rw.v]
        refine later ?_
        simp
        refine ixRL aup_s (fl_lo rows (Nat.lt_succ_self j)) ?_
        refine ixL (k := j + 1) aup_s (fl_hi rows (Nat.le_refl _) (by omega)) ?_
        simp
        refine set_at (k := j) aup_s (by rw [el]; omega) ?_
        rw [aup_aup]
        have e2 : (FL rows (j + 1)).set j (.int (1 + (((sp (rows.drop (j + 1)))[0]?.getD 0 : Nat) : Int))) = FL rows j := by
          rw [← fl_set rows ed]
          congr 2
        rw [e2]
        refine later ?_
        simp
        refine ixL (by rw [aup_o nD]; exact e) ev ?_
        simp [Rw.v]
        exact hK _ _ ⟨j, _, by omega, rfl, rfl, rfl⟩
      | G =>
        have hl : 0 < (rows.drop (j + 1)).length := by
          obtain ⟨m, fm⟩ := fo_drop fo j
          rw [ed] at fm
          cases fm with
          | giv fm => obtain ⟨h1, h2, h3⟩ := fo_first _ _ _ (Nat.le_refl _) fm; omega
        rw [List.length_drop] at hl
        have e1 : (rows.drop (j + 1)) = rows.drop (j + 1) := rfl
        simp [Rw.v]
        refine later ?_
        simp
        refine ixRL aup_s (fl_lo rows (Nat.lt_succ_self j)) ?_
        refine ixL (k := j + 1) aup_s (fl_hi rows (Nat.le_refl _) (by omega)) ?_
        simp
        refine set_at (k := j) aup_s (by rw [el]; omega) ?_
        rw [aup_aup]
        have e2 : (FL rows (j + 1)).set j (.int (1 + (((sp (rows.drop (j + 1)))[0]?.getD 0 : Nat) : Int))) = FL rows j := by
          rw [← fl_set rows ed]
          congr 2
        rw [e2]
        refine later ?_
        simp
        refine ixL (by rw [aup_o nD]; exact e) ev ?_
        simp [Rw.v]
        exact hK _ _ ⟨j, _, by omega, rfl, rfl, rfl⟩
      | A =>
        have hf : 0 < rows.length - (j + 1) ∧ (sp (rows.drop (j + 1))).getD 0 0 + (j + 1) < rows.length := by
          obtain ⟨m, fm⟩ := fo_drop fo j
          rw [ed] at fm
          cases fm with
          | and fm =>
            obtain ⟨h1, h2, h3⟩ := fo_first _ _ _ (Nat.le_refl _) fm
            obtain ⟨k1, k2, k3⟩ := fo_first _ _ _ (Nat.le_refl _) h3
            simp only [List.length_drop] at h2 k2
            omega
        simp [Rw.v]
        refine later ?_
        simp
        refine ixRL aup_s (fl_lo rows (Nat.lt_succ_self j)) ?_
        refine ixL (k := j + 1) aup_s (fl_hi rows (Nat.le_refl _) (by omega)) ?_
        simp only [ex_iaddI]
        generalize hs : (sp (rows.drop (j + 1))).getD 0 0 = s at *
        refine set_at (k := j) aup_s (by rw [el]; omega) ?_
        rw [aup_aup]
        have g1 : ∀ v : AV, ((FL rows (j + 1)).set j v)[j]? = some v := fun v => by rw [List.getElem?_set_self (by rw [el]; omega)]
        have g2 : ∀ v : AV, ((FL rows (j + 1)).set j v)[j + 1]? = some (.int (s : Int)) := fun v => by rw [List.getElem?_set_ne (by omega), fl_hi rows (Nat.le_refl _) (by omega), hs]
        have g3 : ∀ v : AV, ((FL rows (j + 1)).set j v)[j + 1 + s]? = some (.int ((sp (rows.drop (j + 1 + s))).getD 0 0 : Nat)) := fun v => by rw [List.getElem?_set_ne (by omega), fl_hi rows (by omega) (by omega)]
        refine later ?_
        simp
        refine ixL (by rw [aup_o nD]; exact e) ev ?_
        simp [Rw.v]
        refine later ?_
        simp
        refine ixRL aup_s (g1 _) ?_
        refine ixL (k := j + 1) aup_s (g2 _) ?_
        simp only [ex_addI]
        refine ixL (k := j + 1 + s) aup_s (g3 _) ?_
        simp only [ex_iaddI]
        refine set_at (k := j) aup_s (by rw [List.length_set, el]; omega) ?_
        rw [aup_aup, List.set_set]
        have e2 : (FL rows (j + 1)).set j (.int (1 + (s : Int) + (((sp (rows.drop (j + 1 + s))).getD 0 0 : Nat) : Int))) = FL rows j := by
          rw [← fl_set rows ed]
          congr 2
          show _ = ((1 + (sp (rows.drop (j + 1))).getD 0 0 + (sp (rows.drop (j + 1))).getD ((sp (rows.drop (j + 1))).getD 0 0) 0 : Nat) : Int)
          rw [hs, getD_drop (sp (rows.drop (j + 1))) s, sp_drop, List.drop_drop]
          omega
        rw [e2]
        exact hK _ _ ⟨j, _, by omega, rfl, rfl, rfl⟩
  · rintro σ h2 ⟨i, y, li, er, rfl, rfl⟩
    refine ⟨trivial, ?_⟩
    cases i with
    | zero =>
      dsimp only
      refine later ?_
      simp
      exact qu (.refl _) (by have := q D hD; simpa [FL] using this)
    | succ j =>
      have ej : ((j + 1 : Nat) : Int) - 1 = (j : Int) := by omega
      rw [ej, rngD_succ] at er
      cases er
  · rw [show ((rows.length : Int) - 1 - -1).toNat = rows.length by omega]
  · rfl
  · congr 2
    simp [FL, sp]
    exact List.ext_getElem (by simp) fun i _ _ => by simp
end K66

namespace K66
open PySem PySem.Spec PyProof.Rows L2 Lx
abbrev spot (K : List AV) : AV := .tup [.int 0, .tup K]
abbrev item (K : List AV) (g : AV) : AV := .tup [g, .tup K, .int 0]
theorem places_ok (d : Nat) (h : AH) (a : Addr) (K : List AV) (goal : AV) (rows : List Rw) (pv : PvF K [goal] rows) (l : rows.length < 8388608) (e : h a = some (.lst (rows.map Rw.v))) : Gives (CT (d + 1) f_places) [goal, .tup K, .ref a] h (.lst (rows.map fun _ => spot K)) := fun Q E q => by
  show fnC 3 10 (w_places (CT d) d) _ _ _ _
  refine ⟨rfl, ?_⟩
  unfold w_places
  simp
  refine fun F hF => later ?_
  simp
  refine fun L hL => later ?_
  obtain ⟨hL1, nFL⟩ := aup_none hL
  have naF : a ≠ F := ne_of_at e hF
  have naL : a ≠ L := ne_of_at e hL1
  simp [aup_o naF, aup_o naL, e]
  refine for_rule (fun done rest σ h2 => done.length + rest.length = rows.length ∧ ∃ gs rr y5 y6 y7 y8 y9, rest = rr.map Rw.v ∧ PvF K gs rr ∧ gs.length ≤ done.length + 1 ∧ σ = [some goal, some (.tup K), some (.ref a), some (.ref F), some (.ref L), y5, y6, y7, y8, y9] ∧
    h2 F = some (.lst (done.map fun _ => spot K)) ∧ h2 L = some (.lst (gs.map (item K)).reverse) ∧ ALe h h2) ?_ ?_ _ [] _ _ ⟨by simp, [goal], rows, none, none, none, none, none, rfl, pv, by simp, rfl, by rw [aup_o nFL]; simp, by simp, ((ALe.refl h).aup2 hF).aup2 hL1⟩
  · rintro done x rest σ h2 C ⟨el, gs, rr, y5, y6, y7, y8, y9, er, pv, lg, rfl, f1, f2, le⟩ hC
    refine ⟨le _ _ e, ?_⟩
    cases pv with
    | nil => simp at er
    | @leaf g gs rr pv =>
      rw [List.map_cons] at er
      injection er with er1 er2
      subst er1 er2
      rw [List.map_cons, List.reverse_cons] at f2
      simp [f2]
      refine ex_pop f2 ?_
      simp
      refine later ?_
      simp [aup_o nFL, f1]
      simp at el
      refine ⟨by omega, later ?_⟩
      simp [Rw.v]
      refine later ?_
      simp
      refine later ?_
      simp
      refine later ?_
      simp
      refine later ?_
      simp
      refine later ?_
      simp
      refine later ?_
      simp
      refine hC _ _ ⟨by simp; omega, gs, rr, _, _, _, _, _, rfl, pv, by simp at lg ⊢; omega, rfl, by simp, ?_, (le.aup2 hL1).aup2 hF⟩
      rw [aup_o nFL.symm]
      simp
    | @and g1 g2 gs rr pv =>
      rw [List.map_cons] at er
      injection er with er1 er2
      subst er1 er2
      rw [List.map_cons, List.reverse_cons] at f2
      simp [f2]
      refine ex_pop f2 ?_
      simp
      refine later ?_
      simp [aup_o nFL, f1]
      simp at el lg
      refine ⟨by omega, later ?_⟩
      simp [Rw.v]
      refine later ?_
      simp
      refine later ?_
      simp [aup_o nFL.symm]
      refine ⟨by omega, later ?_⟩
      simp
      refine ⟨by omega, ?_⟩
      refine hC _ _ ⟨by simp; omega, _ :: _ :: gs, rr, _, _, _, _, _, rfl, pv, by simp; omega, rfl, ?_, ?_, (((le.aup2 hL1).aup2 hF).aup2 hL1).aup2 hL1⟩
      · simp [aup_o nFL]
      · simp
    | @use g gs k x0 x1 x2 b rr ek pv =>
      rw [List.map_cons] at er
      injection er with er1 er2
      subst er1 er2
      rw [List.map_cons, List.reverse_cons] at f2
      simp [f2]
      refine ex_pop f2 ?_
      simp
      refine later ?_
      simp [aup_o nFL, f1]
      simp at el lg
      refine ⟨by omega, later ?_⟩
      simp [Rw.v]
      refine later ?_
      simp
      refine later ?_
      simp
      refine later ?_
      simp
      refine later ?_
      simp
      refine later ?_
      simp
      refine later ?_
      simp
      refine later ?_
      simp [aup_o nFL.symm, Lx.atI_nat, ek]
      refine ⟨by omega, ?_⟩
      refine hC _ _ ⟨by simp; omega, _ :: gs, rr, _, _, _, _, _, rfl, pv, by simp; omega, rfl, ?_, ?_, ((le.aup2 hL1).aup2 hF).aup2 hL1⟩
      · simp [aup_o nFL]
      · simp
  · rintro done σ h2 ⟨el, gs, rr, y5, y6, y7, y8, y9, er, pv, lg, rfl, f1, f2, le⟩
    refine ⟨le _ _ e, ?_⟩
    dsimp only
    refine later ?_
    simp
    have eq : done.map (fun _ => spot K) = rows.map fun _ => spot K := by
      rw [List.map_const', List.map_const']
      congr 1
    rw [eq] at f1
    exact qu (le.put f1) (q F hF)
theorem fitted_ok (d : Nat) (h : AH) (a b : Addr) (K : List AV) (rows : List Rw) (c : Int) (l : rows.length < 8388608) (ea : h a = some (.lst (rows.map Rw.v))) (eb : h b = some (.lst (rows.map fun _ => spot K))) :
    Gives (CT (d + 1) f_fitted) [.ref a, .ref b, nil, .int 0, .int c, .int 0] h (.lst (rows.map Rw.v)) := fun Q E q => by
  show fnC 6 12 (w_fitted (CT d) d) _ _ _ _
  refine ⟨rfl, ?_⟩
  unfold w_fitted
  simp
  refine fun F hF => later ?_
  have naF : a ≠ F := ne_of_at ea hF
  have nbF : b ≠ F := ne_of_at eb hF
  simp
  refine zipk_ref ((aup_o naF).trans ea) ((aup_o nbF).trans eb) ?_
  have ez : zipA (rows.map Rw.v) (rows.map fun _ => spot K) = rows.map fun r => .tup [r.v, spot K] := by
    unfold zipA
    rw [List.zipWith_map]
    clear l ea eb q
    induction rows with
    | nil => rfl
    | cons r rows ih => simp [List.zipWith, ih]
  rw [ez]
  refine for_rule (fun done rest σ h2 => done.length + rest.length = rows.length ∧ ∃ rd rr y7 y8 y9 y10 y11, rows = rd ++ rr ∧ rd.length = done.length ∧ rest = rr.map (fun r => .tup [r.v, spot K]) ∧ σ = [some (.ref a), some (.ref b), some nil, some (.int 0), some (.int c), some (.int 0), some (.ref F), y7, y8, y9, y10, y11] ∧
    h2 F = some (.lst (rd.map Rw.v)) ∧ ALe h h2) ?_ ?_ _ [] _ _ ⟨by simp, [], rows, none, none, none, none, none, rfl, rfl, rfl, rfl, by simp, (ALe.refl h).aup2 hF⟩
  · rintro done x rest σ h2 C ⟨el, rd, rr, y7, y8, y9, y10, y11, es, ld, er, rfl, f1, le⟩ hC
    refine ⟨⟨le _ _ ea, le _ _ eb⟩, ?_⟩
    cases rr with
    | nil => simp at er
    | cons r rr =>
      rw [List.map_cons] at er
      injection er with er1 er2
      subst er1 er2
      simp at el
      have fin : ∀ (y7 y8 y9 y10 y11 : Option AV) (h3 : AH), ALe h h3 → h3 F = some (.lst ((rd ++ [r]).map Rw.v)) → C [some (.ref a), some (.ref b), some nil, some (.int 0), some (.int c), some (.int 0), some (.ref F), y7, y8, y9, y10, y11] h3 := fun y7 y8 y9 y10 y11 h3 l3 e3 =>
        hC _ _ ⟨by simp; omega, rd ++ [r], rr, _, _, _, _, _, by rw [es]; simp, by simp [ld], rfl, rfl, e3, l3⟩
      cases r with
      | T =>
        simp [Rw.v]
        refine later ?_
        simp
        refine later ?_
        simp [f1]
        exact ⟨by omega, fin _ _ _ _ _ _ (le.aup2 hF) (by simp [Rw.v])⟩
      | G =>
        simp [Rw.v]
        refine later ?_
        simp
        refine later ?_
        simp [f1]
        exact ⟨by omega, fin _ _ _ _ _ _ (le.aup2 hF) (by simp [Rw.v])⟩
      | A =>
        simp [Rw.v]
        refine later ?_
        simp
        refine later ?_
        simp [f1]
        exact ⟨by omega, fin _ _ _ _ _ _ (le.aup2 hF) (by simp [Rw.v])⟩
      | U k =>
        have step : ∀ (D : AEnds) (h3 : AH), D.nx = C → ALe h2 h3 → Lx.Later (sExpr (wM aApp (wVar 6) (wCons (wVar 7) wNil))) [some (.ref a), some (.ref b), some nil, some (.int 0), some (.int c), some (.int 0), some (.ref F), some (Rw.v (.U k)), some (.int 0), some (.tup K), some (.int k), y11] h3 D := fun D h3 eD l3 => by
          refine later ?_
          simp [l3 _ _ f1, eD]
          exact ⟨by omega, fin _ _ _ _ _ _ ((le.trans l3).aup2 hF) (by simp)⟩
        simp [Rw.v]
        refine later ?_
        simp
        by_cases z : (k : Int) < c
        · simp [z]
          refine later ?_
          simp [lcGo]
          exact fun D hD => step _ _ rfl (.up hD)
        · simp [z]
          refine later ?_
          simp [lcGo]
          exact fun D hD => step _ _ rfl (.up hD)
  · rintro done σ h2 ⟨el, rd, rr, y7, y8, y9, y10, y11, es, ld, er, rfl, f1, le⟩
    refine ⟨⟨le _ _ ea, le _ _ eb⟩, ?_⟩
    dsimp only
    refine later ?_
    simp
    have : rr = [] := by cases rr with
      | nil => rfl
      | cons _ _ => cases er
    subst this
    rw [List.append_nil] at es
    subst es
    exact qu (le.put f1) (q F hF)
end K66

namespace K66
open PySem PySem.Spec PyProof.Rows L2 Lx
theorem part_q (d : Nat) (h : AH) (a : Addr) (k : Nat) (rest : List Rw) (fo : Fo 1 (.U k :: rest)) (l : (Rw.U k :: rest).length < 8388608) (e : h a = some (.lst ((Rw.U k :: rest).map Rw.v))) : Gives (CT (d + 2) f_part_for) [aQ, .ref a, .int 0] h (.lst ((Rw.U k :: rest).map Rw.v)) := fun Q E q => by
  show fnC 3 6 (w_part_for (CT (d + 1)) (d + 1)) _ _ _ _
  refine ⟨rfl, ?_⟩
  unfold w_part_for
  simp
  refine spans_ok d h a _ 1 fo (by omega) e _ _ ?_
  refine fun S hS => later ?_
  simp
  refine later ?_
  have naS : a ≠ S := ne_of_at e hS
  have e1 := (aup_o (o := .lst ((sp (Rw.U k :: rest)).map fun (n : Nat) => AV.int (n : Int))) naS).trans e
  refine while_rule (fun n σ h2 => σ = [some aQ, some (.ref a), some (.int 0), some (.ref S), some (.int 0), none] ∧ h2 = aup h S (.lst ((sp (Rw.U k :: rest)).map fun (n : Nat) => AV.int (n : Int)))) ?_ (n := 0) ⟨rfl, rfl⟩
  rintro n σ h2 C ⟨rfl, rfl⟩ hC
  simp
  refine ixL (k := 0) e1 rfl ?_
  simp [Rw.v]
  refine ixL (k := 0) aup_s (z := .int ((sp (Rw.U k :: rest)).getD 0 0 : Nat)) (by
    obtain ⟨x, ex⟩ := sp_cons (.U k) rest
    rw [ex]; rfl) ?_
  simp only [ex_addI]
  refine ⟨_, rfl, _, e1, ?_⟩
  intro p hp
  have ec : cutA ((Rw.U k :: rest).map Rw.v) (some 0) (some (0 + (((sp (Rw.U k :: rest)).getD 0 0 : Nat) : Int))) = (Rw.U k :: rest).map Rw.v := by
    rw [fo_one fo, Int.zero_add]
    refine (cutA_nat _ (i := 0) (Nat.zero_le _) (by simp)).trans ?_
    simp [List.take_of_length_le]
  rw [ec]
  exact qu ((ALe.refl h).aup2 hS).both (q p (aup_none hp).1)
abbrev first (c : Nat) : List Rw := [.G, .U 1, .A, .U c, .T, .U c, .T]
theorem fo_first1 (c : Nat) : Fo 1 (first c) := .giv (.use (.and (.use (.leaf (.use (.leaf .nil))))))
theorem part_mid (d : Nat) (h : AH) (a : Addr) (c : Nat) (e : h a = some (.lst ((first c).map Rw.v))) : Gives (CT (d + 2) f_part_for) [mid, .ref a, .int 0] h (.lst ((first c).tail.map Rw.v)) := fun Q E q => by
  show fnC 3 6 (w_part_for (CT (d + 1)) (d + 1)) _ _ _ _
  refine ⟨rfl, ?_⟩
  unfold w_part_for
  simp
  refine spans_ok d h a _ 1 (fo_first1 c) (by simp) e _ _ ?_
  refine fun S hS => later ?_
  simp
  refine later ?_
  have naS : a ≠ S := ne_of_at e hS
  have e1 := (aup_o (o := .lst ((sp (first c)).map fun (n : Nat) => AV.int (n : Int))) naS).trans e
  refine while_rule (fun n σ h2 => (n = 1 ∧ σ = [some mid, some (.ref a), some (.int 0), some (.ref S), some (.int 0), none] ∨ n = 0 ∧ σ = [some aP, some (.ref a), some (.int 0), some (.ref S), some (.int 1), none]) ∧ h2 = aup h S (.lst ((sp (first c)).map fun (n : Nat) => AV.int (n : Int)))) ?_ (n := 1) ⟨.inl ⟨rfl, rfl⟩, rfl⟩
  rintro n σ h2 C ⟨⟨rfl, rfl⟩ | ⟨rfl, rfl⟩, rfl⟩ hC
  · simp
    refine ixL (k := 0) e1 rfl ?_
    simp [Rw.v]
    refine ixL (k := 0) e1 rfl ?_
    simp [Rw.v]
    refine later ?_
    simp
    refine later ?_
    simp
    exact hC 0 _ _ (by omega) ⟨.inr ⟨rfl, rfl⟩, rfl⟩
  · simp
    refine ixL (k := 1) e1 rfl ?_
    simp [Rw.v]
    refine ixL (k := 1) aup_s (z := .int (6 : Nat)) (by simp [sp]) ?_
    simp only [ex_addI]
    refine ⟨_, rfl, _, e1, ?_⟩
    intro p hp
    have ec : cutA ((first c).map Rw.v) (some 1) (some (1 + ((6 : Nat) : Int))) = (first c).tail.map Rw.v := by
      refine (cutA_nat _ (i := 1) (j := 7) (by simp) (by simp)).trans ?_
      simp
    rw [ec]
    exact qu ((ALe.refl h).aup2 hS).both (q p (aup_none hp).1)
end K66

namespace K66
open PySem PySem.Spec PyProof.Rows L2 Lx
/-- a list of rows, or LimitError where it is too long -/
def CutOk (c : Sem1) (args : List AV) (h : AH) (R : List Rw) : Prop := ∀ (Q : AV → AH → Prop) (E : KE), (R.length ≤ 4000 → ∀ p, h p = none → Q (.ref p) (aup h p (.lst (R.map Rw.v)))) → (4000 < R.length → E ⟨"LimitError", none⟩ h) → c args h Q E
/-- what the branch of a cut row needs -/
structure Cut (d : Nat) (h : AH) (K0 : List AV) (middle : AV) (partsL restL : List AV) (a4 : Addr) (f : List Rw → List Rw) (Pb : List Rw → Prop) (types : AV) (inner : List AV) (pred heads x0 x1 x2 body : AV) (fnd : List Rw) : Prop where
  parts : partsL = [.tup [types, .tup inner, pred, heads]]
  rest : restL = [.tup [x0, x1, x2, body]]
  part : ∀ h', ALe h h' → Gives (CT d f_part_for) [middle, .ref a4, .int 0] h' (.lst (fnd.map Rw.v))
  pv : PvF (K0 ++ inner) [.tup [.str "atom", pred, heads]] fnd
  len : fnd.length < 8388608
  inl : inner.length < 1000
  again : ∀ h' b4 b5 below, Pb below → h' b4 = some (.lst (below.map Rw.v)) → h' b5 = some (.lst (fnd.map Rw.v)) → CutOk (CT d f_cut_rows) [.tup K0, body, .tup inner, .tup [.str "atom", pred, heads], .ref b4, .ref b5] h' (f below)
theorem cut_ok (d : Nat) (h : AH) (K0 restL partsL : List AV) (middle goal : AV) (a4 a5 : Addr) (rows : List Rw) (f : List Rw → List Rw) (z : Nat → Bool) (Pb : List Rw → Prop)
    (hz : ∀ k, z k = decide (K0.length ≤ k ∧ k < K0.length + restL.length)) (pv : PvF (K0 ++ restL) [goal] rows) (l : rows.length < 8388608) (lK : K0.length + restL.length < 1000) (e5 : h a5 = some (.lst (rows.map Rw.v)))
    (hparts : ∀ h', Gives (CT (d + 1) f_clauses) [middle] h' (.ok (.tup partsL)))
    (hf : ∀ b, b.length ≤ (f b).length)
    (hPb : ∀ j k rest, rows.drop j = .U k :: rest → z k = true → ((mk f z rest).getD 0 []).length ≤ 4000 → Pb ((mk f z rest).getD 0 []))
    (hcut : restL = [] ∨ ∃ types inner pred heads x0 x1 x2 body fnd, Cut (d + 1) h K0 middle partsL restL a4 f Pb types inner pred heads x0 x1 x2 body fnd) :
    CutOk (CT (d + 2) f_cut_rows) [.tup K0, middle, .tup restL, goal, .ref a4, .ref a5] h ((mk f z rows).getD 0 []) := fun Q E q qe => by
  have fo := pv.fo
  have f1 : Fo (0 + 1) rows := fo
  have hl0 : (sp rows).getD 0 0 = rows.length := fo_one f1
  have hne : 0 < rows.length := by
    have := (fo_first _ _ _ (Nat.le_refl _) f1).1
    omega
  have hle : ∀ i, i < rows.length → ((mk f z rows).getD i []).length ≤ ((mk f z rows).getD 0 []).length := fun i hi => mk_le f z hf _ _ _ (Nat.le_refl _) f1 i (by omega)
  show fnC 6 25 (w_cut_rows (CT (d + 1)) (d + 1)) _ _ _ _
  refine ⟨rfl, ?_⟩
  unfold w_cut_rows
  simp
  refine hparts h _ _ ?_
  refine later ?_
  simp
  refine later ?_
  simp
  refine ⟨by omega, ?_⟩
  refine places_ok d h a5 (K0 ++ restL) goal rows pv l e5 _ _ ?_
  refine fun S hS => later ?_
  have eS1 := aup_at (u := .lst (rows.map fun _ => spot (K0 ++ restL))) e5 hS
  simp
  refine spans_ok d _ a5 rows _ fo (by omega) eS1 _ _ ?_
  refine fun L hL => later ?_
  obtain ⟨hL0, nSL⟩ := aup_none hL
  simp
  refine fun M hM => later ?_
  obtain ⟨hM1, nLM⟩ := aup_none hM
  obtain ⟨hM0, nSM⟩ := aup_none hM1
  have eL1 := aup_at (u := .lst ((sp rows).map fun (n : Nat) => AV.int (n : Int))) eS1 hL
  have eM1 := aup_at (u := .dic []) eL1 hM
  simp [lenA, eM1]
  refine ⟨_, _, ⟨rfl, rfl⟩, ⟨by omega, by omega, by omega, by omega⟩, ?_⟩
  refine for_rest (fun rest σ h2 => ∃ (i : Nat) (y12 y13 y14 y15 y16 y17 y18 y19 y20 y21 y22 y23 y24 : Option AV) (kvs : List (Key × AV)), i ≤ rows.length ∧ rest = rngA ((i : Int) - 1) (-1) i ∧
    σ = [some (.tup K0), some middle, some (.tup restL), some goal, some (.ref a4), some (.ref a5), some (.tup partsL), some (.int K0.length), some (.int restL.length), some (.ref S), some (.ref L), some (.ref M), y12, y13, y14, y15, y16, y17, y18, y19, y20, y21, y22, y23, y24] ∧
    ALe h h2 ∧ h2 S = some (.lst (rows.map fun _ => spot (K0 ++ restL))) ∧ h2 L = some (.lst ((sp rows).map fun (n : Nat) => AV.int (n : Int))) ∧ h2 M = some (.dic kvs) ∧ kvs.length + i ≤ rows.length ∧
    ∀ j, i ≤ j → j < rows.length → ∃ p, h p = none ∧ getA kvs (.inl (j : Int)) = some (.ref p) ∧ h2 p = some (.lst (((mk f z rows).getD j []).map Rw.v)) ∧ ((mk f z rows).getD j []).length ≤ 4000) ?_ ?_ _ _ _
    ⟨rows.length, none, none, none, none, none, none, none, none, none, none, none, none, none, [], Nat.le_refl _, by rw [show ((rows.length : Int) - 1 - -1).toNat = rows.length by omega], rfl, (((ALe.refl h).aup2 hS).aup2 hL0).aup2 hM0, by rw [aup_o nSM, aup_o nSL]; simp, by rw [aup_o nLM]; simp, by simp, by simp, fun j h1 h2 => by omega⟩
  · rintro x rest σ h2 C ⟨i, y12, y13, y14, y15, y16, y17, y18, y19, y20, y21, y22, y23, y24, kvs, li, er, rfl, le, eS, eL, eM, lk, mem⟩ hC
    refine ⟨trivial, ?_⟩
    cases i with
    | zero => simp [rngA] at er
    | succ j =>
      have ej : ((j + 1 : Nat) : Int) - 1 = (j : Int) := by omega
      rw [ej, rngD_succ] at er
      injection er with er1 er2
      subst er1 er2
      have ed := List.drop_eq_getElem_cons (show j < rows.length by omega)
      generalize hr : rows[j] = r at ed
      have ev : (rows.map Rw.v)[j]? = some r.v := by rw [List.getElem?_map, List.getElem?_eq_getElem (by omega), hr]; rfl
      have emk : (mk f z rows).getD j [] = (mk f z (r :: rows.drop (j + 1))).getD 0 [] := by rw [getD_drop, mk_drop, ed]
      have em1 : (mk f z rows).getD (j + 1) [] = (mk f z (rows.drop (j + 1))).getD 0 [] := by rw [getD_drop, mk_drop]
      have fin : ∀ (y13 y14 y15 y16 y17 y18 y19 y20 y21 y22 y23 y24 : Option AV) (h3 : AH) (p : Addr) (D : AEnds), D.nx = C → D.ex = (fun x _ h1 => QU E x h1) → ALe h2 h3 → h p = none → h3 p = some (.lst (((mk f z rows).getD j []).map Rw.v)) →
          aSet (.ref M) (.int j) (.ref p) h3 (fun h4 => Lx.Later (sIf (wBt aGt (wBlt aLen (wCons (wBin aIx (wVar 11) (wVar 12)) wNil)) (Lx.M.ret (.int 4000))) (sRaise (Str.ofString "LimitError")) sNext)
            [some (.tup K0), some middle, some (.tup restL), some goal, some (.ref a4), some (.ref a5), some (.tup partsL), some (.int K0.length), some (.int restL.length), some (.ref S), some (.ref L), some (.ref M), some (.int j), y13, y14, y15, y16, y17, y18, y19, y20, y21, y22, y23, y24] h4 D) := by
        intro y13 y14 y15 y16 y17 y18 y19 y20 y21 y22 y23 y24 h3 p D eD eX l3 hp0 e3
        have npM : p ≠ M := ne_lst_dic e3 (l3 _ _ eM)
        have le3 := (le.trans l3).aup2 hM0 (o := .dic (putA kvs (.inl (j : Int)) (.ref p)))
        refine set_dic (l3 _ _ eM) rfl (by omega) (later ?_)
        simp
        refine ex_ixD aup_s rfl (getA_put_self _ _ _) ?_
        simp [lenA, aup_o npM, e3]
        by_cases big : 4000 < ((mk f z rows).getD j []).length
        · have b2 : (4000 : Int) < (((mk f z rows).getD j []).length : Int) := by omega
          rw [List.getD_eq_getElem?_getD] at b2
          simp [b2]
          refine later ?_
          simp [eX]
          exact qu le3 (qe (Nat.lt_of_lt_of_le big (hle j (by omega))))
        · have b2 : ¬ (4000 : Int) < (((mk f z rows).getD j []).length : Int) := by omega
          rw [List.getD_eq_getElem?_getD] at b2
          simp [b2, eD]
          have pl := putA_len kvs (.inl (j : Int)) (.ref p)
          refine hC _ _ ⟨j, _, _, _, _, _, _, _, _, _, _, _, _, _, putA kvs (.inl (j : Int)) (.ref p), by omega, rfl, rfl, le3, ?_, ?_, by simp, by omega, fun j' h1 h2 => ?_⟩
          · rw [aup_o nSM]; exact l3 _ _ eS
          · rw [aup_o nLM]; exact l3 _ _ eL
          · by_cases q : j' = j
            · subst q
              exact ⟨p, hp0, getA_put_self _ _ _, (aup_o npM).trans e3, by omega⟩
            · obtain ⟨p', g0, g1, g2, g3⟩ := mem j' (by omega) h2
              refine ⟨p', g0, ?_, ?_, g3⟩
              · rw [getA_put_ne _ _ (by intro z; injection z with z; omega)]; exact g1
              · rw [aup_o (ne_lst_dic g2 eM)]; exact l3 _ _ g2
      have tailN : ∀ (y15 y16 y17 y18 y19 y20 y21 y22 y23 y24 : Option AV) (D0 D1 : AEnds) (h3 : AH) (B : Addr) (bl : List Rw), D0.nx = (fun σ1 h1 => Lx.Later (sIf (wBt aGt (wBlt aLen (wCons (wBin aIx (wVar 11) (wVar 12)) wNil)) (Lx.M.ret (.int 4000))) (sRaise (Str.ofString "LimitError")) sNext) σ1 h1 D1) → D1.nx = C → D1.ex = (fun x _ h1 => QU E x h1) → ALe h2 h3 →
          h3 B = some (.lst (bl.map Rw.v)) → (mk f z rows).getD j [] = r :: bl → bl.length < 8388608 → Lx.Later (sAsg (wBin aAdd (wLst (wCons (wVar 13) wNil)) (wVar 14)) (aSubT (wVar 11) (wVar 12)))
            [some (.tup K0), some middle, some (.tup restL), some goal, some (.ref a4), some (.ref a5), some (.tup partsL), some (.int K0.length), some (.int restL.length), some (.ref S), some (.ref L), some (.ref M), some (.int j), some r.v, some (.ref B), y15, y16, y17, y18, y19, y20, y21, y22, y23, y24] h3 D0 := by
        intro y15 y16 y17 y18 y19 y20 y21 y22 y23 y24 D0 D1 h3 B bl e0 eD eX l3 eB em lb
        refine later ?_
        simp
        refine fun X hX => ?_
        have nBX := ne_of_at eB hX
        simp [aup_o nBX, eB]
        refine ⟨by omega, fun P hP => ?_⟩
        obtain ⟨hP1, nXP⟩ := aup_none hP
        rw [e0]
        refine fin _ _ _ _ _ _ _ _ _ _ _ _ _ _ _ eD eX ((l3.aup2 (l3.none hX)).aup2 (l3.none hP1)) (le.none (l3.none hP1)) ?_
        rw [em]
        simp
      obtain ⟨gs', pvj⟩ := pv.drop j
      rw [ed] at pvj
      simp
      refine ixL (le _ _ e5) ev ?_
      refine later ?_
      cases r with
      | T =>
        simp [Rw.v]
        refine fun B hB => later ?_
        simp
        refine later ?_
        simp
        refine later ?_
        simp
        exact tailN _ _ _ _ _ _ _ _ _ _ _ _ _ B [] rfl rfl rfl (.up hB) (by simp) (by rw [emk]; rfl) (by simp)
      | G => cases pvj
      | A =>
        have hf : 0 < rows.length - (j + 1) ∧ (sp (rows.drop (j + 1))).getD 0 0 + (j + 1) < rows.length := by
          have fm := pvj.fo
          generalize gs'.length = m at fm
          cases fm with
          | and fm =>
            obtain ⟨h1, h2, h3⟩ := fo_first _ _ _ (Nat.le_refl _) fm
            obtain ⟨k1, k2, k3⟩ := fo_first _ _ _ (Nat.le_refl _) h3
            simp only [List.length_drop] at h2 k2
            omega
        obtain ⟨p1, g0, g1, g2, g3⟩ := mem (j + 1) (Nat.le_refl _) (by omega)
        simp [Rw.v]
        refine ex_ixD (k := .inl ((j + 1 : Nat) : Int)) eM rfl g1 ?_
        refine later ?_
        simp
        refine later ?_
        simp
        refine ixL (k := j + 1) eL (z := .int ((sp (rows.drop (j + 1))).getD 0 0 : Nat)) (by
          rw [List.getElem?_map, ← sp_drop, List.getD_eq_getElem?_getD, List.getElem?_drop, Nat.add_zero, List.getElem?_eq_getElem (by rw [sp_len]; omega)]
          rfl) ?_
        simp only [ex_addI]
        generalize hs : (sp (rows.drop (j + 1))).getD 0 0 = s at *
        obtain ⟨p2, k0, k1, k2, k3⟩ := mem (j + 1 + s) (by omega) (by omega)
        refine ex_ixD (k := .inl ((j + 1 + s : Nat) : Int)) eM rfl k1 ?_
        simp [g2, k2]
        rw [List.getD_eq_getElem?_getD] at g3 k3
        refine ⟨by omega, fun B hB => later ?_⟩
        simp
        refine later ?_
        simp
        refine tailN _ _ _ _ _ _ _ _ _ _ _ _ _ B ((mk f z rows).getD (j + 1) [] ++ (mk f z rows).getD (j + 1 + s) []) rfl rfl rfl (.up hB) (by simp) ?_ (by simp; omega)
        rw [emk]
        show Rw.A :: ((mk f z (rows.drop (j + 1))).getD 0 [] ++ (mk f z (rows.drop (j + 1))).getD ((sp (rows.drop (j + 1))).getD 0 0) []) = _
        rw [hs, em1, getD_drop (mk f z rows) (j + 1 + s), mk_drop, getD_drop (mk f z (rows.drop (j + 1))) s, mk_drop, List.drop_drop]
      | U k =>
        have hk : k < K0.length + restL.length := by
          cases pvj with
          | use ek _ =>
            have := (List.getElem?_eq_some_iff.mp ek).1
            simpa using this
        have hl : j + 1 < rows.length := by
          have fm := pvj.fo
          generalize gs'.length = m at fm
          cases fm with
          | use fm =>
            obtain ⟨h1, h2, h3⟩ := fo_first _ _ _ (Nat.le_refl _) fm
            simp only [List.length_drop] at h2
            omega
        obtain ⟨p1, g0, g1, g2, g3⟩ := mem (j + 1) (Nat.le_refl _) hl
        simp [Rw.v]
        refine ex_ixD (k := .inl ((j + 1 : Nat) : Int)) eM rfl g1 ?_
        refine later ?_
        simp
        refine later ?_
        simp
        by_cases zk : K0.length ≤ k
        · have z1 : z k = true := by rw [hz]; simp; omega
          rcases hcut with rfl | ⟨types, inner, pred, heads, x0, x1, x2, body, fnd, Cu⟩
          · simp at hk; omega
          have er := Cu.rest
          have ep := Cu.parts
          subst er ep
          have hke : k = K0.length := by simp at hk; omega
          subst hke
          have c2 : (K0.length : Int) < (K0.length : Int) + 1 := by omega
          have ecut : cutA (K0 ++ [.tup [x0, x1, x2, body]]) (some ((K0.length : Int) + 1)) none = [] := by
            refine (cutA_tail _ (i := K0.length + 1) (by simp)).trans ?_
            simp
          simp [c2]
          refine later ?_
          simp
          refine ixL eS (z := spot (K0 ++ [.tup [x0, x1, x2, body]])) (by rw [List.getElem?_map, List.getElem?_eq_getElem (by omega)]; rfl) ?_
          simp
          refine later ?_
          simp
          refine later ?_
          simp [ecut]
          refine ⟨by omega, later ?_⟩
          simp
          refine later ?_
          simp
          refine Cu.part h2 le _ _ ?_
          refine fun F hF => later ?_
          have lF : ALe h2 (aup h2 F (.lst (fnd.map Rw.v))) := .up hF
          simp
          have il := Cu.inl
          refine ⟨by omega, ?_⟩
          refine places_ok d _ F (K0 ++ inner) _ fnd Cu.pv Cu.len aup_s _ _ ?_
          refine fun I hI => later ?_
          obtain ⟨hI0, nFI⟩ := aup_none hI
          simp
          refine fitted_ok d _ F I (K0 ++ inner) fnd K0.length Cu.len (by rw [aup_o nFI]; simp) aup_s _ _ ?_
          refine fun G hG => later ?_
          obtain ⟨hG1, nIG⟩ := aup_none hG
          obtain ⟨hG0, nFG⟩ := aup_none hG1
          simp
          have l3 := ((lF.aupn hI (o := .lst (fnd.map fun _ => spot (K0 ++ inner)))).aupn hG (o := .lst (fnd.map Rw.v)))
          have hPb1 := hPb j K0.length _ ed z1 (by rw [← em1]; exact g3)
          refine Cu.again _ p1 G ((mk f z rows).getD (j + 1) []) (by rw [em1]; exact hPb1) (l3 _ _ g2) aup_s _ _ ?_ ?_
          · refine fun _ P hP => ?_
            have emj : (mk f z rows).getD j [] = f ((mk f z rows).getD (j + 1) []) := by
              rw [emk, em1]
              show (if z K0.length = true then _ else _) = _
              rw [z1, if_pos rfl]
            refine fin _ _ _ _ _ _ _ _ _ _ _ _ _ _ _ rfl rfl (l3.aupn hP) (le.none (l3.none hP)) ?_
            rw [emj]
            exact aup_s
          · intro big
            have emj : (mk f z rows).getD j [] = f ((mk f z rows).getD (j + 1) []) := by
              rw [emk, em1]
              show (if z K0.length = true then _ else _) = _
              rw [z1, if_pos rfl]
            exact qu (le.trans l3) (qe (Nat.lt_of_lt_of_le (by rw [emj]; exact big) (hle j (by omega))))
        · have z1 : z k = false := by rw [hz]; simp; omega
          have c1 : ¬ (K0.length : Int) ≤ (k : Int) := by omega
          simp [zk, c1]
          refine later ?_
          simp [zk, c1]
          refine tailN _ _ _ _ _ _ _ _ _ _ _ _ _ p1 ((mk f z rows).getD (j + 1) []) rfl rfl rfl (.refl _) g2 ?_ (by omega)
          rw [emk, em1]
          show (if z k = true then _ else _) = _
          rw [z1, if_neg Bool.false_ne_true]
  · rintro σ h2 ⟨i, y12, y13, y14, y15, y16, y17, y18, y19, y20, y21, y22, y23, y24, kvs, li, er, rfl, le, eS, eL, eM, lk, mem⟩
    refine ⟨trivial, ?_⟩
    cases i with
    | succ j =>
      have ej : ((j + 1 : Nat) : Int) - 1 = (j : Int) := by omega
      rw [ej, rngD_succ] at er
      cases er
    | zero =>
      dsimp only
      refine later ?_
      simp
      obtain ⟨p, g0, g1, g2, g3⟩ := mem 0 (by omega) hne
      refine ex_ixD eM rfl g1 ?_
      exact qu (le.put g2) (q g3 p g0)
end K66

namespace K66
open PySem PySem.Spec PyProof.Rows L2 Lx
abbrev r0 : AV := .tup [nil, .str "q", nil, aP]
abbrev r1 : AV := .tup [nil, .str "p", nil, .tup [kA, aQ, aQ]]
abbrev rm : AV := .tup [nil, .str "p", nil, aQ]
structure Rules (K : List AV) : Prop where
  h0 : K[0]? = some r0
  h1 : K[1]? = some r1
  h2 : K[2]? = some r2
  lo : 3 ≤ K.length
  hi : K.length < 900
theorem cut3 (d : Nat) (h : AH) (K : List AV) (RK : Rules K) (goal : AV) (a4 a5 : Addr) (rows : List Rw) (pv : PvF K [goal] rows) (l : rows.length < 8388608) (e5 : h a5 = some (.lst (rows.map Rw.v))) : CutOk (CT (d + 2) f_cut_rows) [.tup K, tT, nil, goal, .ref a4, .ref a5] h rows := by
  have hk := RK.hi
  have c := cut_ok d h K [] [] tT goal a4 a5 rows id (fun k => decide (K.length ≤ k ∧ k < K.length + ([] : List AV).length)) (fun _ => True) (fun _ => rfl) (by simpa using pv) l (by simp; omega) e5 (fun h' => clauses_T d h') (fun b => Nat.le_refl _) (fun _ _ _ _ _ _ => trivial) (.inl rfl)
  have e := mk_no id (fun k => decide (K.length ≤ k ∧ k < K.length + ([] : List AV).length)) (fun k => by simp) rows.length rows 0 (Nat.le_refl _) pv.fo
  rw [e, fo_one (rows := rows) pv.fo, List.take_length] at c
  exact c
theorem at_c {K : List AV} {x : AV} : (K ++ [x])[K.length]? = some x := by simp
theorem at_lo {K : List AV} {x y : AV} {i : Nat} (e : K[i]? = some y) : (K ++ [x])[i]? = some y := by
  rw [List.getElem?_append_left (List.getElem?_eq_some_iff.mp e).1]; exact e
theorem cut2 (d : Nat) (h : AH) (K : List AV) (RK : Rules K) (a4 a5 : Addr) (D : List Rw) (pD : PvF K [aQ] D) (k0 : Nat) (rest0 : List Rw) (eD : D = .U k0 :: rest0) (lD : D.length ≤ 4000) (e4 : h a4 = some (.lst (D.map Rw.v))) (e5 : h a5 = some (.lst ((first K.length).tail.map Rw.v))) :
    CutOk (CT (d + 3) f_cut_rows) [.tup K, aQ, .tup [r2], aP, .ref a4, .ref a5] h (.U 1 :: .A :: (D ++ D)) := by
  have hk := RK.hi
  have hk2 := RK.lo
  have lD1 : 1 ≤ D.length := by rw [eD]; simp
  have c := cut_ok (d + 1) h K [r2] [.tup [nil, nil, .str "q", nil]] aQ aP a4 a5 (first K.length).tail (fun b => if b.length ≤ D.length then D else b) (fun k => decide (K.length ≤ k ∧ k < K.length + ([r2] : List AV).length)) (fun b => b = [.T]) (fun _ => rfl)
    (.use (at_lo RK.h1) (.and (.use at_c (.leaf (.use at_c (.leaf .nil)))))) (by simp) (by simp; omega) e5 (fun h' => clauses_A (d + 1) h' "q") (fun b => by split <;> omega)
    (fun j k rest ed zk _ => by
      match j, ed with
      | 0, ed => simp at ed; obtain ⟨rfl, rfl⟩ := ed; simp at zk; omega
      | 1, ed => simp at ed
      | 2, ed => simp at ed; obtain ⟨rfl, rfl⟩ := ed; rfl
      | 3, ed => simp at ed
      | 4, ed => simp at ed; obtain ⟨rfl, rfl⟩ := ed; rfl
      | 5, ed => simp at ed
      | j + 6, ed => simp at ed)
    (.inr ⟨nil, [], .str "q", nil, nil, .str "q", nil, tT, D, ⟨rfl, rfl, fun h' le => by
      have := part_q d h' a4 k0 rest0 (eD ▸ pD.fo) (by rw [← eD]; omega) (by rw [← eD]; exact le _ _ e4)
      rw [← eD] at this
      exact this, by simpa using pD, by omega, by simp, fun h' b4 b5 below hb _ f5 => by
      subst hb
      rw [if_pos (by simpa using lD1)]
      exact cut3 d h' K RK aQ b4 b5 D pD (by omega) f5⟩⟩)
  have e : (mk (fun b => if b.length ≤ D.length then D else b) (fun k => decide (K.length ≤ k ∧ k < K.length + ([r2] : List AV).length)) (first K.length).tail).getD 0 [] = .U 1 :: .A :: (D ++ D) := by
    have z1 : decide (K.length ≤ 1 ∧ 1 < K.length + ([r2] : List AV).length) = false := by simp; omega
    have z2 : decide (K.length ≤ K.length ∧ K.length < K.length + ([r2] : List AV).length) = true := by simp
    show (if decide (K.length ≤ 1 ∧ 1 < K.length + ([r2] : List AV).length) = true then _ else _) = _
    rw [z1, if_neg Bool.false_ne_true]
    simp [mk, sp, lD1]
  rw [e] at c
  exact c
/-! the doubling -/
def Sn (c : Nat) : Nat → List Rw
  | 0 => [.U c, .U 2, .T]
  | n + 1 => .U c :: .U 0 :: Sn c n
def Dn : Nat → List Rw
  | 0 => [.U 2, .T]
  | n + 1 => .U 0 :: .U 1 :: .A :: (Dn n ++ Dn n)
theorem Dn_pv {K : List AV} (RK : Rules K) : ∀ n, PvF K [aQ] (Dn n)
  | 0 => .use RK.h2 (.leaf .nil)
  | n + 1 => .use RK.h0 (.use RK.h1 (.and ((Dn_pv RK n).app (Dn_pv RK n))))
theorem Dn_use : ∀ n, ∃ k r, Dn n = .U k :: r
  | 0 => ⟨_, _, rfl⟩
  | n + 1 => ⟨_, _, rfl⟩
theorem Sn_pv {K : List AV} (RK : Rules K) : ∀ n, PvF (K ++ [rm]) [aP] (Sn K.length n)
  | 0 => .use at_c (.use (at_lo RK.h2) (.leaf .nil))
  | n + 1 => .use at_c (.use (at_lo RK.h0) (Sn_pv RK n))
theorem Sn_len (c : Nat) : ∀ n, (Sn c n).length = 2 * n + 3
  | 0 => rfl
  | n + 1 => by simp [Sn, Sn_len c n]; omega
abbrev f1 (b : List Rw) : List Rw := .U 1 :: .A :: (b ++ b)
theorem mk_Sn {c : Nat} (hc : 3 ≤ c) (z : Nat → Bool) (hz : ∀ k, z k = decide (c ≤ k ∧ k < c + 1)) : ∀ n, (mk f1 z (Sn c n)).getD 0 [] = f1 (Dn n) ∧ (mk f1 z (Sn c n).tail).getD 0 [] = Dn n := by
  have zc : z c = true := by rw [hz]; simp
  have z0 : z 0 = false := by rw [hz]; simp; omega
  have z2 : z 2 = false := by rw [hz]; simp; omega
  intro n
  induction n with
  | zero => simp [Sn, mk, zc, z2, Dn]
  | succ n ih =>
    have e2 : (mk f1 z (Sn c (n + 1)).tail).getD 0 [] = Dn (n + 1) := by
      show (if z 0 = true then _ else Rw.U 0 :: (mk f1 z (Sn c n)).getD 0 []) = _
      rw [z0, if_neg Bool.false_ne_true, ih.1]
      rfl
    refine ⟨?_, e2⟩
    show (if z c = true then f1 ((mk f1 z (Sn c (n + 1)).tail).getD 0 []) else _) = _
    rw [zc, if_pos rfl, e2]
theorem Sn_drop {c : Nat} (hc : 3 ≤ c) : ∀ n j k rest, (Sn c n).drop j = .U k :: rest → k = c → ∃ m, rest = (Sn c m).tail
  | 0, 0, k, rest, e, _ => ⟨0, by simp [Sn] at e ⊢; exact e.2.symm⟩
  | 0, 1, k, rest, e, ek => by simp [Sn] at e; omega
  | 0, 2, k, rest, e, ek => by simp [Sn] at e
  | 0, j + 3, k, rest, e, ek => by simp [Sn] at e
  | n + 1, 0, k, rest, e, _ => ⟨n + 1, by simp [Sn] at e ⊢; exact e.2.symm⟩
  | n + 1, 1, k, rest, e, ek => by simp [Sn] at e; omega
  | n + 1, j + 2, k, rest, e, ek => Sn_drop hc n j k rest (by simpa [Sn] using e) ek
theorem cut1 (d : Nat) (h : AH) (K : List AV) (RK : Rules K) (a4 a5 : Addr) (n : Nat) (hn : n < 1000) (e4 : h a4 = some (.lst ((first K.length).map Rw.v))) (e5 : h a5 = some (.lst ((Sn K.length n).map Rw.v))) :
    CutOk (CT (d + 5) f_cut_rows) [.tup K, mid, .tup [rm], aP, .ref a4, .ref a5] h (f1 (Dn n)) := by
  have hk := RK.hi
  have hk2 := RK.lo
  have c := cut_ok (d + 3) h K [rm] [.tup [nil, .tup [r2], .str "p", nil]] mid aP a4 a5 (Sn K.length n) f1 (fun k => decide (K.length ≤ k ∧ k < K.length + ([rm] : List AV).length)) (fun b => ∃ m, b = Dn m ∧ b.length ≤ 4000) (fun _ => rfl)
    (Sn_pv RK n) (by rw [Sn_len]; omega) (by simp; omega) e5 (fun h' => clauses_mid d h') (fun b => by simp; omega)
    (fun j k rest ed zk lb => by
      simp at zk
      obtain ⟨m, rfl⟩ := Sn_drop hk2 n j k rest ed (by omega)
      have := (mk_Sn hk2 (fun k => decide (K.length ≤ k ∧ k < K.length + ([rm] : List AV).length)) (fun _ => rfl) m).2
      rw [this] at lb ⊢
      exact ⟨m, rfl, lb⟩)
    (.inr ⟨nil, [r2], .str "p", nil, nil, .str "p", nil, aQ, (first K.length).tail, ⟨rfl, rfl, fun h' le => part_mid (d + 2) h' a4 K.length (le _ _ e4), .use (at_lo RK.h1) (.and (.use at_c (.leaf (.use at_c (.leaf .nil))))), by simp, by simp, fun h' b4 b5 below hb f4 f5 => by
      obtain ⟨m, rfl, lb⟩ := hb
      obtain ⟨k0, rest0, eD⟩ := Dn_use m
      exact cut2 (d + 1) h' K RK b4 b5 (Dn m) (Dn_pv RK m) k0 rest0 eD lb f4 f5⟩⟩)
  rw [(mk_Sn hk2 (fun k => decide (K.length ≤ k ∧ k < K.length + ([rm] : List AV).length)) (fun _ => rfl) n).1] at c
  exact c
end K66

namespace K66
open PySem PySem.Spec PyProof.Rows L2 Lx
theorem cut_all (d : Nat) (h : AH) (K : List AV) (RK : Rules K) (x : AV) (n : Nat) (hn : n < 1000) (Q : AV → AH → Prop) (E : KE) (q : (f1 (Dn n)).length ≤ 4000 → Q (.tup ((f1 (Dn n)).map Rw.v)) h) (qe : 4000 < (f1 (Dn n)).length → E ⟨"LimitError", none⟩ h) :
    CT (d + 6) f_cut [.tup [x, .tup K], mid, aP, .tup ((first K.length).map Rw.v), .tup (.tup [.str "given"] :: (Sn K.length n).map Rw.v)] h Q E := by
  show fnC 5 7 (w_cut (CT (d + 5)) (d + 5)) _ _ _ _
  refine ⟨rfl, ?_⟩
  unfold w_cut
  simp
  refine rules_of_mid d h _ _ ?_
  refine later ?_
  simp
  have es : cutA (.tup [.str "given"] :: (Sn K.length n).map Rw.v) (some 1) none = (Sn K.length n).map Rw.v := by
    refine (cutA_tail _ (i := 1) (by simp)).trans ?_
    simp
  rw [es]
  refine later ?_
  simp
  refine fun p hp p1 hp1 => ?_
  obtain ⟨hp0, npp⟩ := aup_none hp1
  have le := ((ALe.refl h).aup2 hp (o := .lst ((first K.length).map Rw.v))).aup2 hp0 (o := .lst ((Sn K.length n).map Rw.v))
  refine cut1 d _ K RK p p1 n hn (aup_at aup_s hp1) aup_s _ _ ?_ fun big => qu le (qe big)
  refine fun l4 P hP => ?_
  have q4 := q l4
  simp
  exact qu (le.aup2 (le.none hP)) (by simpa using q4)
theorem Dn_len : ∀ n, (Dn n).length + 3 = 5 * 2 ^ n
  | 0 => rfl
  | n + 1 => by
    have := Dn_len n
    simp [Dn]
    rw [Nat.pow_succ]
    omega
theorem doubled_ok (d : Nat) (h : AH) (n : Nat) (hn : n < 14) : Gives (CT (d + 1) f__law_doubled) [.int ((n + 1 : Nat) : Int)] h (.lst ((f1 (Dn n)).map Rw.v)) := fun Q E q => by
  show fnC 1 4 (w__law_doubled (CT d) d) _ _ _ _
  refine ⟨rfl, ?_⟩
  unfold w__law_doubled
  simp
  refine fun A hA => later ?_
  simp
  refine ⟨⟨by omega, by omega⟩, ?_⟩
  refine for_rest (fun rest σ h2 => ∃ (m : Nat) (y2 y3 : Option AV) (B : Addr), m ≤ n + 1 ∧ rest = rngA (m : Int) 1 (n + 1 - m) ∧ σ = [some (.int ((n : Int) + 1)), some (.ref B), y2, y3] ∧ ALe h h2 ∧ h2 B = some (.lst ((Dn m).map Rw.v))) ?_ ?_ _ _ _ ⟨0, none, none, A, by omega, rfl, rfl, (ALe.refl h).aup2 hA, by simp [Dn, Rw.v]⟩
  · rintro x rest σ h2 C ⟨m, y2, y3, B, hm, er, rfl, le, eB⟩ hC
    refine ⟨trivial, ?_⟩
    have lt : m < n + 1 := by
      by_cases z : m = n + 1
      · subst z; simp [rngA] at er
      · omega
    rw [show n + 1 - m = (n - m) + 1 by omega, rng1_succ] at er
    injection er with er1 er2
    subst er1 er2
    have dl := Dn_len m
    have pw : 2 ^ m ≤ 2 ^ 14 := Nat.pow_le_pow_right (by omega) (by omega)
    simp
    refine fun X hX => ?_
    have nBX := ne_of_at eB hX
    simp [aup_o nBX, eB]
    refine ⟨by omega, fun Y hY => ?_⟩
    obtain ⟨hY1, nXY⟩ := aup_none hY
    have nBY := ne_of_at eB hY1
    simp [aup_o nBX, aup_o nBY, eB]
    refine ⟨by omega, fun Z hZ => later ?_⟩
    obtain ⟨hZ1, nYZ⟩ := aup_none hZ
    obtain ⟨hZ2, nXZ⟩ := aup_none hZ1
    simp
    refine fun W hW => ?_
    obtain ⟨hW1, nZW⟩ := aup_none hW
    obtain ⟨hW2, nYW⟩ := aup_none hW1
    obtain ⟨hW3, nXW⟩ := aup_none hW2
    simp [aup_o nZW]
    refine ⟨by omega, fun V hV => ?_⟩
    obtain ⟨hV1, nWV⟩ := aup_none hV
    obtain ⟨hV2, nZV⟩ := aup_none hV1
    obtain ⟨hV3, nYV⟩ := aup_none hV2
    obtain ⟨hV4, nXV⟩ := aup_none hV3
    refine hC _ _ ⟨m + 1, _, _, V, by omega, by rw [show n + 1 - (m + 1) = n - m by omega]; rfl, rfl, ((((le.aup2 (le.none hX)).aup2 (le.none hY1)).aup2 (le.none hZ2)).aup2 (le.none hW3)).aup2 (le.none hV4), ?_⟩
    simp [Dn, Rw.v]
  · rintro σ h2 ⟨m, y2, y3, B, hm, er, rfl, le, eB⟩
    refine ⟨trivial, ?_⟩
    have em : m = n + 1 := by
      by_cases z : m = n + 1
      · exact z
      · rw [show n + 1 - m = (n - m) + 1 by omega, rng1_succ] at er
        cases er
    subst em
    dsimp only
    refine later ?_
    simp [eB]
    refine fun P hP => ?_
    have ec : cutA ((Dn (n + 1)).map Rw.v) (some 1) none = (f1 (Dn n)).map Rw.v := by
      refine (cutA_tail _ (i := 1) (by have := Dn_len (n + 1); simp [Dn])).trans ?_
      simp [Dn]
    rw [ec]
    exact qu le.both (q P (le.none hP))
end K66

namespace K66
open PySem PySem.Spec PyProof.Rows L2 Lx
/-- the rules -/
def KK (m : Nat) : List AV := r0 :: r1 :: r2 :: List.replicate m (.tup [nil, .str "q", nil, .tup [kA, aP, aP]])
theorem kk_rules {m : Nat} (h : m < 800) : Rules (KK m) := ⟨rfl, rfl, rfl, by simp [KK], by simp [KK]; omega⟩
def pre (c : Nat) (m : Nat) : List Rw := (List.replicate m [Rw.U c, Rw.U 0]).flatten
theorem pre_succ (c m : Nat) : pre c (m + 1) = pre c m ++ [.U c, .U 0] := by
  unfold pre
  rw [List.replicate_succ', List.flatten_append]
  simp
theorem Sn_pre (c : Nat) : ∀ n, Sn c n = pre c n ++ [.U c, .U 2, .T]
  | 0 => rfl
  | n + 1 => by
    show Rw.U c :: Rw.U 0 :: Sn c n = _
    rw [Sn_pre c n]
    unfold pre
    rw [List.replicate_succ, List.flatten_cons]
    rfl
theorem pre_len (c : Nat) : ∀ n, (pre c n).length = 2 * n
  | 0 => rfl
  | n + 1 => by rw [pre_succ, List.length_append, pre_len c n]; simp; omega
abbrev PX : AV := .tup [.tup [.str "p", .tup [nil, .str "o"]], .tup [.str "q", .tup [nil, .str "o"]]]
abbrev FV (c : Nat) : List AV := [.tup [.str "given"], .tup [kU, .int 1, nil], .tup [kA], .tup [kU, .int c, nil], tT, .tup [kU, .int c, nil], tT]
theorem fv_eq (c : Nat) : FV c = (first c).map Rw.v := rfl
theorem rws_ok : ∀ rows : List Rw, okT (.tup (rows.map Rw.v)) = true
  | [] => by simp [okT, okTs]
  | r :: rows => by
    have h := rws_ok rows
    rw [okT] at h
    rw [okT, List.map_cons, okTs, h]
    cases r <;> simp [Rw.v, okT, okTs]
theorem rws_noB : ∀ rows : List Rw, noB (.tup (rows.map Rw.v)) = true
  | [] => by simp [noB, noBs]
  | r :: rows => by
    have h := rws_noB rows
    rw [noB] at h
    rw [noB, List.map_cons, noBs, h]
    cases r <;> simp [Rw.v, noB, noBs]
theorem rws_dep : ∀ rows : List Rw, PyData.depthAll (dats (rows.map Rw.v)) ≤ 2
  | [] => by simp [dats, PyData.depthAll]
  | r :: rows => by
    have h := rws_dep rows
    rw [List.map_cons, dats, PyData.depthAll]
    have : PyData.depth (dat r.v) ≤ 2 := by cases r <;> simp [Rw.v, dat, dats, PyData.depth, PyData.depthAll]
    omega
theorem start_eq (d : Nat) : CT (d + 1) f__law_start = fnC 1 4 wStart := rfl
theorem take_eq (d : Nat) : CT (d + 1) f__law_take = fnC 2 3 wTake := rfl
theorem law_eq (d : Nat) : CT (d + 1) f_law = fnC 1 15 (w_law (CT d) d) := rfl
theorem law_ok (C : CS) (d : Nat) (e1 : C f__law_start = fnC 1 4 wStart) (e2 : C f__law_take = fnC 2 3 wTake) (hd : ∀ (h : AH) (n : Nat), n < 14 → Lx.Gives (C f__law_doubled) [.int ((n + 1 : Nat) : Int)] h (.lst ((f1 (Dn n)).map Rw.v)))
    (hc : ∀ (h : AH) (K : List AV), Rules K → ∀ (x : AV) (n : Nat), n < 1000 → ∀ (Q : AV → AH → Prop) (E : KE), ((f1 (Dn n)).length ≤ 4000 → Q (.tup ((f1 (Dn n)).map Rw.v)) h) → (4000 < (f1 (Dn n)).length → E ⟨"LimitError", none⟩ h) → C f_cut [.tup [x, .tup K], mid, aP, .tup ((first K.length).map Rw.v), .tup (.tup [.str "given"] :: (Sn K.length n).map Rw.v)] h Q E)
    (x : AV) (h : AH) (ns : List Int) (S : IsScript h x ns) : fnC 1 15 (w_law C d) [x] h (fun v _ => v = .bl true) fun _ _ => False := by
  refine ⟨rfl, ?_⟩
  unfold w_law
  simp
  rw [e1]
  refine start_ok S fun h1 p f s le D => ?_
  refine later ?_
  simp
  refine later ?_
  simp
  rw [e2]
  refine take_ok D (by decide) (by decide) fun more f' s' m0 m1 D => ?_
  refine later ?_
  simp
  refine fun R hR => ?_
  refine later ?_
  simp
  have ep := aup_at (u := .lst [r0, r1, r2]) D.at_ hR
  intro R2 hR2
  refine ⟨⟨by omega, by omega, by omega⟩, fun R3 hR3 => ?_⟩
  have ep2 := aup_at (u := .lst [.tup [nil, .str "q", nil, .tup [kA, aP, aP]]]) ep hR2
  have ep3 := aup_at (u := .lst (List.replicate more.toNat (.tup [nil, .str "q", nil, .tup [kA, aP, aP]]))) ep2 hR3
  refine ⟨[r0, r1, r2], aup_at (aup_at aup_s hR2) hR3, ?_⟩
  simp
  refine ⟨by omega, fun R4 hR4 => later ?_⟩
  have ep4 := aup_at (u := .lst (KK more.toNat)) ep3 hR4
  have eK : aup _ R4 (.lst (KK more.toNat)) R4 = some (.lst (KK more.toNat)) := aup_s (h := (aup (aup (aup (aup h1 p (.lst [.int f', .int s', .int 0])) R (.lst [r0, r1, r2])) R2 (.lst [.tup [nil, .str "q", nil, .tup [kA, aP, aP]]])) R3 (.lst (List.replicate more.toNat (.tup [nil, .str "q", nil, .tup [kA, aP, aP]])))))
  rw [show (r0 :: r1 :: r2 :: List.replicate more.toNat (.tup [nil, .str "q", nil, .tup [kA, aP, aP]])) = KK more.toNat from rfl]
  generalize aup (aup (aup (aup (aup h1 p (.lst [.int f', .int s', .int 0])) R (.lst [r0, r1, r2])) R2 (.lst [.tup [nil, .str "q", nil, .tup [kA, aP, aP]]])) R3 (.lst (List.replicate more.toNat (.tup [nil, .str "q", nil, .tup [kA, aP, aP]])))) R4 (.lst (KK more.toNat)) = g at *
  have D2 : IsDraw g p f' s' 0 := ⟨ep4, D.f0, D.s0, D.s1⟩
  simp [eK]
  refine later ?_
  simp
  refine later ?_
  simp [lenA, eK]
  refine later ?_
  simp
  refine later ?_
  simp
  refine take_ok D2 (by decide) (by decide) fun tn f2 s2 t0 t1 D3 => ?_
  obtain ⟨n, rfl⟩ := Int.eq_ofNat_of_zero_le t0
  generalize aup g p (.lst [.int f2, .int s2, .int 0]) = g2
  have hn : n < 12 := by omega
  simp
  refine later ?_
  simp
  refine fun B hB => later ?_
  simp
  refine ⟨by omega, ?_⟩
  generalize hc' : (KK more.toNat).length = c at *
  rw [show (1 + (n : Int)).toNat - 1 = n by omega]
  refine for_rest (fun rest σ h2 => ∃ (m : Nat) (y12 : Option AV) (B : Addr), m ≤ n ∧ rest = rngA (m : Int) 1 (n - m) ∧ σ = [some x, some (.ref p), some aP, some aQ, some (.int more), some (.ref R4), some (.tup [PX, .tup (KK more.toNat)]), some mid, some (.int c), some (.tup (FV c)), some (.int (1 + (n : Int))), some (.ref B), y12, none, none] ∧
    h2 B = some (.lst (.tup [.str "given"] :: (pre c m).map Rw.v))) ?_ ?_ _ _ _ ⟨0, none, B, by omega, rfl, rfl, aup_s⟩
  · rintro y rest σ h2 C1 ⟨m, y12, B, hm, er, rfl, eB⟩ hC
    refine ⟨trivial, ?_⟩
    have lt : m < n := by
      by_cases z : m = n
      · subst z; simp [rngA] at er
      · omega
    rw [show n - m = (n - m - 1) + 1 by omega, rng1_succ] at er
    injection er with er1 er2
    subst er1 er2
    simp
    refine fun X hX => ?_
    have nBX := ne_of_at eB hX
    have pl := pre_len c m
    simp [aup_o nBX, eB]
    refine ⟨by omega, fun Y hY => ?_⟩
    refine hC _ _ ⟨m + 1, _, Y, by omega, by rw [show n - (m + 1) = n - m - 1 by omega]; rfl, rfl, ?_⟩
    rw [pre_succ]
    simp [Rw.v]
  · rintro σ h2 ⟨m, y12, B, hm, er, rfl, eB⟩
    refine ⟨trivial, ?_⟩
    have em : m = n := by
      by_cases z : m = n
      · exact z
      · rw [show n - m = (n - m - 1) + 1 by omega, rng1_succ] at er
        cases er
    subst em
    dsimp only
    refine later ?_
    simp
    refine fun X hX => ?_
    have nBX := ne_of_at eB hX
    have pl := pre_len c m
    simp [aup_o nBX, eB]
    refine ⟨by omega, fun Y hY => later ?_⟩
    have eY : aup (aup h2 X (.lst [.tup [kU, .int c, nil], .tup [kU, .int 2, nil], tT])) Y (.lst (.tup [.str "given"] :: (Sn c m).map Rw.v)) Y = some (.lst (.tup [.str "given"] :: (Sn c m).map Rw.v)) := aup_s
    have eL : (.tup [.str "given"] :: ((pre c m).map Rw.v ++ [.tup [kU, .int c, nil], .tup [kU, .int 2, nil], tT])) = (AV.tup [.str "given"] :: (Sn c m).map Rw.v) := by rw [Sn_pre, List.map_append]; rfl
    rw [eL]
    generalize aup (aup h2 X (.lst [.tup [kU, .int c, nil], .tup [kU, .int 2, nil], tT])) Y (.lst (.tup [.str "given"] :: (Sn c m).map Rw.v)) = g3 at *
    simp
    rw [show (1 + (m : Int)) = ((m + 1 : Nat) : Int) by omega]
    refine hd _ m (by omega) _ _ ?_
    refine fun Z hZ => ?_
    simp
    have eY2 := aup_at (u := .lst ((f1 (Dn m)).map Rw.v)) eY hZ
    generalize aup g3 Z (.lst ((f1 (Dn m)).map Rw.v)) = g4 at *
    refine later ?_
    simp [sTry, eY2]
    refine ⟨_, aup_at eY hZ, ?_⟩
    subst hc'
    refine hc _ (KK more.toNat) (kk_rules (by omega)) PX m (by omega) _ _ ?_ ?_
    · intro l4
      refine later ?_
      simp
      have b : ((Dn m).length : Int) + (Dn m).length + 1 + 1 ≤ 4000 := by simp at l4; omega
      have e : ((Rw.U 1).v :: Rw.A.v :: ((Dn m).map Rw.v ++ (Dn m).map Rw.v)) = (f1 (Dn m)).map Rw.v := by simp
      rw [e]
      simp only [b, decide_true, pif_t]
      rw [show subTy "tuple" "tuple" = true from rfl, pif_t]
      refine ex_eqT (rws_ok _) (rws_ok _) ?_ (qu (.refl _) ?_)
      · have := rws_dep (f1 (Dn m))
        show min (PyData.depth (.tuple (dats _))) (PyData.depth (.tuple (dats _))) ≤ _
        rw [PyData.depth]
        omega
      · show AV.bl _ = AV.bl true
        rw [(eqv_iff _ _ (rws_noB (f1 (Dn m))) (rws_noB (f1 (Dn m)))).mpr rfl]
    · intro l4
      refine .inr ⟨rfl, qu (.refl _) ?_⟩
      simp at l4
      simp
      omega
theorem main (x : AV) (h : AH) (ns : List Int) (S : IsScript h x ns) : CT 12 f_law [x] h (fun v _ => v = .bl true) fun _ _ => False := by
  have e : CT 12 f_law = fnC 1 15 (w_law (CT 11) 11) := law_eq 11
  rw [e]
  exact law_ok (CT 11) 11 (start_eq 10) (take_eq 10) (doubled_ok 10) (cut_all 5) x h ns S
end K66

namespace K66
open PySem PySem.Spec PyProof.Rows L2 Lx
def fn : List He.DefD := [⟨("has_more", none), "has_more", "has_more", defArgs s_has_more, defBody s_has_more, defScope s_has_more, [], []⟩, ⟨("depth", none), "depth", "depth", defArgs s_depth, defBody s_depth, defScope s_depth, [], []⟩, ⟨("changed", none), "changed", "changed", defArgs s_changed, defBody s_changed, defScope s_changed, [], []⟩, ⟨("lift_term", none), "lift_term", "lift_term", defArgs s_lift_term, defBody s_lift_term, defScope s_lift_term, [], []⟩, ⟨("open_at", none), "open_at", "open_at", defArgs s_open_at, defBody s_open_at, defScope s_open_at, [], []⟩, ⟨("open_term", none), "open_term", "open_term", defArgs s_open_term, defBody s_open_term, defScope s_open_term, [], []⟩, ⟨("limited", none), "limited", "limited", defArgs s_limited, defBody s_limited, defScope s_limited, [], []⟩, ⟨("turned", none), "turned", "turned", defArgs s_turned, defBody s_turned, defScope s_turned, [], []⟩, ⟨("turned_rule", none), "turned_rule", "turned_rule", defArgs s_turned_rule, defBody s_turned_rule, defScope s_turned_rule, [], []⟩, ⟨("taken_rule", none), "taken_rule", "taken_rule", defArgs s_taken_rule, defBody s_taken_rule, defScope s_taken_rule, [], []⟩, ⟨("clauses", none), "clauses", "clauses", defArgs s_clauses, defBody s_clauses, defScope s_clauses, [], []⟩, ⟨("joined", none), "joined", "joined", defArgs s_joined, defBody s_joined, defScope s_joined, [], []⟩, ⟨("rules_of", none), "rules_of", "rules_of", defArgs s_rules_of, defBody s_rules_of, defScope s_rules_of, [], []⟩, ⟨("goal_of", none), "goal_of", "goal_of", defArgs s_goal_of, defBody s_goal_of, defScope s_goal_of, [], []⟩, ⟨("spans", none), "spans", "spans", defArgs s_spans, defBody s_spans, defScope s_spans, [], []⟩, ⟨("places", none), "places", "places", defArgs s_places, defBody s_places, defScope s_places, [], []⟩, ⟨("part_for", none), "part_for", "part_for", defArgs s_part_for, defBody s_part_for, defScope s_part_for, [], []⟩, ⟨("fitted", none), "fitted", "fitted", defArgs s_fitted, defBody s_fitted, defScope s_fitted, [], []⟩, ⟨("cut_rows", none), "cut_rows", "cut_rows", defArgs s_cut_rows, defBody s_cut_rows, defScope s_cut_rows, [], []⟩, ⟨("cut", none), "cut", "cut", defArgs s_cut, defBody s_cut, defScope s_cut, [], []⟩, ⟨("_law_start", none), "_law_start", "_law_start", defArgs s__law_start, defBody s__law_start, defScope s__law_start, [], []⟩, ⟨("_law_take", none), "_law_take", "_law_take", defArgs s__law_take, defBody s__law_take, defScope s__law_take, [], []⟩, ⟨("_law_doubled", none), "_law_doubled", "_law_doubled", defArgs s__law_doubled, defBody s__law_doubled, defScope s__law_doubled, [], []⟩, ⟨("law", none), "law", "law", defArgs s_law, defBody s_law, defScope s_law, [], []⟩]
def fa : List He.Fa := [.glo "has_more", .glo "depth", .glo "changed", .glo "lift_term", .glo "open_at", .glo "open_term", .glo "limited", .glo "turned", .glo "turned_rule", .glo "taken_rule", .glo "clauses", .glo "joined", .glo "rules_of", .glo "goal_of", .glo "spans", .glo "places", .glo "part_for", .glo "fitted", .glo "cut_rows", .glo "cut", .glo "_law_start", .glo "_law_take", .glo "_law_doubled", .glo "law", .free "abs", .free "int", .free "isinstance", .free "len", .free "list", .free "range", .free "tuple", .free "zip", .glo "LEAVES", .int "MANY_cutting" 4000, .int "MANY_filling" 1000000, .int "MOST" 2000, .int "MOST_DEEP" 100, .exc "LimitError", .glo "LimitError", .exm "LimitError" "LimitError" true]
def tf : List He.Defn := [("taken_rule", none)]
def ex (K : PySem.W.Frag) : Bool := He.tupB K "LEAVES" [.str "true", .str "equal", .str "match"]
abbrev R : PySem.W.OpenRow := PySem.W.OpenLaw.row PySem.Challenge.rw_lacuna_k66_cuts_that_double
abbrev hk : PySem.W.Hook := He.hookX 5 fa fn [] tf ex
def ob (s : PySem.W.SharedT) : He.AlX := He.obsX 5 fa fn [] tf ex (HandSHeadRun.getT s)
theorem ob_eq (s : PySem.W.SharedT) : ob s = hk.obs s.abs := He.obsX_eq (HandSHeadRun.getT_eq s)
theorem run (w : World) : HandSHeadRun.RunEq R (PySem.W.view R.prog [35]) hk ob 4000 ["LacunaError", "LimitError", "MOST", "MOST_DEEP", "has_more", "depth", "changed", "lift_term", "MANY_filling", "open_at", "open_term", "limited", "MANY_cutting", "LEAVES", "turned", "turned_rule", "taken_rule", "clauses", "joined", "rules_of", "goal_of", "spans", "places", "part_for", "fitted", "cut_rows", "cut", "_law_start", "_law_take", "_law_doubled"] w := by
  intro os
  kernel_rfl
theorem glo_fn {mg : Str → Option Value} {K : PySem.W.Frag} {x : Str} (h : mg x = some (.ref (He.ga K x))) : mg x = some (.ref (He.fAd K (x, none))) := h
theorem tb_mem {K : PySem.W.Frag} {p : Addr × Str} (h : p ∈ LawTb.tb K) : ∃ q ∈ tf.map (He.cT K), q.2 = p.1 := by
  rcases List.mem_cons.mp h with rfl | h
  · exact ⟨_, by unfold tf; simp only [List.map_cons, List.map_nil]; exact List.mem_cons_self, rfl⟩
  exact absurd h (List.not_mem_nil)
theorem facts {P : Program} {w : World} {K : PySem.W.Frag} {h : Heap} {mg : Str → Option Value} {f : Addr} (X : K.In h) (G : h.Ns mainGlobals mg) (hfa : mg ("law" : Str) = some (.ref f)) (c : He.SaysX fa fn [] tf ex w h K) :
    ∃ fd : FuncData, (∀ (s : Shared) (v : Value), BindsTo s fd ⟨[v], []⟩ [("script", v)]) ∧ ∀ base : Heap, K.In base → base.Ns mainGlobals mg → (∀ p ∈ tf.map (He.cT K), LamX.TabB base mg p.1 p.2) → FnOk P w K mg base (L2.CX P w) 12 f fd ["script"] (spC K (CT 12 f_law)) := by
  have D : FD K mg := ⟨(c.t.d.def_ 0 rfl).elim fun fd F => ⟨fd, F, glo_fn (He.glo_ok X G (c.t.d.fact 0 (f := .glo "has_more") rfl))⟩,
    (c.t.d.def_ 1 rfl).elim fun fd F => ⟨fd, F, glo_fn (He.glo_ok X G (c.t.d.fact 1 (f := .glo "depth") rfl))⟩,
    (c.t.d.def_ 2 rfl).elim fun fd F => ⟨fd, F, glo_fn (He.glo_ok X G (c.t.d.fact 2 (f := .glo "changed") rfl))⟩,
    (c.t.d.def_ 3 rfl).elim fun fd F => ⟨fd, F, glo_fn (He.glo_ok X G (c.t.d.fact 3 (f := .glo "lift_term") rfl))⟩,
    (c.t.d.def_ 4 rfl).elim fun fd F => ⟨fd, F, glo_fn (He.glo_ok X G (c.t.d.fact 4 (f := .glo "open_at") rfl))⟩,
    (c.t.d.def_ 5 rfl).elim fun fd F => ⟨fd, F, glo_fn (He.glo_ok X G (c.t.d.fact 5 (f := .glo "open_term") rfl))⟩,
    (c.t.d.def_ 6 rfl).elim fun fd F => ⟨fd, F, glo_fn (He.glo_ok X G (c.t.d.fact 6 (f := .glo "limited") rfl))⟩,
    (c.t.d.def_ 7 rfl).elim fun fd F => ⟨fd, F, glo_fn (He.glo_ok X G (c.t.d.fact 7 (f := .glo "turned") rfl))⟩,
    (c.t.d.def_ 8 rfl).elim fun fd F => ⟨fd, F, glo_fn (He.glo_ok X G (c.t.d.fact 8 (f := .glo "turned_rule") rfl))⟩,
    (c.t.d.def_ 9 rfl).elim fun fd F => ⟨fd, F, glo_fn (He.glo_ok X G (c.t.d.fact 9 (f := .glo "taken_rule") rfl))⟩,
    (c.t.d.def_ 10 rfl).elim fun fd F => ⟨fd, F, glo_fn (He.glo_ok X G (c.t.d.fact 10 (f := .glo "clauses") rfl))⟩,
    (c.t.d.def_ 11 rfl).elim fun fd F => ⟨fd, F, glo_fn (He.glo_ok X G (c.t.d.fact 11 (f := .glo "joined") rfl))⟩,
    (c.t.d.def_ 12 rfl).elim fun fd F => ⟨fd, F, glo_fn (He.glo_ok X G (c.t.d.fact 12 (f := .glo "rules_of") rfl))⟩,
    (c.t.d.def_ 13 rfl).elim fun fd F => ⟨fd, F, glo_fn (He.glo_ok X G (c.t.d.fact 13 (f := .glo "goal_of") rfl))⟩,
    (c.t.d.def_ 14 rfl).elim fun fd F => ⟨fd, F, glo_fn (He.glo_ok X G (c.t.d.fact 14 (f := .glo "spans") rfl))⟩,
    (c.t.d.def_ 15 rfl).elim fun fd F => ⟨fd, F, glo_fn (He.glo_ok X G (c.t.d.fact 15 (f := .glo "places") rfl))⟩,
    (c.t.d.def_ 16 rfl).elim fun fd F => ⟨fd, F, glo_fn (He.glo_ok X G (c.t.d.fact 16 (f := .glo "part_for") rfl))⟩,
    (c.t.d.def_ 17 rfl).elim fun fd F => ⟨fd, F, glo_fn (He.glo_ok X G (c.t.d.fact 17 (f := .glo "fitted") rfl))⟩,
    (c.t.d.def_ 18 rfl).elim fun fd F => ⟨fd, F, glo_fn (He.glo_ok X G (c.t.d.fact 18 (f := .glo "cut_rows") rfl))⟩,
    (c.t.d.def_ 19 rfl).elim fun fd F => ⟨fd, F, glo_fn (He.glo_ok X G (c.t.d.fact 19 (f := .glo "cut") rfl))⟩,
    (c.t.d.def_ 20 rfl).elim fun fd F => ⟨fd, F, glo_fn (He.glo_ok X G (c.t.d.fact 20 (f := .glo "_law_start") rfl))⟩,
    (c.t.d.def_ 21 rfl).elim fun fd F => ⟨fd, F, glo_fn (He.glo_ok X G (c.t.d.fact 21 (f := .glo "_law_take") rfl))⟩,
    (c.t.d.def_ 22 rfl).elim fun fd F => ⟨fd, F, glo_fn (He.glo_ok X G (c.t.d.fact 22 (f := .glo "_law_doubled") rfl))⟩,
    (c.t.d.def_ 23 rfl).elim fun fd F => ⟨fd, F, glo_fn (He.glo_ok X G (c.t.d.fact 23 (f := .glo "law") rfl))⟩⟩
  obtain ⟨fd, F, g⟩ := D.f_law
  have e := hfa.symm.trans g
  cases e
  have b := FunD.bindsA (ps := ["script"]) F fun _ _ _ _ _ _ us hl => match us, hl with | [_], _ => rfl
  refine ⟨fd, fun s v => b s [v] rfl, fun base X1 G1 tb0 => ?_⟩
  have tb : ∀ p : He.Defn, p ∈ tf → LamX.TabB base mg (He.cT K p).1 (He.cT K p).2 := fun p hp => tb0 _ (List.mem_map_of_mem hp)
  have T : MG K mg base := {
    g_abs := He.free_ok X G (c.t.d.fact 24 (f := .free "abs") rfl),
    g_int := He.free_ok X G (c.t.d.fact 25 (f := .free "int") rfl),
    g_isinstance := He.free_ok X G (c.t.d.fact 26 (f := .free "isinstance") rfl),
    g_len := He.free_ok X G (c.t.d.fact 27 (f := .free "len") rfl),
    g_list := He.free_ok X G (c.t.d.fact 28 (f := .free "list") rfl),
    g_range := He.free_ok X G (c.t.d.fact 29 (f := .free "range") rfl),
    g_tuple := He.free_ok X G (c.t.d.fact 30 (f := .free "tuple") rfl),
    g_zip := He.free_ok X G (c.t.d.fact 31 (f := .free "zip") rfl),
    g_LEAVES := ⟨He.glo_ok X G (c.t.d.fact 32 (f := .glo "LEAVES") rfl), fun H => rv_tupB (ds := [.str "true", .str "equal", .str "match"]) (c.more) rfl H⟩,
    g_MANY_cutting := He.int_ok X G (c.t.d.fact 33 (f := .int "MANY_cutting" 4000) rfl),
    g_MANY_filling := He.int_ok X G (c.t.d.fact 34 (f := .int "MANY_filling" 1000000) rfl),
    g_MOST := He.int_ok X G (c.t.d.fact 35 (f := .int "MOST" 2000) rfl),
    g_MOST_DEEP := He.int_ok X G (c.t.d.fact 36 (f := .int "MOST_DEEP" 100) rfl),
    g_LimitError := ⟨(He.exc_ok (c.t.d.fact 37 (f := .exc "LimitError") rfl)).1, He.glo_ok X G (c.t.d.fact 38 (f := .glo "LimitError") rfl), (He.exc_ok (c.t.d.fact 37 (f := .exc "LimitError") rfl)).2.1, (He.exc_ok (c.t.d.fact 37 (f := .exc "LimitError") rfl)).2.2.1, (He.exc_ok (c.t.d.fact 37 (f := .exc "LimitError") rfl)).2.2.2⟩,
    m_LimitError := (fun n b e => by
      unfold mt_LimitError at e
      by_cases z : n = "LimitError"
      · subst z; rw [if_pos rfl] at e; cases e; exact He.exm_ok (c.t.d.fact 39 (f := .exm "LimitError" "LimitError" true) rfl)
      rw [if_neg z] at e; clear z
      cases e),
    tb_taken_rule := tb ("taken_rule", none) (by decide) }
  exact fnt_of F sc_law rfl rfl fun cdv A outer s H E hr tk hp => b_law T (all_ft T D 11) hr tk hp
end K66
open PySem PySem.W PySem.Calls PyProof.Rows
/-- the law, by its reading -/
theorem K66.holds_of (main : ∀ (x : Lx.AV) (h : Lx.AH) (ns : List Int), ns.length ≤ 63 → (∀ z ∈ ns, Builtin.Int.intBits z ≤ 1048576) → Lx.IsScript h x ns → K66.CT 12 K66.f_law [x] h (fun v _ => v = .bl true) fun _ _ => False) : PySem.Challenge.rw_lacuna_k66_cuts_that_double.Holds := by
  w_on; o_law
  refine HandSHeadRun.head_any (r := OpenLaw.row PySem.Challenge.rw_lacuna_k66_cuts_that_double) (q := view (OpenLaw.row PySem.Challenge.rw_lacuna_k66_cuts_that_double).prog [35]) (H := K66.hk) (ob := K66.ob) (M := 4000) (loose := ["LacunaError", "LimitError", "MOST", "MOST_DEEP", "has_more", "depth", "changed", "lift_term", "MANY_filling", "open_at", "open_term", "limited", "MANY_cutting", "LEAVES", "turned", "turned_rule", "taken_rule", "clauses", "joined", "rules_of", "goal_of", "spans", "places", "part_for", "fitted", "cut_rows", "cut", "_law_start", "_law_take", "_law_doubled"]) (d := HandSHeadRun.topDef (OpenLaw.row PySem.Challenge.rw_lacuna_k66_cuts_that_double).prog 35) (kwd := []) K66.ob_eq
    (by kernel_rfl) (fun s => by kernel_rfl) K66.run (by kernel_rfl) (by kernel_rfl) (by kernel_rfl) (by rfl) (by first | assumption | decide +kernel) (by decide +kernel) ⟨rfl, rfl, rfl, rfl, rfl, by decide +kernel⟩ ?hw ?hc
  case hw => w_witness2
  case hc =>
    refine LamX.walk_ofTsE (l := PySem.Challenge.rw_lacuna_k66_cuts_that_double) (n := 63) (k := 12) (x := "script") (CX := fun w => L2.CX (PySem.Challenge.rw_lacuna_k66_cuts_that_double).prog w) rfl (by decide) (by kernel_rfl) ⟨rfl, by decide, by decide⟩ ?F (fun _ _ _ _ _ ⟨_, _, _, _, _, _, _, _, _, _, _, _, z⟩ => z)
    intro w mg fa h Y G hmg0
    obtain ⟨K, KX, c⟩ := Y
    have hmg : mg ("law" : PySem.Str) = some (.ref fa) := by
      have e : (HandSHeadRun.topDef (OpenLaw.row PySem.Challenge.rw_lacuna_k66_cuts_that_double).prog 35).name = ("law" : PySem.Str) := by kernel_rfl
      rw [← e]
      exact hmg0
    obtain ⟨fd, hb, hF⟩ := K66.facts (P := (PySem.Challenge.rw_lacuna_k66_cuts_that_double).prog) (w := w) KX G hmg c
    refine ⟨K, KX, fd, K66.tf.map (He.cT K), _, fun p hp => ?_, fun p hp => ?_, fun p hp => ?_, hb, fun H a ns hl hb hT hS => Lx.law_sp (fun p hp => (let ⟨q, h1, h2⟩ := K66.tb_mem hp; h2 ▸ hT q h1)) hS fun x h i => main x h ns hl hb i, hF⟩
    · obtain ⟨q, hq, rfl⟩ := List.mem_map.mp hp
      exact c.empty q hq
    · obtain ⟨q, hq, rfl⟩ := List.mem_map.mp hp
      exact c.out q hq
    · obtain ⟨q, hq, rfl⟩ := List.mem_map.mp hp
      exact PySem.W.codeHd_of_K KX (c.hd q hq)

theorem PySem.Challenge.cw_lacuna_k66_cuts_that_double_holds : PySem.Challenge.rw_lacuna_k66_cuts_that_double.Holds :=
  K66.holds_of fun x h ns _ _ S => K66.main x h ns S

