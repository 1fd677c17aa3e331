import PyProof.Rows.All
import Wide.All
import OpenK.AllK
import Wide.FinOn
import Lean
import PySem.Challenge.RW_no0403_01
set_option Elab.async false
set_option bootstrap.genMatcherCode false
set_option genSizeOf false

section
set_option genInjectivity false
open PySem PySem.W PyProof.Rows PySem.Calls
set_option Elab.async false
namespace Mine

/-- values of the little machine: tuples and lists that nobody changes any more are held by their contents -/
inductive V where
  | none
  | bool (b : Bool)
  | int (i : Int)
  | bytes (b : List UInt8)
  | str (n : Nat)
  | ref (a : Nat)
  | t2 (a b : V)
  | t4 (a b c d : V)
  | lst (vs : List V)

noncomputable abbrev FZ := Nat → Option Obj
noncomputable abbrev tupO (xs : Array Value) (n : Nat) : Obj := { cls := .type "tuple", data := .seq xs n }
noncomputable abbrev lisO (xs : Array Value) (n : Nat) : Obj := { cls := .type "list", data := .seq xs n }
noncomputable abbrev barO (b : Array UInt8) : Obj := { cls := .type "bytearray", data := .bytearray b 0 }

mutual
inductive VR (z : FZ) : V → Value → Prop
  | none : VR z .none .none
  | bool (b : Bool) : VR z (.bool b) (.bool b)
  | int (i : Int) (t : Tok) : VR z (.int i) (.int i t)
  | bytes {b : List UInt8} (hb : b.length ≤ 1000000) (t : Tok) : VR z (.bytes b) (.bytes b.toArray t)
  | str {n : Nat} {x : Str} {t : Tok} : x.length ≤ n → VR z (.str n) (.str x t)
  | ref (a : Nat) : VR z (.ref a) (.ref a)
  | t2 {a : Nat} {v₁ v₂ : V} {u₁ u₂ : Value} {n : Nat} : z a = some (tupO #[u₁, u₂] n) → VR z v₁ u₁ → VR z v₂ u₂ → VR z (.t2 v₁ v₂) (.ref a)
  | t4 {a : Nat} {v₁ v₂ v₃ v₄ : V} {u₁ u₂ u₃ u₄ : Value} {n : Nat} : z a = some (tupO #[u₁, u₂, u₃, u₄] n) → VR z v₁ u₁ → VR z v₂ u₂ → VR z v₃ u₃ → VR z v₄ u₄ → VR z (.t4 v₁ v₂ v₃ v₄) (.ref a)
  | lst {a : Nat} {vs : List V} {us : List Value} {n : Nat} : vs.length ≤ 1000000 → z a = some (lisO us.toArray n) → VRs z vs us → VR z (.lst vs) (.ref a)
inductive VRs (z : FZ) : List V → List Value → Prop
  | nil : VRs z [] []
  | cons {v : V} {u : Value} {vs : List V} {us : List Value} : VR z v u → VRs z vs us → VRs z (v :: vs) (u :: us)
end

theorem VRs.ind {z : FZ} {P : List V → List Value → Prop} (hn : P [] []) (hc : ∀ {v u vs us}, VR z v u → VRs z vs us → P vs us → P (v :: vs) (u :: us)) : ∀ {vs us}, VRs z vs us → P vs us := by
  intro vs
  induction vs with
  | nil => intro us h; cases h; exact hn
  | cons v vs ih => intro us h; cases h with | cons a r => exact hc a r (ih r)
theorem VR.mono {z z' : FZ} (k : ∀ a o, z a = some o → z' a = some o) {v : V} {u : Value} (h : VR z v u) : VR z' v u :=
  VR.rec (motive_1 := fun v u _ => VR z' v u) (motive_2 := fun v u _ => VRs z' v u) .none .bool .int .bytes .str .ref (fun h _ _ a b => .t2 (k _ _ h) a b) (fun h _ _ _ _ a b c d => .t4 (k _ _ h) a b c d) (fun b h _ r => .lst b (k _ _ h) r) .nil (fun _ _ a r => .cons a r) h
/-- what stands for a value, by the value -/
noncomputable def VRi (z : FZ) (u : Value) : V → Prop
  | .none => u = .none
  | .bool b => u = .bool b
  | .int i => ∃ t, u = .int i t
  | .bytes b => ∃ t, u = .bytes b.toArray t ∧ b.length ≤ 1000000
  | .str n => ∃ x t, u = .str x t ∧ x.length ≤ n
  | .ref a => u = .ref a
  | .t2 v₁ v₂ => ∃ a u₁ u₂ n, u = .ref a ∧ z a = some (tupO #[u₁, u₂] n) ∧ VR z v₁ u₁ ∧ VR z v₂ u₂
  | .t4 v₁ v₂ v₃ v₄ => ∃ a u₁ u₂ u₃ u₄ n, u = .ref a ∧ z a = some (tupO #[u₁, u₂, u₃, u₄] n) ∧ VR z v₁ u₁ ∧ VR z v₂ u₂ ∧ VR z v₃ u₃ ∧ VR z v₄ u₄
  | .lst vs => ∃ a us n, u = .ref a ∧ z a = some (lisO (List.toArray us) n) ∧ VRs z vs us ∧ vs.length ≤ 1000000
theorem VR.inv {z : FZ} {v : V} {u : Value} (h : VR z v u) : VRi z u v := by
  cases h with
  | none => exact rfl
  | bool b => exact rfl
  | int i t => exact ⟨t, rfl⟩
  | bytes hb t => exact ⟨t, rfl, hb⟩
  | str hx => exact ⟨_, _, rfl, hx⟩
  | ref a => exact rfl
  | t2 e a b => exact ⟨_, _, _, _, rfl, e, a, b⟩
  | t4 e a b c d => exact ⟨_, _, _, _, _, _, rfl, e, a, b, c, d⟩
  | lst b e r => exact ⟨_, _, _, rfl, e, r, b⟩
theorem VR.none_i {z : FZ} {u : Value} (h : VR z .none u) : u = .none := h.inv
theorem VR.bool_i {z : FZ} {u : Value} {b : Bool} (h : VR z (.bool b) u) : u = .bool b := h.inv
theorem VR.int_i {z : FZ} {u : Value} {i : Int} (h : VR z (.int i) u) : ∃ t, u = .int i t := h.inv
theorem VR.bytes_i {z : FZ} {u : Value} {b : List UInt8} (h : VR z (.bytes b) u) : ∃ t, u = .bytes b.toArray t ∧ b.length ≤ 1000000 := h.inv
theorem VR.str_i {z : FZ} {u : Value} {n : Nat} (h : VR z (.str n) u) : ∃ x t, u = .str x t ∧ x.length ≤ n := h.inv
theorem VR.ref_i {z : FZ} {u : Value} {a : Nat} (h : VR z (.ref a) u) : u = .ref a := h.inv
theorem VR.t2_i {z : FZ} {u : Value} {v₁ v₂ : V} (h : VR z (.t2 v₁ v₂) u) : ∃ a u₁ u₂ n, u = .ref a ∧ z a = some (tupO #[u₁, u₂] n) ∧ VR z v₁ u₁ ∧ VR z v₂ u₂ := h.inv
theorem VR.t4_i {z : FZ} {u : Value} {v₁ v₂ v₃ v₄ : V} (h : VR z (.t4 v₁ v₂ v₃ v₄) u) : ∃ a u₁ u₂ u₃ u₄ n, u = .ref a ∧ z a = some (tupO #[u₁, u₂, u₃, u₄] n) ∧ VR z v₁ u₁ ∧ VR z v₂ u₂ ∧ VR z v₃ u₃ ∧ VR z v₄ u₄ := h.inv
theorem VR.lst_i {z : FZ} {u : Value} {vs : List V} (h : VR z (.lst vs) u) : ∃ a us n, u = .ref a ∧ z a = some (lisO (List.toArray us) n) ∧ VRs z vs us ∧ vs.length ≤ 1000000 := h.inv
theorem VRs.mono {z z' : FZ} (k : ∀ a o, z a = some o → z' a = some o) {v : List V} {u : List Value} (h : VRs z v u) : VRs z' v u := h.ind (P := VRs z') .nil fun a _ r => .cons (a.mono k) r

theorem VRs.length {z : FZ} {vs : List V} {us : List Value} (h : VRs z vs us) : vs.length = us.length := h.ind (P := fun vs us => vs.length = us.length) rfl fun _ _ e => congrArg (· + 1) e
theorem VRs.get {z : FZ} {vs : List V} {us : List Value} (h : VRs z vs us) : ∀ {i : Nat} {v}, vs[i]? = some v → ∃ u, us[i]? = some u ∧ VR z v u := fun {i v} =>
  h.ind (P := fun vs us => ∀ i v, vs[i]? = some v → ∃ u, us[i]? = some u ∧ VR z v u) (fun _ _ e => by cases e) (fun a _ ih i v e => by
    cases i with
    | zero => cases e; exact ⟨_, rfl, a⟩
    | succ i => exact ih i v e) i v
theorem VRs.get' {z : FZ} {vs : List V} {us : List Value} (h : VRs z vs us) : ∀ {i : Nat} {u}, us[i]? = some u → ∃ v, vs[i]? = some v ∧ VR z v u := fun {i u} =>
  h.ind (P := fun vs us => ∀ i u, us[i]? = some u → ∃ v, vs[i]? = some v ∧ VR z v u) (fun _ _ e => by cases e) (fun a _ ih i v e => by
    cases i with
    | zero => cases e; exact ⟨_, rfl, a⟩
    | succ i => exact ih i v e) i u
theorem VRs.append {z : FZ} {vs us vs' us'} (h : VRs z vs us) (h' : VRs z vs' us') : VRs z (vs ++ vs') (us ++ us') := h.ind (P := fun vs us => VRs z (vs ++ vs') (us ++ us')) h' fun a _ r => .cons a r
theorem VRs.set {z : FZ} {vs : List V} {us : List Value} (h : VRs z vs us) : ∀ {i : Nat} {v u}, VR z v u → VRs z (vs.set i v) (us.set i u) := fun {i v u} b =>
  h.ind (P := fun vs us => ∀ i, VRs z (vs.set i v) (us.set i u)) (fun _ => .nil) (fun a r ih i => by
    cases i with
    | zero => exact .cons b r
    | succ i => exact .cons a (ih i)) i
theorem VRs.take {z : FZ} {vs : List V} {us : List Value} (h : VRs z vs us) : ∀ (n : Nat), VRs z (vs.take n) (us.take n) :=
  h.ind (P := fun vs us => ∀ n, VRs z (vs.take n) (us.take n)) (fun n => by rw [List.take_nil, List.take_nil]; exact .nil) fun a _ ih n => by
    cases n with
    | zero => exact .nil
    | succ n => exact .cons a (ih n)
theorem VRs.of {z : FZ} {vs : List V} : ∀ {us : List Value}, vs.length = us.length → (∀ (i : Nat) (v : V) (u : Value), vs[i]? = some v → us[i]? = some u → VR z v u) → VRs z vs us := by
  induction vs with
  | nil => intro us h _; cases us with
    | nil => exact .nil
    | cons _ _ => cases h
  | cons v vs ih => intro us h k; cases us with
    | nil => cases h
    | cons u us => exact .cons (k 0 _ _ rfl rfl) (ih (Nat.succ.inj h) fun i v u a b => k (i + 1) v u a b)

/-- objects that the running function itself has made and may change -/
inductive MO where
  | lst (vs : List V)
  | barr (b : List UInt8)
  | ob (dx : Nat) (fs : List (Nat × V))
  | hid (a : Nat)

noncomputable abbrev HM := Nat → Option MO
noncomputable abbrev Loc := List (Option V)

noncomputable def lget : Loc → Nat → Option V
  | [], _ => none
  | v :: _, 0 => v
  | _ :: r, n + 1 => lget r n
noncomputable def lset : Loc → Nat → V → Loc
  | [], _, _ => []
  | _ :: r, 0, v => some v :: r
  | x :: r, n + 1, v => x :: lset r n v
noncomputable def up (H : HM) (a : Nat) (o : MO) : HM := fun x => if x = a then some o else H x
noncomputable def fget : List (Nat × V) → Nat → Option V
  | [], _ => none
  | p :: r, n => if p.1 = n then some p.2 else fget r n
noncomputable def fput : List (Nat × V) → Nat → V → List (Nat × V)
  | [], n, v => [(n, v)]
  | p :: r, n, v => if p.1 = n then (p.1, v) :: r else p :: fput r n v

theorem lget_lset_ne : ∀ (l : Loc) (i j : Nat) (v : V), j ≠ i → lget (lset l i v) j = lget l j
  | [], _, _, _, _ => rfl
  | _ :: _, 0, 0, _, h => absurd rfl h
  | _ :: _, 0, _ + 1, _, _ => rfl
  | _ :: _, _ + 1, 0, _, _ => rfl
  | _ :: r, i + 1, j + 1, v, h => lget_lset_ne r i j v fun e => h (by rw [e])
theorem lget_lset_eq : ∀ (l : Loc) (i : Nat) (v u : V), lget (lset l i v) i = some u → u = v
  | [], _, _, _, h => by simp [lset, lget] at h
  | _ :: _, 0, _, _, h => by simp only [lset, lget, Option.some.injEq] at h; exact h.symm
  | _ :: r, i + 1, v, u, h => lget_lset_eq r i v u (by simpa only [lset, lget] using h)
theorem up_self {H : HM} {a : Nat} {o : MO} : up H a o a = some o := by simp [up]
theorem up_ne {H : HM} {a b : Nat} {o : MO} (hn : b ≠ a) : up H a o b = H b := by simp [up, hn]
theorem up_up {H : HM} {a : Nat} {o o' : MO} : up (up H a o) a o' = up H a o' := by
  funext x; simp only [up]; split <;> rfl

/-- the names of the fields -/
noncomputable def fnm : List Str := ["data", "block", "check", "at", "block_end", "short", "skipped", "reasons", "torn", "good_length", "breaks"]

inductive ER (z : FZ) : List (Nat × V) → List DictEntry → Prop
  | nil : ER z [] []
  | cons {n x hsh t v u fs es} : fnm[n]? = some x → VR z v u → ER z fs es → ER z ((n, v) :: fs) (⟨hsh, .str x t, u⟩ :: es)
theorem ER.mono {z z' : FZ} (k : ∀ a o, z a = some o → z' a = some o) {fs es} (h : ER z fs es) : ER z' fs es := by
  induction h with
  | nil => exact .nil
  | cons a b _ r => exact .cons a (b.mono k) r

/-- what a tracked address bears -/
noncomputable def MR (C : Addr) (z : FZ) (H : HM) (h : Heap) (a : Nat) : MO → Prop
  | .lst vs => ∃ us n, h.get? a = some (lisO (List.toArray us) n) ∧ VRs z vs us ∧ vs.length ≤ 1000000
  | .barr b => h.get? a = some (barO b.toArray) ∧ b.length ≤ 1000000
  | .ob dx fs => h.get? a = some (instObj C dx) ∧ H dx = some (.hid a) ∧ ∃ es n, h.get? dx = some (dictOf es n) ∧ es.length ≤ 100 ∧ ER z fs es
  | .hid _ => ∃ o, h.get? a = some o

theorem MR.keep {C : Addr} {z z' : FZ} {H H' : HM} {h h' : Heap} {a : Nat} {o : MO} (x : MR C z H h a o) (kz : ∀ a o, z a = some o → z' a = some o) (k : ∀ x, h.get? a = some x → h'.get? a = some x)
    (kd : ∀ dx, H dx = some (.hid a) → H' dx = H dx ∧ ∀ x, h.get? dx = some x → h'.get? dx = some x) : MR C z' H' h' a o := by
  cases o with
  | lst vs => obtain ⟨us, n, e, r, b⟩ := x; exact ⟨us, n, k _ e, r.mono kz, b⟩
  | barr b => exact ⟨k _ x.1, x.2⟩
  | ob dx fs => obtain ⟨e, e1, es, n, e2, e3, e4⟩ := x; exact ⟨k _ e, (kd dx e1).1.trans e1, es, n, (kd dx e1).2 _ e2, e3, e4.mono kz⟩
  | hid b => obtain ⟨o, e⟩ := x; exact ⟨o, k _ e⟩
theorem MR.ex {C : Addr} {z : FZ} {H : HM} {h : Heap} {a : Nat} {o : MO} (x : MR C z H h a o) : ∃ ob, h.get? a = some ob := by
  cases o with
  | lst vs => obtain ⟨us, n, e, _⟩ := x; exact ⟨_, e⟩
  | barr b => exact ⟨_, x.1⟩
  | ob dx fs => exact ⟨_, x.1⟩
  | hid b => exact x

structure EnvOk (env : Env) : Prop where
  kind : env.scope.kind = .function
  glob : env.globals = mainGlobals
  built : env.builtins = builtinsNs

structure Sim (C : Addr) (bs : Heap) (env : Env) (nm : List Str) (z : FZ) (l : Loc) (H : HM) (h : Heap) : Prop where
  loc : ∃ m, h.Ns env.locals m ∧ ∀ i v x, lget l i = some v → nm[i]? = some x → env.kindOf x = some .local → ∃ u, m x = some u ∧ VR z v u
  cel : ∀ x c, env.cells.lookup x = some c → c ≠ env.locals ∧ H c = none ∧ bs.get? c = none ∧ ∃ cv, h.IsCell c cv ∧
    ∀ i v, lget l i = some v → nm[i]? = some x → env.kindOf x = some .cell → ∃ u, cv = some u ∧ VR z v u
  apart : ∀ x y c, env.cells.lookup x = some c → env.cells.lookup y = some c → x = y
  trk : ∀ a o, H a = some o → a ≠ env.locals ∧ MR C z H h a o
  fz : ∀ a o, z a = some o → h.get? a = some o ∧ H a = none ∧ a ≠ env.locals ∧ ∀ x, env.cells.lookup x ≠ some a
  base : ∀ b o, bs.get? b = some o → h.get? b = some o ∧ H b = none
  bl : bs.get? env.locals = none

/-- frozen things stay, new ones are new -/
structure FX (h : Heap) (z : FZ) (h' : Heap) (z' : FZ) : Prop where
  old : ∀ a o, z a = some o → z' a = some o
  new : ∀ a o, z' a = some o → h'.get? a = some o ∧ (z a = some o ∨ h.get? a = none)

theorem FX.refl {h h' : Heap} {z : FZ} (k : ∀ a o, z a = some o → h'.get? a = some o) : FX h z h' z := ⟨fun _ _ e => e, fun a o e => ⟨k a o e, .inl e⟩⟩
theorem FX.trans {h h₁ h₂ : Heap} {z z₁ z₂ : FZ} (x : FX h z h₁ z₁) (y : FX h₁ z₁ h₂ z₂) (k : ∀ a o, h.get? a = some o → h₁.get? a = some o) : FX h z h₂ z₂ :=
  ⟨fun a o e => y.old a o (x.old a o e), fun a o e => by
    obtain ⟨e1, e2⟩ := y.new a o e
    refine ⟨e1, ?_⟩
    rcases e2 with e2 | e2
    · exact (x.new a o e2).2
    · right
      cases q : h.get? a with
      | none => rfl
      | some o' => rw [k a o' q] at e2; cases e2⟩

section
variable {C : Addr} {bs : Heap} {env : Env} {nm : List Str} {z z' : FZ} {l : Loc} {H : HM} {h h' : Heap}

theorem Sim.none_of (S : Sim C bs env nm z l H h) {a : Nat} (ha : h.get? a = none) : H a = none := by
  cases q : H a with
  | none => rfl
  | some o => obtain ⟨ob, e⟩ := (S.trk a o q).2.ex; rw [ha] at e; cases e
theorem Sim.loc_some (S : Sim C bs env nm z l H h) : ∃ o, h.get? env.locals = some o := by
  obtain ⟨m, ⟨o, _, _, e, _⟩, _⟩ := S.loc; exact ⟨o, e⟩
theorem Sim.loc_dict (S : Sim C bs env nm z l H h) : ∃ o es n, h.get? env.locals = some o ∧ o.data = .dict es n := by
  obtain ⟨m, ⟨o, es, n, e, d, _⟩, _⟩ := S.loc; exact ⟨o, es, n, e, d⟩
theorem Sim.fresh_loc (S : Sim C bs env nm z l H h) {a : Nat} (ha : h.get? a = none) : a ≠ env.locals := by
  rintro rfl; obtain ⟨o, e⟩ := S.loc_some; rw [ha] at e; cases e
theorem Sim.fresh_cel (S : Sim C bs env nm z l H h) {a : Nat} (ha : h.get? a = none) (x : Str) : env.cells.lookup x ≠ some a := by
  intro e; obtain ⟨_, _, _, cv, ⟨o, e', _⟩, _⟩ := S.cel x a e; rw [ha] at e'; cases e'
theorem Sim.zk (S : Sim C bs env nm z l H h) : ∀ a o, z a = some o → h.get? a = some o := fun a o e => (S.fz a o e).1

theorem Sim.out (S : Sim C bs env nm z l H h) {b : Nat} (t : h.get? b = none ∨ ∃ o, H b = some o) : b ≠ env.locals ∧ (∀ x, env.cells.lookup x ≠ some b) ∧ (∀ o, z b ≠ some o) ∧ bs.get? b = none := by
  rcases t with e | ⟨o, e⟩
  · refine ⟨S.fresh_loc e, S.fresh_cel e, fun o q => (by rw [S.zk _ _ q] at e; cases e), ?_⟩
    cases q : bs.get? b with
    | none => rfl
    | some o => rw [(S.base b o q).1] at e; cases e
  · refine ⟨(S.trk b o e).1, fun x q => (by rw [(S.cel x b q).2.1] at e; cases e), fun o q => (by rw [(S.fz b o q).2.1] at e; cases e), ?_⟩
    cases q : bs.get? b with
    | none => rfl
    | some o => rw [(S.base b o q).2] at e; cases e
/-- the objects of T are changed or made, all others stay -/
theorem Sim.chg {T : Nat → Prop} {H' : HM} (S : Sim C bs env nm z l H h) (hT : ∀ b, T b → (b ≠ env.locals ∧ (∀ x, env.cells.lookup x ≠ some b) ∧ (∀ o, z b ≠ some o) ∧ bs.get? b = none) ∧ ∀ a, H b = some (.hid a) → T a)
    (kH : ∀ b, ¬ T b → H' b = H b) (k : ∀ b x, ¬ T b → h.get? b = some x → h'.get? b = some x) (ht : ∀ b o, T b → H' b = some o → MR C z' H' h' b o)
    (old : ∀ a o, z a = some o → z' a = some o) (new : ∀ a o, z' a = some o → z a = some o ∨ (h'.get? a = some o ∧ H' a = none ∧ (h.get? a = none ∨ T a))) : Sim C bs env nm z' l H' h' := by
  refine ⟨?_, fun x c e => ?_, S.apart, fun b x e => ?_, fun b x e => ?_, fun b x e => ?_, S.bl⟩
  · obtain ⟨m, n, r⟩ := S.loc
    exact ⟨m, n.at' fun x e => k _ x (fun t => (hT _ t).1.1 rfl) e, fun i v x a b c => let ⟨u, p, q⟩ := r i v x a b c; ⟨u, p, q.mono old⟩⟩
  · obtain ⟨a1, a2, a3, cv, ⟨oc, a4, a5⟩, a6⟩ := S.cel x c e
    have hn : ¬ T c := fun t => (hT _ t).1.2.1 x e
    exact ⟨a1, (kH c hn).trans a2, a3, cv, ⟨oc, k _ _ hn a4, a5⟩, fun i v p q r => let ⟨u, p, q⟩ := a6 i v p q r; ⟨u, p, q.mono old⟩⟩
  · by_cases t : T b
    · exact ⟨(hT b t).1.1, ht b x t e⟩
    · obtain ⟨q1, q2⟩ := S.trk b x ((kH b t).symm.trans e)
      exact ⟨q1, q2.keep old (k b · t) fun dx p1 => have hd : ¬ T dx := fun t' => t ((hT dx t').2 b p1); ⟨kH dx hd, (k dx · hd)⟩⟩
  · rcases new b x e with e' | ⟨e1, e2, e3⟩
    · obtain ⟨q1, q2, q3⟩ := S.fz b x e'
      have hn : ¬ T b := fun t => (hT _ t).1.2.2.1 _ e'
      exact ⟨k _ _ hn q1, (kH b hn).trans q2, q3⟩
    · have o := e3.elim (fun r => S.out (.inl r)) fun r => (hT b r).1
      exact ⟨e1, e2, o.1, o.2.1⟩
  · obtain ⟨q1, q2⟩ := S.base b x e
    have hn : ¬ T b := fun t => by rw [(hT _ t).1.2.2.2] at e; cases e
    exact ⟨k _ _ hn q1, (kH b hn).trans q2⟩
/-- a grown heap keeps all -/
theorem Sim.step (S : Sim C bs env nm z l H h) (k : ∀ b o, h.get? b = some o → h'.get? b = some o) (f : FX h z h' z') : Sim C bs env nm z' l H h' :=
  S.chg (T := fun _ => False) (fun _ t => t.elim) (fun _ _ => rfl) (fun b x _ => k b x) (fun _ _ t => t.elim) f.old fun a o e => (f.new a o e).2.imp id fun q => ⟨(f.new a o e).1, S.none_of q, .inl q⟩
/-- one tracked object is turned -/
theorem Sim.turn (S : Sim C bs env nm z l H h) {a : Nat} {o o' : MO} (ha : H a = some o) (hno : ∀ b, o ≠ .hid b) (k : ∀ b x, b ≠ a → h.get? b = some x → h'.get? b = some x) (hb : MR C z (up H a o') h' a o') :
    Sim C bs env nm z l (up H a o') h' :=
  S.chg (T := (· = a)) (fun _ t => ⟨S.out (.inr ⟨o, t ▸ ha⟩), fun c e => absurd (by rw [t, ha] at e; exact Option.some.inj e) (hno c)⟩) (fun _ t => up_ne t) k (fun b x t e => by cases t; rw [up_self] at e; cases e; exact hb) (fun _ _ e => e) fun _ _ e => .inl e
/-- a reader's fields are turned -/
theorem Sim.turnOb (S : Sim C bs env nm z l H h) {a dx : Nat} {fs fs' : List (Nat × V)} {es' : List DictEntry} {n' : Nat} (ha : H a = some (.ob dx fs)) (k : ∀ b x, b ≠ dx → h.get? b = some x → h'.get? b = some x)
    (hb : h'.get? dx = some (dictOf es' n')) (hz : es'.length ≤ 100) (hr : ER z fs' es') :
    Sim C bs env nm z l (up H a (.ob dx fs')) h' := by
  obtain ⟨_, h2, h3, _⟩ := S.trk a _ ha
  have nda : a ≠ dx := fun q => by rw [q, h3] at ha; cases ha
  refine S.chg (T := fun b => b = a ∨ b = dx) (fun b t => ?_) (fun b t => up_ne fun q => t (.inl q)) (fun b x t => k b x fun q => t (.inr q)) (fun b x t e => ?_) (fun _ _ e => e) fun _ _ e => .inl e
  · rcases t with rfl | rfl
    · exact ⟨S.out (.inr ⟨_, ha⟩), fun c e => by rw [ha] at e; cases e⟩
    · exact ⟨S.out (.inr ⟨_, h3⟩), fun c e => by rw [h3] at e; cases e; exact .inl rfl⟩
  · have h3' : up H a (.ob dx fs') dx = some (.hid a) := (up_ne (Ne.symm nda)).trans h3
    rcases t with rfl | rfl
    · rw [up_self] at e; cases e
      exact ⟨k _ _ nda h2, h3', es', n', hb, hz, hr⟩
    · rw [h3'] at e; cases e
      exact ⟨_, hb⟩
/-- a new object -/
theorem Sim.new (S : Sim C bs env nm z l H h) {a : Nat} {o' : MO} (ha : h.get? a = none) (hno : ∀ dx fs, o' ≠ .ob dx fs) (k : ∀ b x, h.get? b = some x → h'.get? b = some x) (hb : MR C z H h' a o') :
    Sim C bs env nm z l (up H a o') h' :=
  S.chg (T := (· = a)) (fun b t => ⟨S.out (.inl (t ▸ ha)), fun c e => by rw [t, S.none_of ha] at e; cases e⟩) (fun _ t => up_ne t) (fun b x _ => k b x) (fun b x t e => by
    cases t; rw [up_self] at e; cases e
    cases o' with
    | lst vs => exact hb
    | barr b' => exact hb
    | ob dx fs => exact absurd rfl (hno dx fs)
    | hid b' => exact hb) (fun _ _ e => e) fun _ _ e => .inl e
end
theorem ref_inv {o : Option V} {P : Nat → Prop} (h : match o with
      | some (.ref a) => P a
      | _ => False) : ∃ a, o = some (.ref a) ∧ P a := by
  cases o with
  | none => exact h.elim
  | some v => cases v <;> first | exact h.elim | exact ⟨_, rfl, h⟩
theorem lstH_inv {o : Option MO} {P : List V → Prop} (h : match o with
      | some (.lst a) => P a
      | _ => False) : ∃ a, o = some (.lst a) ∧ P a := by
  cases o with
  | none => exact h.elim
  | some v => cases v <;> first | exact h.elim | exact ⟨_, rfl, h⟩
theorem barH_inv {o : Option MO} {P : List UInt8 → Prop} (h : match o with
      | some (.barr a) => P a
      | _ => False) : ∃ a, o = some (.barr a) ∧ P a := by
  cases o with
  | none => exact h.elim
  | some v => cases v <;> first | exact h.elim | exact ⟨_, rfl, h⟩
theorem obH_inv {o : Option MO} {P : Nat → List (Nat × V) → Prop} (h : match o with
      | some (.ob d a) => P d a
      | _ => False) : ∃ d a, o = some (.ob d a) ∧ P d a := by
  cases o with
  | none => exact h.elim
  | some v => cases v <;> first | exact h.elim | exact ⟨_, _, rfl, h⟩
theorem som_inv {o : Option V} {P : V → Prop} (h : match o with
      | some a => P a
      | _ => False) : ∃ a, o = some a ∧ P a := by
  cases o with
  | none => exact h.elim
  | some v => exact ⟨_, rfl, h⟩

theorem t2_inv {v : V} {P : V → V → Prop} (h : match v with
      | .t2 a b => P a b
      | _ => False) : ∃ a b, v = .t2 a b ∧ P a b := by
  cases v <;> first | exact h.elim | exact ⟨_, _, rfl, h⟩
theorem t4_inv {v : V} {P : V → V → V → V → Prop} (h : match v with
      | .t4 a b c d => P a b c d
      | _ => False) : ∃ a b c d, v = .t4 a b c d ∧ P a b c d := by
  cases v <;> first | exact h.elim | exact ⟨_, _, _, _, rfl, h⟩
theorem bb_inv {v u : V} {P : List UInt8 → List UInt8 → Prop} (h : match v, u with
      | .bytes x, .bytes y => P x y
      | _, _ => False) : ∃ x y, v = .bytes x ∧ u = .bytes y ∧ P x y := by
  cases v <;> (try exact h.elim)
  cases u <;> (try exact h.elim)
  exact ⟨_, _, rfl, rfl, h⟩
theorem opt_inv {o : Option V} {P : V → Prop} (h : match o with
      | some a => P a
      | none => False) : ∃ a, o = some a ∧ P a := by
  cases o with
  | none => exact h.elim
  | some v => exact ⟨_, rfl, h⟩
/-- the goal under a name of its own, so that the steps to it need not repeat it -/
theorem pvar {G : Prop} (h : ∀ P : Prop, (G → P) → P) : G := h G id
theorem ite_inv {c : Prop} [Decidable c] {p q : Prop} (h : if c then p else q) : (c ∧ p) ∨ q :=
  if hc : c then .inl ⟨hc, by rwa [if_pos hc] at h⟩ else .inr (by rwa [if_neg hc] at h)
end Mine
end

section
set_option genInjectivity false
open PySem PySem.W PyProof.Rows PySem.Calls
set_option Elab.async false
namespace Mine

noncomputable def PX (s : Shared) (z : FZ) (s' : Shared) (z' : FZ) : Prop := Keeps s s' ∧ FX s.heap z s'.heap z'

theorem Keeps.refl' (s : Shared) : Keeps s s := ⟨s.heap, s.toks, rfl, fun _ _ e => e⟩
theorem Keeps.trans' {s₁ s₂ s₃ : Shared} (x : Keeps s₁ s₂) (y : Keeps s₂ s₃) : Keeps s₁ s₃ := by
  obtain ⟨h, t, rfl, k⟩ := x
  obtain ⟨h', t', rfl, k'⟩ := y
  exact ⟨h', t', rfl, fun b o e => k' b o (k b o e)⟩
theorem Keeps.keep {s s' : Shared} (x : Keeps s s') : ∀ b o, s.heap.get? b = some o → s'.heap.get? b = some o := by
  obtain ⟨h, t, rfl, k⟩ := x; exact k
theorem PX.toks {s : Shared} {z : FZ} (k : Nat) (zk : ∀ a o, z a = some o → s.heap.get? a = some o) : PX s z { s with toks := k } z := ⟨⟨_, _, rfl, fun _ _ e => e⟩, .refl zk⟩
theorem PX.self {s : Shared} {z : FZ} (zk : ∀ a o, z a = some o → s.heap.get? a = some o) : PX s z s z := PX.toks s.toks zk
theorem PX.trans {s s₁ s₂ : Shared} {z z₁ z₂ : FZ} (x : PX s z s₁ z₁) (y : PX s₁ z₁ s₂ z₂) : PX s z s₂ z₂ := ⟨Keeps.trans' x.1 y.1, x.2.trans y.2 (Keeps.keep x.1)⟩
theorem PX.grow {s s' : Shared} {z : FZ} (k : Keeps s s') (zk : ∀ a o, z a = some o → s.heap.get? a = some o) : PX s z s' z := ⟨k, .refl fun a o e => Keeps.keep k a o (zk a o e)⟩
theorem PX.zk {s s' : Shared} {z z' : FZ} (x : PX s z s' z') : ∀ a o, z' a = some o → s'.heap.get? a = some o := fun a o e => (x.2.new a o e).1
theorem PX.old {s s' : Shared} {z z' : FZ} (x : PX s z s' z') : ∀ a o, z a = some o → z' a = some o := x.2.old

/-- the tree gives a value with P, changing nothing -/
noncomputable def Ge (prog : Program) (w : World) (A : Around) (t : Sem Value) (P : V → Prop) (z : FZ) (s : Shared) : Prop :=
  ∀ (Q : Value → Shared → Prop) (E : Value → Shared → Prop), (∀ v u s' z', P v → PX s z s' z' → VR z' v u → Q u s') → wpAny (model prog w) A t Q E s
/-- the same of a truth -/
noncomputable def Gb (prog : Program) (w : World) (A : Around) (t : Sem Bool) (P : Bool → Prop) (z : FZ) (s : Shared) : Prop :=
  ∀ (Q : Bool → Shared → Prop) (E : Value → Shared → Prop), (∀ b s' z', P b → PX s z s' z' → Q b s') → wpAny (model prog w) A t Q E s

inductive Op | add | sub | mul | fdiv | mod | band | bor | bxor | shl | shr
inductive Cp | lt | le | gt | ge | eq | ne
noncomputable def Op.to : Op → Operator
  | .add => .Add | .sub => .Sub | .mul => .Mult | .fdiv => .FloorDiv | .mod => .Mod | .band => .BitAnd | .bor => .BitOr | .bxor => .BitXor | .shl => .LShift | .shr => .RShift
noncomputable def Cp.to : Cp → CmpOp
  | .lt => .Lt | .le => .LtE | .gt => .Gt | .ge => .GtE | .eq => .Eq | .ne => .NotEq

noncomputable abbrev Sm (i : Int) : Prop := -9223372036854775808 ≤ i ∧ i < 9223372036854775808

/-- both are whole numbers -/
noncomputable def II (v u : V) (f : Int → Int → Prop) : Prop := match v with
  | .int a => (match u with | .int b => f a b | _ => False)
  | _ => False
noncomputable def BB (v u : V) (f : List UInt8 → List UInt8 → Prop) : Prop := match v with
  | .bytes a => (match u with | .bytes b => f a b | _ => False)
  | _ => False
noncomputable def SS (v u : V) (f : Nat → Nat → Prop) : Prop := match v with
  | .str a => (match u with | .str b => f a b | _ => False)
  | _ => False
noncomputable def OO (v u : V) (f : Bool → Bool → Prop) : Prop := match v with
  | .bool a => (match u with | .bool b => f a b | _ => False)
  | _ => False
theorem II_inv {v u : V} {f : Int → Int → Prop} (h : II v u f) : ∃ a b, v = .int a ∧ u = .int b ∧ f a b := by
  cases v <;> try exact h.elim
  cases u <;> try exact h.elim
  exact ⟨_, _, rfl, rfl, h⟩
theorem BB_inv {v u : V} {f : List UInt8 → List UInt8 → Prop} (h : BB v u f) : ∃ a b, v = .bytes a ∧ u = .bytes b ∧ f a b := by
  cases v <;> try exact h.elim
  cases u <;> try exact h.elim
  exact ⟨_, _, rfl, rfl, h⟩
theorem SS_inv {v u : V} {f : Nat → Nat → Prop} (h : SS v u f) : ∃ a b, v = .str a ∧ u = .str b ∧ f a b := by
  cases v <;> try exact h.elim
  cases u <;> try exact h.elim
  exact ⟨_, _, rfl, rfl, h⟩
theorem OO_inv {v u : V} {f : Bool → Bool → Prop} (h : OO v u f) : ∃ a b, v = .bool a ∧ u = .bool b ∧ f a b := by
  cases v <;> try exact h.elim
  cases u <;> try exact h.elim
  exact ⟨_, _, rfl, rfl, h⟩
theorem II_go {z : FZ} {v u : V} {x y : Value} {f : Int → Int → Prop} (h : II v u f) (hx : VR z v x) (hy : VR z u y) : ∃ a b t t', x = .int a t ∧ y = .int b t' ∧ f a b := by
  obtain ⟨a, b, rfl, rfl, h⟩ := II_inv h
  obtain ⟨t, rfl⟩ := hx.int_i
  obtain ⟨t', rfl⟩ := hy.int_i
  exact ⟨a, b, t, t', rfl, rfl, h⟩
theorem BB_go {z : FZ} {v u : V} {x y : Value} {f : List UInt8 → List UInt8 → Prop} (h : BB v u f) (hx : VR z v x) (hy : VR z u y) : ∃ a b t t', x = .bytes (List.toArray a) t ∧ y = .bytes (List.toArray b) t' ∧ f a b := by
  obtain ⟨a, b, rfl, rfl, h⟩ := BB_inv h
  obtain ⟨t, rfl, _⟩ := hx.bytes_i
  obtain ⟨t', rfl, _⟩ := hy.bytes_i
  exact ⟨a, b, t, t', rfl, rfl, h⟩
noncomputable def addS (v u : V) (Q : V → Prop) : Prop := match v with
  | .int _ => II v u fun a b => Q (.int (a + b))
  | .bytes _ => BB v u fun a b => a.length + b.length ≤ 1000000 ∧ Q (.bytes (a ++ b))
  | _ => SS v u fun a b => a + b ≤ 1000 ∧ Q (.str (a + b))
theorem addS_inv {v u : V} {Q : V → Prop} (h : addS v u Q) : (II v u fun a b => Q (.int (a + b))) ∨ (BB v u fun a b => a.length + b.length ≤ 1000000 ∧ Q (.bytes (a ++ b))) ∨ SS v u fun a b => a + b ≤ 1000 ∧ Q (.str (a + b)) := by
  cases v <;> first | exact .inl h | exact .inr (.inl h) | exact .inr (.inr h)
noncomputable def binS (op : Op) (v u : V) (Q : V → Prop) : Prop := match op with
  | .add => addS v u Q
  | .sub => II v u fun a b => Q (.int (a - b))
  | .mul => II v u fun a b => Sm a ∧ Q (.int (a * b))
  | .fdiv => II v u fun a b => (0 < b ∧ Sm b) ∧ Q (.int (a / b))
  | .mod => II v u fun a b => 0 < b ∧ Q (.int (a % b))
  | .band => II v u fun a b => (0 ≤ a ∧ 0 ≤ b) ∧ Q (.int ((a.toNat &&& b.toNat : Nat) : Int))
  | .bor => II v u fun a b => (0 ≤ a ∧ 0 ≤ b) ∧ Q (.int ((a.toNat ||| b.toNat : Nat) : Int))
  | .bxor => II v u fun a b => (0 ≤ a ∧ 0 ≤ b) ∧ Q (.int ((a.toNat ^^^ b.toNat : Nat) : Int))
  | .shl => II v u fun a b => (Sm a ∧ 0 ≤ b ∧ b ≤ 64) ∧ Q (.int (a * 2 ^ b.toNat))
  | .shr => II v u fun a b => 0 ≤ b ∧ Q (.int (a / 2 ^ b.toNat))

noncomputable def eqS (v u : V) (Q : Bool → Prop) : Prop := match v with
  | .int _ => II v u fun a b => Q (decide (a = b))
  | _ => BB v u fun a b => Q (decide (a = b))
noncomputable def neS (v u : V) (Q : Bool → Prop) : Prop := match v with
  | .int _ => II v u fun a b => Q (decide (a ≠ b))
  | .bytes _ => BB v u fun a b => Q (decide (a ≠ b))
  | _ => OO v u fun a b => Q (decide (a ≠ b))
theorem eqS_inv {v u : V} {Q : Bool → Prop} (h : eqS v u Q) : (II v u fun a b => Q (decide (a = b))) ∨ BB v u fun a b => Q (decide (a = b)) := by
  cases v <;> first | exact .inl h | exact .inr h
theorem neS_inv {v u : V} {Q : Bool → Prop} (h : neS v u Q) : (II v u fun a b => Q (decide (a ≠ b))) ∨ (BB v u fun a b => Q (decide (a ≠ b))) ∨ OO v u fun a b => Q (decide (a ≠ b)) := by
  cases v <;> first | exact .inl h | exact .inr (.inl h) | exact .inr (.inr h)
noncomputable def cmpS (op : Cp) (v u : V) (Q : Bool → Prop) : Prop := match op with
  | .lt => II v u fun a b => Q (decide (a < b))
  | .le => II v u fun a b => Q (decide (a ≤ b))
  | .gt => II v u fun a b => Q (decide (b < a))
  | .ge => II v u fun a b => Q (decide (b ≤ a))
  | .eq => eqS v u Q
  | .ne => neS v u Q

theorem bor_pp {x y : Int} (hx : 0 ≤ x) (hy : 0 ≤ y) : Builtin.bitOr x y = ((x.toNat ||| y.toNat : Nat) : Int) := by
  rw [bitOr_and, bitAnd_pp hx hy]
  have := nat_or_add_and x.toNat y.toNat
  omega
theorem nat_xor_and : ∀ (m n : Nat), (m ^^^ n) + 2 * (m &&& n) = m + n := by
  intro m
  induction m using Nat.strongRecOn with
  | ind m ih =>
    intro n
    by_cases h0 : m = 0
    · subst h0; simp
    · have ih' := ih (m / 2) (by omega) (n / 2)
      rw [← Nat.xor_div_two, ← Nat.and_div_two] at ih'
      have key : (m ^^^ n) % 2 + 2 * ((m &&& n) % 2) = m % 2 + n % 2 := by
        have hx := @Nat.xor_mod_two_pow m n 1
        have ha := @Nat.and_mod_two_pow m n 1
        rw [Nat.pow_one] at hx ha
        rw [hx, ha]
        rcases Nat.mod_two_eq_zero_or_one m with hm | hm <;> rcases Nat.mod_two_eq_zero_or_one n with hn | hn <;> rw [hm, hn] <;> rfl
      clear ih h0
      generalize m ^^^ n = x at *
      generalize m &&& n = y at *
      omega
theorem bxor_pp {x y : Int} (hx : 0 ≤ x) (hy : 0 ≤ y) : Builtin.bitXor x y = ((x.toNat ^^^ y.toNat : Nat) : Int) := by
  unfold Builtin.bitXor
  rw [bitOr_and, bitAnd_pp hx hy]
  have := nat_xor_and x.toNat y.toNat
  omega
theorem bits_small {a : Int} (h : Sm a) : Builtin.Int.intBits a ≤ 64 := by
  unfold Builtin.Int.intBits
  split
  · omega
  · rename_i h0
    have : a.natAbs < 2 ^ 64 := by omega
    have h1 : a.natAbs ≠ 0 := by simpa using h0
    have := (Nat.log2_lt h1).mpr this
    omega
theorem nopylong_small {a b : Int} (h : Sm b) : Builtin.divisionGoesByPylong a b = false := by
  unfold Builtin.divisionGoesByPylong
  have hb : (if (b == 0) = true then 0 else b.natAbs.log2 / 30 + 1) ≤ 300 := by
    split
    · omega
    · rename_i h0
      have h1 : b.natAbs ≠ 0 := by simpa using h0
      have : b.natAbs < 2 ^ 64 := by omega
      have := (Nat.log2_lt h1).mpr this
      omega
  simp only [Bool.and_eq_false_iff, decide_eq_false_iff_not]
  left; omega

section
variable {prog : Program} {w : World} {A : Around} {s : Shared} {z : FZ}

theorem bin_sound {op : Op} {a b : V} {ua ub : Value} {P : V → Prop} (zk : ∀ a o, z a = some o → s.heap.get? a = some o) (ha : VR z a ua) (hb : VR z b ub) (h : binS op a b P) : Ge prog w A (binaryOp op.to ua ub) P z s := by
  intro Q E k
  refine pvar fun G g => ?_
  have T := fun n => PX.toks (s := s) n zk
  cases op
  case add =>
    rcases addS_inv h with h | h | h
    · obtain ⟨a, b, t, t', rfl, rfl, h⟩ := II_go h ha hb
      exact g <| add_int (k _ _ _ _ h (T _) (.int _ _))
    · obtain ⟨a, b, t, t', rfl, rfl, h1, h2⟩ := BB_go h ha hb
      exact g <| bytes_add_K (by simp; omega) rfl fun t' n => k _ _ _ _ h2 (T _) (.bytes (by simp; omega) _)
    · obtain ⟨a, b, rfl, rfl, h1, h2⟩ := SS_inv h
      obtain ⟨x1, t, rfl, q1⟩ := ha.str_i
      obtain ⟨x2, t', rfl, q2⟩ := hb.str_i
      exact g <| add_str (fun t' n => k _ _ _ _ h2 (T _) (.str (by rw [Str.length_append]; omega))) (by rw [sizeLine_eq]; omega)
  all_goals
    obtain ⟨a, b, t, t', rfl, rfl, h⟩ := II_go h ha hb
  · exact g <| sub_int (k _ _ _ _ h (T _) (.int _ _))
  · exact g <| mul_int (k _ _ _ _ h.2 (T _) (.int _ _)) (IntMulOk.of_left (bits_small h.1))
  · obtain ⟨⟨h1, h2⟩, h3⟩ := h
    refine g <| floordiv_int (by omega) (k _ _ _ _ h3 (T _) ?_) (.inl (nopylong_small h2))
    rw [Int.fdiv_eq_ediv_of_nonneg _ (by omega)]; exact .int _ _
  · obtain ⟨h1, h3⟩ := h
    refine g <| mod_int' (by omega) (k _ _ _ _ h3 (T _) ?_)
    rw [Int.fmod_eq_emod_of_nonneg _ (by omega)]; exact .int _ _
  · obtain ⟨⟨h1, h2⟩, h3⟩ := h
    refine g <| and_int (k _ _ _ _ h3 (T _) ?_)
    rw [bitAnd_pp h1 h2]; exact .int _ _
  · obtain ⟨⟨h1, h2⟩, h3⟩ := h
    refine g <| or_int (k _ _ _ _ h3 (T _) ?_)
    rw [bor_pp h1 h2]; exact .int _ _
  · obtain ⟨⟨h1, h2⟩, h3⟩ := h
    refine g <| xor_int (k _ _ _ _ h3 (T _) ?_)
    rw [bxor_pp h1 h2]; exact .int _ _
  · obtain ⟨⟨h1, h2, h4⟩, h3⟩ := h
    exact g <| lshift_int_small h2 (by omega) (by omega) (k _ _ _ _ h3 (T _) (.int _ _))
  · obtain ⟨h1, h3⟩ := h
    refine g <| rshift_int h1 (k _ _ _ _ h3 (T _) ?_)
    rw [Int.fdiv_eq_ediv_of_nonneg _ (Int.le_of_lt (Int.pow_pos (by decide)))]; exact .int _ _

theorem cmp_sound {op : Cp} {a b : V} {ua ub : Value} {P : Bool → Prop} (zk : ∀ a o, z a = some o → s.heap.get? a = some o) (ha : VR z a ua) (hb : VR z b ub) (h : cmpS op a b P) :
    Ge prog w A (compareOp op.to ua ub) (fun v => ∃ b, v = .bool b ∧ P b) z s := by
  intro Q E k
  refine pvar fun G g => ?_
  have T := PX.self zk
  have k' : ∀ b c, P b → b = c → Q (.bool c) s := fun b c p e => k (.bool b) _ _ _ ⟨b, rfl, p⟩ T (e ▸ .bool b)
  cases op
  case eq =>
    rcases eqS_inv h with h | h
    · obtain ⟨a, b, t, t', rfl, rfl, h⟩ := II_go h ha hb
      exact g <| eq_int (k' _ _ h (by rw [Bool.eq_iff_iff]; simp))
    · obtain ⟨a, b, t, t', rfl, rfl, h⟩ := BB_go h ha hb
      exact g <| eq_bytes (k' _ _ h (by rw [Bool.eq_iff_iff]; simp))
  case ne =>
    rcases neS_inv h with h | h | h
    · obtain ⟨a, b, t, t', rfl, rfl, h⟩ := II_go h ha hb
      exact g <| ne_int (k' _ _ h (by rw [Bool.eq_iff_iff]; simp))
    · obtain ⟨a, b, t, t', rfl, rfl, h⟩ := BB_go h ha hb
      exact g <| ne_bytes (k' _ _ h (by rw [Bool.eq_iff_iff]; simp))
    · obtain ⟨a, b, rfl, rfl, h⟩ := OO_inv h
      obtain rfl := ha.bool_i
      obtain rfl := hb.bool_i
      exact g <| SeqAt.RcNeAt.bool_bool _ _ prog w E Q (k' _ _ h (by rw [Bool.eq_iff_iff]; simp))
  all_goals
    obtain ⟨a, b, t, t', rfl, rfl, h⟩ := II_go h ha hb
  · exact g <| lt_int (k' _ _ h rfl)
  · exact g <| le_int (k' _ _ h rfl)
  · exact g <| gt_int (k' _ _ h rfl)
  · exact g <| ge_int (k' _ _ h rfl)
end
end Mine
end

section
set_option genInjectivity false
open PySem PySem.W PyProof.Rows PySem.Calls
set_option Elab.async false
namespace Mine

/-- what stands since before the call of law -/
structure Gl (K : Frag) (mg mb : Str → Option Value) (C : Addr) (bs : Heap) : Prop where
  X : K.In bs
  g : bs.Ns mainGlobals mg
  b : bs.Ns builtinsNs mb
  bi : ∀ x : Str, x ≠ "__name__" → mb x = bootBuiltins x
  lim : bs.NoLimit

structure AOk (k : Nat) (A : Around) : Prop where
  hd : A.handled = none
  dp : A.depth + k < 900
  un : A.units + 10 * k + 20 < cLine

noncomputable def BsIn (bs : Heap) (s : Shared) : Prop := ∀ b o, bs.get? b = some o → s.heap.get? b = some o

section
variable {prog : Program} {w : World} {A : Around} {s : Shared} {z : FZ} {E : Value → Shared → Prop} {Q : Value → Shared → Prop}

/-- truth of a value -/
noncomputable def trS : V → (Bool → Prop) → Prop
  | .bool b, Q => Q b
  | .int i, Q => Q (decide (i ≠ 0))
  | .none, Q => Q false
  | _, _ => False

theorem tr_sound {v : V} {u : Value} {P : Bool → Prop} (zk : ∀ a o, z a = some o → s.heap.get? a = some o) (hv : VR z v u) (h : trS v P) : Gb prog w A (truthy u) P z s := by
  intro Q E k
  refine pvar fun G g => ?_
  cases v <;> (try exact h.elim)
  · obtain rfl := hv.none_i; exact g <| truthy_none (k _ _ _ h (.self zk))
  · obtain rfl := hv.bool_i; exact g <| wpAny_truthy_bool (k _ _ _ h (.self zk))
  · rename_i i
    obtain ⟨t, rfl⟩ := hv.int_i
    have e : (i != (0 : Int)) = decide (i ≠ (0 : Int)) := by rw [Bool.eq_iff_iff]; simp
    refine g <| truthy_int ?_
    rw [e]
    exact k _ _ _ h (.self zk)

/-- items -/
noncomputable def idxS (H : HM) : V → V → (V → Prop) → Prop
  | .bytes b, .int i, Q => (0 ≤ i ∧ i < b.length) ∧ Q (.int (b.getD i.toNat 0).toNat)
  | .lst vs, .int i, Q => (0 ≤ i ∧ i < vs.length) ∧ Q (vs.getD i.toNat .none)
  | .ref a, .int i, Q => match H a with
    | some (.lst vs) => (0 ≤ i ∧ i < vs.length) ∧ Q (vs.getD i.toNat .none)
    | _ => False
  | .t2 a b, .int i, Q => if i = 0 then Q a else if i = 1 then Q b else False
  | .t4 a b c d, .int i, Q => if i = 0 then Q a else if i = 1 then Q b else if i = 2 then Q c else if i = 3 then Q d else False
  | _, _, _ => False

theorem list_item {value slice : Expr} {a : Addr} {vs : List V} {us : List Value} {n : Nat} {i : Int} {t : Tok} {P : V → Prop} (zk : ∀ a o, z a = some o → s.heap.get? a = some o) (ho : s.heap.get? a = some (lisO us.toArray n)) (hr : VRs z vs us) (hb : vs.length ≤ 1000000)
    (hsl : ∀ o i, subscripted slice false o i = operate [o, i] (getItem o i)) (h0 : 0 ≤ i) (h1 : i < vs.length) (h : P (vs.getD i.toNat .none)) : Ge prog w A (subscriptTail value slice (.ref a) (.int i t)) P z s := by
  intro Q E k
  have hlt : i.toNat < vs.length := by omega
  have e : vs[i.toNat]? = some (vs.getD i.toNat .none) := by simp [List.getD_eq_getElem?_getD, hlt]
  obtain ⟨u, hu, hv⟩ := hr.get e
  have hl : s.heap.IsList a us.toArray := ⟨_, ho, rfl, _, rfl⟩
  exact tail_any hl.typeIs slot_list_getitem.lookup (wpAny_getItem_list hl h0 (by omega) (by simpa using hu) (k _ _ _ _ h (.self zk) hv)) (hsl _ _)
theorem tup_item {value slice : Expr} {a : Addr} {us : List Value} {n : Nat} {i : Int} {t : Tok} {u : Value} (ho : s.heap.get? a = some (tupO us.toArray n))
    (hsl : ∀ o i, subscripted slice false o i = operate [o, i] (getItem o i)) (h0 : 0 ≤ i) (h1 : i ≤ 1000000) (hu : us[i.toNat]? = some u) (h : Q u s) : wpAny (model prog w) A (subscriptTail value slice (.ref a) (.int i t)) Q E s := by
  have ht : IsTup s.heap a us.toArray := ⟨_, ho, rfl, _, rfl⟩
  have hlt : i.toNat < us.length := (List.getElem?_eq_some_iff.mp hu).1
  refine tail_any ht.typeIs slot_tuple_getitem.lookup (getItem_tuple ht (by omega) (by omega) (j := i.toNat) ?_ (by simpa using hu) h) (hsl _ _)
  have hn : ¬ i < 0 := by omega
  have : i < (us.length : Int) := by omega
  simp [seqIndex?, hn, h0, this]
theorem idx_sound {C : Addr} {bs : Heap} {env : Env} {nm : List Str} {l : Loc} {H : HM} {value slice : Expr} {a i : V} {ua ui : Value} {P : V → Prop} (S : Sim C bs env nm z l H s.heap) (hsl : ∀ o i, subscripted slice false o i = operate [o, i] (getItem o i))
    (ha : VR z a ua) (hi : VR z i ui) (h : idxS H a i P) : Ge prog w A (subscriptTail value slice ua ui) P z s := by
  refine pvar fun G g => ?_
  cases i <;> (try (cases a <;> exact h.elim))
  rename_i i
  obtain ⟨ti, rfl⟩ := hi.int_i
  cases a <;> (try exact h.elim)
  · rename_i b
    obtain ⟨t, rfl, hb⟩ := ha.bytes_i
    refine g fun Q E k => ?_
    obtain ⟨⟨h0, h1⟩, h2⟩ := h
    exact tail_any (W.typeIs_bytes _ _ _) FB.slot_bytes_getitem.lookup (getItem_bytes (by omega) h0 h1 (k _ _ _ _ h2 (PX.toks _ S.zk) (.int _ _))) (hsl _ _)
  · rename_i a
    obtain rfl := ha.ref_i
    obtain ⟨vs, e, h⟩ := lstH_inv (P := fun vs => (0 ≤ i ∧ i < vs.length) ∧ P (vs.getD i.toNat .none)) h
    obtain ⟨us, n, e1, e2, e3⟩ := (S.trk _ _ e).2
    exact g <| list_item S.zk e1 e2 e3 hsl h.1.1 h.1.2 h.2
  · obtain ⟨ad, u1, u2, n, rfl, e, v1, v2⟩ := ha.t2_i
    have e' := S.zk _ _ e
    refine g fun Q E k => ?_
    refine pvar fun G g => ?_
    rcases ite_inv h with ⟨rfl, h⟩ | h
    · exact g <| tup_item (us := [_, _]) e' hsl (by decide) (by decide) rfl (k _ _ _ _ h (.self S.zk) v1)
    rcases ite_inv h with ⟨rfl, h⟩ | h
    · exact g <| tup_item (us := [_, _]) e' hsl (by decide) (by decide) rfl (k _ _ _ _ h (.self S.zk) v2)
    · exact h.elim
  · obtain ⟨ad, u1, u2, u3, u4, n, rfl, e, v1, v2, v3, v4⟩ := ha.t4_i
    have e' := S.zk _ _ e
    refine g fun Q E k => ?_
    refine pvar fun G g => ?_
    rcases ite_inv h with ⟨rfl, h⟩ | h
    · exact g <| tup_item (us := [_, _, _, _]) e' hsl (by decide) (by decide) rfl (k _ _ _ _ h (.self S.zk) v1)
    rcases ite_inv h with ⟨rfl, h⟩ | h
    · exact g <| tup_item (us := [_, _, _, _]) e' hsl (by decide) (by decide) rfl (k _ _ _ _ h (.self S.zk) v2)
    rcases ite_inv h with ⟨rfl, h⟩ | h
    · exact g <| tup_item (us := [_, _, _, _]) e' hsl (by decide) (by decide) rfl (k _ _ _ _ h (.self S.zk) v3)
    rcases ite_inv h with ⟨rfl, h⟩ | h
    · exact g <| tup_item (us := [_, _, _, _]) e' hsl (by decide) (by decide) rfl (k _ _ _ _ h (.self S.zk) v4)
    · exact h.elim
  · obtain ⟨ad, us, n, rfl, e, r, b⟩ := ha.lst_i
    exact g <| list_item S.zk (S.zk _ _ e) r b hsl h.1.1 h.1.2 h.2

theorem IsPartI (i : Int) (t : Tok) : IsPart (.int i t) (some i) := .int i t
/-- a slice of bytes -/
theorem clip_pos {n k : Nat} : clipAt n ((k : Nat) : Int) = min k n := clipAt_nat n k
theorem slice_bytes {value : Expr} {lower upper : Option Expr} {p : Pos} {b : List UInt8} (hb : b.length ≤ 1000000) {t : Tok} {l u : Value} {lo hi : Option Int} (hl : IsPart l lo) (hu : IsPart u hi)
    (zk : ∀ a o, z a = some o → s.heap.get? a = some o)
    (k : ∀ s' t', PX s z s' z → Q (.bytes ((b.drop (lo.elim 0 (clipAt b.length))).take (hi.elim b.length (clipAt b.length) - lo.elim 0 (clipAt b.length))).toArray t') s') :
    wpAny (model prog w) A (subscriptTail value (.Slice lower upper none p) (.bytes b.toArray t) (.ref s.heap.objs.size)) Q E { s with heap := s.heap.push { cls := .type "slice", data := .fields #[l, u, .none] } } := by
  refine tail_any (T := "bytes") (W.typeIs_bytes _ _ _) FB.slot_bytes_getitem.lookup (getItem_meets (W.typeIs_bytes _ _ _) (by decide) FB.slot_bytes_getitem FB.entry_bytes_getitem (FB.args_bytes_getitem_2 _ _) (KBc.meets_slice2 b.toArray t _ hl hu)
    ⟨Heap.IsSliceOf.new _ _ _ _, Nat.le_trans (KBc.size_picked_le _ lo hi) (by rw [sizeLine_eq]; simp; omega), fun t' n => ?_⟩) rfl
  rw [KBc.picked_eq]
  simp only [List.size_toArray]
  exact k _ _ ⟨⟨_, _, rfl, fun b o e => Heap.get?_push_of_some _ e⟩, .refl fun a o e => Heap.get?_push_of_some _ (zk a o e)⟩
end
end Mine
end

section
set_option genInjectivity false
open PySem PySem.W PyProof.Rows PySem.Calls
set_option Elab.async false
set_option autoImplicit false
namespace Mine

set_option genCtorIdx false in
inductive ME where
  | int (i : Int) | bool (b : Bool) | none | bys (b : List UInt8) | str (n : Nat)
  | loc (i : Nat)
  | bin (op : Op) (a b : ME) | cmp (op : Cp) (a b : ME) | isN (a : ME) | notN (a : ME)
  | and (a b : ME) | or (a b : ME) | ite (c a b : ME)
  | idx (a i : ME) | sl0 (a hi : ME) | sl1 (a lo : ME) | sl2 (a lo hi : ME)
  | len (a : ME) | sum (a : ME) | min (a b : ME) | strI (a : ME) | bytB (a : ME)
  | by1 (a : ME) | by2 (a b : ME) | by4 (a b c d : ME) | byr (a n : ME) | byc (y : Nat) (n : ME)
  | att (o : ME) (f : Nat)
  | tu2 (a b : ME) | tu4 (a b c d : ME) | ls1 (a : ME) | ls4 (a b c d : ME)
  | ca0 (f : Nat) | ca1 (f : Nat) (a : ME) | ca2 (f : Nat) (a b : ME) | ca3 (f : Nat) (a b c : ME)
  | cmr (r w : Nat)

structure IsB (K : Frag) (sc : Scope) (x : Str) (v : Value) : Prop where
  kind : sc.names.lookup x = some .globalImplicit
  no : nsIn K mainGlobals x = some none
  boot : bootBuiltins x = some v
  dbg : (x == ("__debug__" : Str)) = false
  nn : x ≠ "__name__"
structure IsG (K : Frag) (sc : Scope) (x : Str) (v : Value) : Prop where
  kind : sc.names.lookup x = some .globalImplicit
  here : nsIn K mainGlobals x = some (some v)
  dbg : (x == ("__debug__" : Str)) = false

/-- the scope of the comprehension [(y + 3 * j) % 256 for j in range(n)] and of [r[i] for i in w]: one own name, one free -/
structure CScope (sc : Scope) (x y : Str) : Prop where
  kind : sc.kind = .function
  free : ∀ env cl, env.cells.lookup y = some cl → closureFor sc env = pure [(y, cl)]
  nocell : ∀ z ∈ sc.names, z.2 ≠ .cell
  loc : ∀ z ∈ sc.names, z.2 = .local → sc.names.lookup z.1 = some .local
  hx : sc.names.lookup x = some .local
  hy : sc.names.lookup y = some .free
  dx : (x == ("__debug__" : Str)) = false
  dy : (y == ("__debug__" : Str)) = false

/-- a function of the program stands at the address -/
noncomputable def IsFn (K : Frag) (f : Addr) : Prop := ∃ o fd, K.lookup f = some o ∧ o.data = .func fd

noncomputable def isNS : V → (Bool → Prop) → Prop
  | .none, Q => Q true
  | .int _, Q => Q false
  | .bytes _, Q => Q false
  | .bool _, Q => Q false
  | _, _ => False
noncomputable def lenS (H : HM) : V → (V → Prop) → Prop
  | .bytes b, Q => Q (.int b.length)
  | .lst vs, Q => Q (.int vs.length)
  | .ref a, Q => match H a with
    | some (.lst vs) => Q (.int vs.length)
    | some (.barr b) => Q (.int b.length)
    | _ => False
  | _, _ => False
noncomputable def bytS (H : HM) : V → (V → Prop) → Prop
  | .bytes b, Q => Q (.bytes b)
  | .ref a, Q => match H a with
    | some (.barr b) => Q (.bytes b)
    | _ => False
  | _, _ => False
noncomputable abbrev By (i : Int) : Prop := 0 ≤ i ∧ i < 256
noncomputable def toB (i : Int) : UInt8 := i.toNat.toUInt8
noncomputable def attS (H : HM) (f : Nat) : V → (V → Prop) → Prop
  | .ref a, Q => match H a with
    | some (.ob _ fs) => match fget fs f with
      | some v => Q v
      | none => False
    | _ => False
  | _, _ => False
noncomputable abbrev FT := Nat → List V → (V → Prop) → Prop
noncomputable def callS (F : FT) (f : Nat) (vs : List V) (Q : V → Prop) : Prop := F f vs Q
noncomputable def intS : V → (Int → Prop) → Prop
  | .int i, Q => Q i
  | _, _ => False
noncomputable def bysS : V → (List UInt8 → Prop) → Prop
  | .bytes b, Q => Q b
  | _, _ => False
theorem bysS_V {v : V} {P : List UInt8 → Prop} (h : bysS v P) : ∃ b, v = .bytes b ∧ P b := by
  cases v <;> (try exact h.elim)
  exact ⟨_, rfl, h⟩
theorem intS_V {v : V} {P : Int → Prop} (h : intS v P) : ∃ b, v = .int b ∧ P b := by
  cases v <;> (try exact h.elim)
  exact ⟨_, rfl, h⟩
noncomputable def lstS (H : HM) : V → (List V → Prop) → Prop
  | .lst vs, Q => Q vs
  | .ref a, Q => match H a with
    | some (.lst vs) => Q vs
    | _ => False
  | _, _ => False
noncomputable def pickAll (rs : List V) : List V → Option (List V)
  | [] => some []
  | .int i :: r => if 0 ≤ i ∧ i < rs.length then (pickAll rs r).map (rs.getD i.toNat .none :: ·) else none
  | _ :: _ => none
noncomputable def eqtS : V → V → Prop
  | .t2 (.lst vs) (.int i), .t2 (.lst us) (.int j) => i = j ∧ ∃ bs : List (List UInt8), vs = bs.map .bytes ∧ us = bs.map .bytes
  | _, _ => False

noncomputable def locS (l : Loc) (i : Nat) (Q : V → Prop) : Prop := match lget l i with
  | some v => Q v
  | none => False

theorem locS_V {l : Loc} {i : Nat} {P : V → Prop} (h : locS l i P) : ∃ v, lget l i = some v ∧ P v := by
  have h : (match lget l i with
    | some v => P v
    | none => False) := h
  exact opt_inv h
/-- what an expression must bring for Q to hold of its value -/
noncomputable def Pe (F : FT) (H : HM) (l : Loc) : ME → (V → Prop) → Prop
  | .int i, Q => Q (.int i)
  | .bool b, Q => Q (.bool b)
  | .none, Q => Q .none
  | .bys b, Q => Q (.bytes b)
  | .str n, Q => Q (.str n)
  | .loc i, Q => locS l i Q
  | .bin op a b, Q => Pe F H l a fun va => Pe F H l b fun vb => binS op va vb Q
  | .cmp op a b, Q => Pe F H l a fun va => Pe F H l b fun vb => cmpS op va vb fun c => Q (.bool c)
  | .isN a, Q => Pe F H l a fun va => isNS va fun c => Q (.bool c)
  | .notN a, Q => Pe F H l a fun va => isNS va fun c => Q (.bool (!c))
  | .and a b, Q => Pe F H l a fun va => trS va fun c => (c = true → Pe F H l b Q) ∧ (c = false → Q va)
  | .or a b, Q => Pe F H l a fun va => trS va fun c => (c = true → Q va) ∧ (c = false → Pe F H l b Q)
  | .ite c a b, Q => Pe F H l c fun vc => trS vc fun c => (c = true → Pe F H l a Q) ∧ (c = false → Pe F H l b Q)
  | .idx a i, Q => Pe F H l a fun va => Pe F H l i fun vi => idxS H va vi Q
  | .sl0 a b, Q => Pe F H l a fun va => Pe F H l b fun vb => bysS va fun x => intS vb fun j => 0 ≤ j ∧ Q (.bytes (x.take j.toNat))
  | .sl1 a b, Q => Pe F H l a fun va => Pe F H l b fun vb => bysS va fun x => intS vb fun i => 0 ≤ i ∧ Q (.bytes (x.drop i.toNat))
  | .sl2 a b c, Q => Pe F H l a fun va => Pe F H l b fun vb => Pe F H l c fun vc => bysS va fun x => intS vb fun i => intS vc fun j => (0 ≤ i ∧ 0 ≤ j) ∧ Q (.bytes ((x.drop i.toNat).take (j.toNat - i.toNat)))
  | .len a, Q => Pe F H l a fun va => lenS H va Q
  | .sum a, Q => Pe F H l a fun va => bysS va fun x => Q (.int (x.map fun c => (c.toNat : Int)).sum)
  | .min a b, Q => Pe F H l a fun va => Pe F H l b fun vb => intS va fun i => intS vb fun j => Q (.int (if j < i then j else i))
  | .strI a, Q => Pe F H l a fun va => intS va fun i => (0 ≤ i ∧ i < 1000) ∧ Q (.str 4)
  | .bytB a, Q => Pe F H l a fun va => bytS H va Q
  | .by1 a, Q => Pe F H l a fun va => intS va fun i => By i ∧ Q (.bytes [toB i])
  | .by2 a b, Q => Pe F H l a fun va => Pe F H l b fun vb => intS va fun i => intS vb fun j => (By i ∧ By j) ∧ Q (.bytes [toB i, toB j])
  | .by4 a b c d, Q => Pe F H l a fun va => Pe F H l b fun vb => Pe F H l c fun vc => Pe F H l d fun vd => intS va fun i => intS vb fun j => intS vc fun m => intS vd fun n =>
      (By i ∧ By j ∧ By m ∧ By n) ∧ Q (.bytes [toB i, toB j, toB m, toB n])
  | .byr a n, Q => Pe F H l a fun va => Pe F H l n fun vn => intS va fun i => intS vn fun n => (By i ∧ 0 ≤ n ∧ n ≤ 1000) ∧ Q (.bytes (List.replicate n.toNat (toB i)))
  | .byc y n, Q => locS l y fun vy => intS vy fun y => Pe F H l n fun vn => intS vn fun n => (0 ≤ n ∧ n ≤ 1000) ∧ Q (.bytes ((List.range n.toNat).map fun (j : Nat) => toB ((y + 3 * (j : Int)) % 256)))
  | .att o f, Q => Pe F H l o fun vo => attS H f vo Q
  | .tu2 a b, Q => Pe F H l a fun va => Pe F H l b fun vb => Q (.t2 va vb)
  | .tu4 a b c d, Q => Pe F H l a fun va => Pe F H l b fun vb => Pe F H l c fun vc => Pe F H l d fun vd => Q (.t4 va vb vc vd)
  | .ls1 a, Q => Pe F H l a fun va => Q (.lst [va])
  | .ls4 a b c d, Q => Pe F H l a fun va => Pe F H l b fun vb => Pe F H l c fun vc => Pe F H l d fun vd => Q (.lst [va, vb, vc, vd])
  | .ca0 f, Q => callS F f [] Q
  | .ca1 f a, Q => Pe F H l a fun va => callS F f [va] Q
  | .ca2 f a b, Q => Pe F H l a fun va => Pe F H l b fun vb => callS F f [va, vb] Q
  | .ca3 f a b c, Q => Pe F H l a fun va => Pe F H l b fun vb => Pe F H l c fun vc => callS F f [va, vb, vc] Q
  | .cmr r w, Q => locS l r fun vr => locS l w fun vw => lstS H vr fun rs => lstS H vw fun ws => match pickAll rs ws with
    | some us => Q (.lst us)
    | none => False

/-- contracts of the functions that change nothing -/
noncomputable def FOk (prog : Program) (w : World) (bs : Heap) (k : Nat) (F : FT) : Prop :=
  ∀ f vs P, F f vs P → ∀ A s z us, AOk k A → BsIn bs s → (∀ a o, z a = some o → s.heap.get? a = some o) → VRs z vs us → Ge prog w A (call (.ref f) us) P z s

/-- what the class of the readers must be -/
structure ClsOk (K : Frag) (C : Addr) : Prop where
  pg : plainGet K C "data" = true
  hd : hasDictIn K C = true
  fnd : ∀ x ∈ fnm, findIn K (.ref C) x = some none
  sa : findIn K (.ref C) "__setattr__" = some (some (.builtin "object.__setattr__"))
  po : plainOver K C = true
  tk : ∀ x ∈ fnm, takerIn K C x = some none

structure Cx (prog : Program) (w : World) (K : Frag) (mg mb : Str → Option Value) (C : Addr) (bs : Heap) (sc : Scope) (nm : List Str) (env : Env) (F : FT) (k : Nat) (A : Around) : Prop where
  G : Gl K mg mb C bs
  ck : ClsOk K C
  ok : EnvOk env
  hsc : env.scope = sc
  nmok : ∀ (i : Nat) (x : Str), nm[i]? = some x → (sc.names.lookup x = some .local ∨ sc.names.lookup x = some .cell) ∧ (x == ("__debug__" : Str)) = false
  inj : ∀ (i j : Nat) (x : Str), nm[i]? = some x → nm[j]? = some x → i = j
  cells : ∀ x, sc.names.lookup x = some .cell → ∃ c, env.cells.lookup x = some c
  fok : FOk prog w bs k F
  aok : AOk k A

section
variable {prog : Program} {w : World} {K : Frag} {mg mb : Str → Option Value} {C : Addr} {bs : Heap} {sc : Scope} {nm : List Str} {env : Env} {F : FT} {k : Nat} {A : Around} {s : Shared} {z : FZ} {l : Loc} {H : HM}

theorem Cx.kindOf (X : Cx prog w K mg mb C bs sc nm env F k A) (x : Str) : env.kindOf x = sc.names.lookup x := by unfold Env.kindOf; rw [X.hsc]
theorem Sim.bsIn (S : Sim C bs env nm z l H s.heap) : BsIn bs s := fun b o e => (S.base b o e).1
theorem Sim.px {s' : Shared} {z' : FZ} (S : Sim C bs env nm z l H s.heap) (p : PX s z s' z') : Sim C bs env nm z' l H s'.heap := S.step (Keeps.keep p.1) p.2

theorem Name_glob {x : Str} {v : Value} {p : Pos} {Q : Value → Shared → Prop} {E : Value → Shared → Prop} (X : Cx prog w K mg mb C bs sc nm env F k A) (hb : BsIn bs s) (g : IsG K sc x v) (h : Q v s) : wpAny (model prog w) A (eval (.Name x p) env) Q E s := by
  refine Calls.Name_function_global X.ok.kind (by rw [X.kindOf]; exact g.kind) (Calls.loadGlobal_global (mg := mg) ?_ (mg_of X.G.X X.G.g g.here) h) g.dbg
  rw [X.ok.glob]; exact X.G.g.keeps hb
theorem Name_built {x : Str} {v : Value} {p : Pos} {Q : Value → Shared → Prop} {E : Value → Shared → Prop} (X : Cx prog w K mg mb C bs sc nm env F k A) (hb : BsIn bs s) (g : IsB K sc x v) (h : Q v s) : wpAny (model prog w) A (eval (.Name x p) env) Q E s := by
  refine Calls.Name_function_global X.ok.kind (by rw [X.kindOf]; exact g.kind) (Calls.loadGlobal_builtin (mg := mg) (mb := mb) ?_ (mg_none_of X.G.X X.G.g g.no) ?_ ((X.G.bi x g.nn).trans g.boot) h) g.dbg
  · rw [X.ok.glob]; exact X.G.g.keeps hb
  · rw [X.ok.built]; exact X.G.b.keeps hb
theorem load_loc {i : Nat} {x : Str} {P : V → Prop} (X : Cx prog w K mg mb C bs sc nm env F k A) (S : Sim C bs env nm z l H s.heap) (hx : nm[i]? = some x) (h : locS l i P) : Ge prog w A (loadName env x) P z s := by
  intro Q E kk
  refine pvar fun G g => ?_
  obtain ⟨v, e, h⟩ := locS_V h
  rcases (X.nmok i x hx).1 with hk | hk
  · obtain ⟨m, n, r⟩ := S.loc
    have hk := (X.kindOf x).trans hk
    obtain ⟨u, hu, hv⟩ := r i v x e hx hk
    exact g <| wpAny_loadName_local X.ok.kind hk n hu (kk _ _ _ _ h (.self S.zk) hv)
  · obtain ⟨c, hc⟩ := X.cells x hk
    have hk := (X.kindOf x).trans hk
    obtain ⟨_, _, _, cv, hcv, r⟩ := S.cel x c hc
    obtain ⟨u, rfl, hv⟩ := r i v e hx hk
    exact g <| wpAny_loadName_cell X.ok.kind hk hc hcv (kk _ _ _ _ h (.self S.zk) hv)
theorem Name_loc {i : Nat} {x : Str} {p : Pos} {P : V → Prop} (X : Cx prog w K mg mb C bs sc nm env F k A) (S : Sim C bs env nm z l H s.heap) (hx : nm[i]? = some x) (h : locS l i P) : Ge prog w A (eval (.Name x p) env) P z s :=
  fun Q E kk => wpAny_Name (load_loc X S hx h Q E kk) (X.nmok i x hx).2
end

/-- the little tree stands for the tree -/
structure IsE (K : Frag) (sc : Scope) (nm : List Str) (e : ME) (pe : Expr) : Prop where
  sub : ∀ o i, subscripted pe false o i = operate [o, i] (getItem o i)
  star : ∀ rest env, starEach (pe :: rest) env = (false, eval pe env) :: starEach rest env
  mark : ∀ op, behindInMarks op pe = false
  sound : ∀ {prog : Program} {w : World} {mg mb : Str → Option Value} {C : Addr} {bs : Heap} {env : Env} {F : FT} {k : Nat} {A : Around} {l : Loc} {H : HM}, Cx prog w K mg mb C bs sc nm env F k A →
    ∀ {s : Shared} {z : FZ} {P : V → Prop}, Sim C bs env nm z l H s.heap → Pe F H l e P → Ge prog w A (eval pe env) P z s
end Mine
end

section
set_option genInjectivity false
open PySem PySem.W PyProof.Rows PySem.Calls
set_option Elab.async false
set_option autoImplicit false
namespace Mine

section
variable {prog : Program} {w : World} {K : Frag} {mg mb : Str → Option Value} {C : Addr} {bs : Heap} {sc : Scope} {nm : List Str} {env : Env} {F : FT} {k : Nat} {A : Around} {s : Shared} {z : FZ} {l : Loc} {H : HM}
variable {Q : Value → Shared → Prop} {E : Value → Shared → Prop}

noncomputable abbrev StarOk (pe : Expr) : Prop := ∀ rest env, starEach (pe :: rest) env = (false, eval pe env) :: starEach rest env
noncomputable def KpOk (prog : Program) (w : World) (bs : Heap) (f : Value) : Prop := ∀ h : Heap, (∀ b o, bs.get? b = some o → h.get? b = some o) → ∃ k, (k = Keeper.frame ∨ k = Keeper.machine ∨ k = Keeper.boundFrame) ∧ Looks (model prog w) h (keeperOf f) k
theorem kp_type (t : String) : KpOk prog w bs (.type t) := fun _ _ => ⟨.machine, .inr (.inl rfl), .of_pure rfl⟩
theorem kp_builtin (t : String) : KpOk prog w bs (.builtin t) := fun _ _ => ⟨.machine, .inr (.inl rfl), .of_pure rfl⟩
theorem kp_func {a : Addr} (h : ∃ o fd, bs.get? a = some o ∧ o.data = .func fd) : KpOk prog w bs (.ref a) := fun h' k => by
  obtain ⟨o, fd, e, d⟩ := h
  refine ⟨.frame, .inl rfl, (Looks.ld (part := none) (k _ _ e)).andThen ?_⟩
  rw [d]; exact .now

theorem callW0 {q q' : Pos} {f : Value} {first : List Value} (hk : KpOk prog w bs f) (hb : BsIn bs s) (h : wpAny (model prog w) A (call f (first ++ [])) Q E s) :
    wpAny (model prog w) A (callWith q f first (backTo q' (starEach [] env)) (backToKw q' (keywordEach [] env))) Q E s :=
  callWith_of (P := fun h => ∀ b o, bs.get? b = some o → h.get? b = some o) rfl hk (evalArgs_nil3 ⟨hb, h⟩)
theorem callW1 {q q' : Pos} {f : Value} {first : List Value} {pa : Expr} (ha : StarOk pa) (hk : KpOk prog w bs f)
    (h : wpAny (model prog w) A (eval pa env) (fun u s₁ => BsIn bs s₁ ∧ wpAny (model prog w) A (call f (first ++ [u])) Q E s₁) E s) :
    wpAny (model prog w) A (callWith q f first (backTo q' (starEach [pa] env)) (backToKw q' (keywordEach [] env))) Q E s := by
  rw [ha]
  refine callWith_of (P := fun h => ∀ b o, bs.get? b = some o → h.get? b = some o) rfl hk (evalArgs_plain (x := eval pa env) (rest := []) ?_)
  exact spliced_cons (wpAny_mono h (fun u s₁ h₁ => spliced_nil h₁) fun _ _ e => e)
theorem callW2 {q q' : Pos} {f : Value} {first : List Value} {pa pb : Expr} (ha : StarOk pa) (hb : StarOk pb) (hk : KpOk prog w bs f)
    (h : wpAny (model prog w) A (eval pa env) (fun u s₁ => wpAny (model prog w) A (eval pb env) (fun u₂ s₂ => BsIn bs s₂ ∧ wpAny (model prog w) A (call f (first ++ [u, u₂])) Q E s₂) E s₁) E s) :
    wpAny (model prog w) A (callWith q f first (backTo q' (starEach [pa, pb] env)) (backToKw q' (keywordEach [] env))) Q E s := by
  rw [ha, hb]
  refine callWith_of (P := fun h => ∀ b o, bs.get? b = some o → h.get? b = some o) rfl hk (evalArgs_plain (x := eval pa env) (rest := [(false, eval pb env)]) ?_)
  exact spliced_cons (wpAny_mono h (fun u s₁ h₁ => spliced_cons (wpAny_mono h₁ (fun u s₁ h₁ => spliced_nil h₁) fun _ _ e => e)) fun _ _ e => e)
theorem callW3 {q q' : Pos} {f : Value} {first : List Value} {pa pb pc : Expr} (ha : StarOk pa) (hb : StarOk pb) (hc : StarOk pc) (hk : KpOk prog w bs f)
    (h : wpAny (model prog w) A (eval pa env) (fun u s₁ => wpAny (model prog w) A (eval pb env) (fun u₂ s₂ => wpAny (model prog w) A (eval pc env) (fun u₃ s₃ => BsIn bs s₃ ∧ wpAny (model prog w) A (call f (first ++ [u, u₂, u₃])) Q E s₃) E s₂) E s₁) E s) :
    wpAny (model prog w) A (callWith q f first (backTo q' (starEach [pa, pb, pc] env)) (backToKw q' (keywordEach [] env))) Q E s := by
  rw [ha, hb, hc]
  refine callWith_of (P := fun h => ∀ b o, bs.get? b = some o → h.get? b = some o) rfl hk (evalArgs_plain (x := eval pa env) (rest := [(false, eval pb env), (false, eval pc env)]) ?_)
  exact spliced_cons (wpAny_mono h (fun u s₁ h₁ => spliced_cons (wpAny_mono h₁ (fun u s₁ h₁ => spliced_cons (wpAny_mono h₁ (fun u s₁ h₁ => spliced_nil h₁) fun _ _ e => e)) fun _ _ e => e)) fun _ _ e => e)

/-- the call's own tree, where the callee is a name -/
theorem Call_N {x : Str} {p q : Pos} {args : List Expr} (h : wpAny (model prog w) A (eval (.Name x p) env) (fun f s₁ => wpAny (model prog w) A (callWith q f [] (backTo q (starEach args env)) (backToKw q (keywordEach [] env))) Q E s₁) E s) :
    wpAny (model prog w) A (eval (.Call (.Name x p) args [] q) env) Q E s := by
  show wpAny _ A (do callWith q (← eval (.Name x p) env) [] (backTo q (starEach args env)) (backToKw q (keywordEach [] env))) Q E s
  exact wpAny_bind h

/-- a new tuple, a new list: their parts frozen -/
theorem fz_new {o : Obj} (zk : ∀ a o, z a = some o → s.heap.get? a = some o) (hf : o.isFreed = false) : PX s z { s with heap := s.heap.push o } (fun a => if a = s.heap.objs.size then some o else z a) := by
  have fr : s.heap.get? s.heap.objs.size = none := by
    cases e : s.heap.get? s.heap.objs.size with
    | none => rfl
    | some o => exact absurd (Heap.lt_size e) (Nat.lt_irrefl _)
  refine ⟨⟨_, _, rfl, fun b o e => Heap.get?_push_of_some _ e⟩, fun a o e => ?_, fun a o e => ?_⟩
  · have hn : a ≠ s.heap.objs.size := fun q => by rw [q] at e; rw [zk _ _ e] at fr; cases fr
    rw [if_neg hn]; exact e
  · by_cases hn : a = s.heap.objs.size
    · rw [if_pos hn] at e; cases e; subst hn
      exact ⟨Heap.get?_push_size _ hf, .inr fr⟩
    · rw [if_neg hn] at e
      exact ⟨Heap.get?_push_of_some _ (zk a o e), .inl e⟩
theorem new_tup2 {v₁ v₂ : V} {u₁ u₂ : Value} {P : V → Prop} (zk : ∀ a o, z a = some o → s.heap.get? a = some o) (h₁ : VR z v₁ u₁) (h₂ : VR z v₂ u₂) (h : P (.t2 v₁ v₂)) : Ge prog w A (newTuple [u₁, u₂]) P z s := fun Q E kk => by
  have px := fz_new (s := s) (o := tupO #[u₁, u₂] 0) zk rfl
  exact wpAny_newObj_type (kk _ _ _ _ h px (.t2 (n := 0) (if_pos rfl) (h₁.mono px.old) (h₂.mono px.old))) (by show 2 ≤ sizeLine; rw [sizeLine_eq]; omega)
theorem new_tup4 {v₁ v₂ v₃ v₄ : V} {u₁ u₂ u₃ u₄ : Value} {P : V → Prop} (zk : ∀ a o, z a = some o → s.heap.get? a = some o) (h₁ : VR z v₁ u₁) (h₂ : VR z v₂ u₂) (h₃ : VR z v₃ u₃) (h₄ : VR z v₄ u₄) (h : P (.t4 v₁ v₂ v₃ v₄)) :
    Ge prog w A (newTuple [u₁, u₂, u₃, u₄]) P z s := fun Q E kk => by
  have px := fz_new (s := s) (o := tupO #[u₁, u₂, u₃, u₄] 0) zk rfl
  exact wpAny_newObj_type (kk _ _ _ _ h px (.t4 (n := 0) (if_pos rfl) (h₁.mono px.old) (h₂.mono px.old) (h₃.mono px.old) (h₄.mono px.old))) (by show 4 ≤ sizeLine; rw [sizeLine_eq]; omega)
theorem new_lst {vs : List V} {us : List Value} {P : V → Prop} (zk : ∀ a o, z a = some o → s.heap.get? a = some o) (hr : VRs z vs us) (hb : vs.length ≤ 1000000) (h : P (.lst vs)) : Ge prog w A (newList us) P z s := fun Q E kk => by
  have px := fz_new (s := s) (o := lisO us.toArray 0) zk rfl
  exact wpAny_newObj_type (kk _ _ _ _ h px (.lst hb (n := 0) (if_pos rfl) (hr.mono px.old))) (by show us.toArray.size ≤ sizeLine; rw [sizeLine_eq, List.size_toArray, ← hr.length]; omega)

/-- bytes of a list of ints -/
theorem byteArr_toB (ns : List Int) : PySem.byteArr ns = (ns.map toB).toArray := rfl
theorem bytes_of {a : Addr} {us : List Value} {n : Nat} {is : List Int} {P : V → Prop} (hh : A.handled = none) (zk : ∀ a o, z a = some o → s.heap.get? a = some o) (ho : s.heap.get? a = some (lisO us.toArray n)) (hi : IntsAre us is) (hr : ∀ i ∈ is, By i) (hb : is.length ≤ 1000000)
    (h : P (.bytes (is.map toB))) : Ge prog w A (call (.type "bytes") [.ref a]) P z s := fun Q E kk => by
  refine call_bytes_ints ⟨_, ho, rfl, _, rfl⟩ hi hr (by rw [hi.length, sizeLine_eq]; omega) hh fun h' t n hk => ?_
  exact kk _ _ _ _ h (PX.grow ⟨_, _, rfl, hk⟩ zk) (by rw [byteArr_toB]; exact .bytes (by simpa using hb) _)

end
end Mine
end

section
set_option genInjectivity false
open PySem PySem.W PyProof.Rows PySem.Calls
set_option Elab.async false
set_option autoImplicit false
namespace Mine

theorem fnm_inj {i j : Nat} {x : Str} (hi : fnm[i]? = some x) (hj : fnm[j]? = some x) : i = j := by
  have h1 := (List.getElem?_eq_some_iff.mp hi).1
  have h2 := (List.getElem?_eq_some_iff.mp hj).1
  have all : ∀ i : Fin 11, ∀ j : Fin 11, fnm[i.1]? = fnm[j.1]? → i = j := by decide +kernel
  exact congrArg Fin.val (all ⟨i, h1⟩ ⟨j, h2⟩ (hi.trans hj.symm))

theorem isStr_iff (x y : Str) (t : Tok) : (Value.str x t).isStr y = decide (x = y) := by
  show (x == y) = _
  rw [Bool.eq_iff_iff]; simp

theorem ER.noref {z : FZ} {fs : List (Nat × V)} {es : List DictEntry} (h : ER z fs es) : es.any (·.refKey) = false := by
  induction h with
  | nil => rfl
  | cons _ _ _ r => exact r
theorem ER.get {z : FZ} {f : Nat} {x : Str} (hx : fnm[f]? = some x) {fs : List (Nat × V)} {es : List DictEntry} (h : ER z fs es) : ∀ {v}, fget fs f = some v → ∃ u, getL x es = some (some u) ∧ VR z v u := by
  induction h with
  | nil => exact fun h => by cases h
  | @cons n y _ _ _ u _ _ hy hv _ r =>
    intro v h
    unfold fget at h
    unfold getL
    by_cases e : n = f
    · subst e
      rw [hx] at hy; cases hy
      rw [if_pos rfl] at h; cases h
      refine ⟨u, ?_, hv⟩
      rw [List.find?_cons_of_pos (by rw [isStr_iff]; simp)]
    · rw [if_neg e] at h
      have hxy : y ≠ x := fun q => e (fnm_inj hy (q ▸ hx))
      obtain ⟨u', h1, h2⟩ := r h
      refine ⟨u', ?_, h2⟩
      unfold getL at h1
      rw [List.find?_cons_of_neg (by rw [isStr_iff]; simp [hxy]), List.any_cons]
      exact h1
theorem ER.put {z : FZ} {f : Nat} {x : Str} {v : V} {u : Value} {hsh : Int} {t : Tok} (hx : fnm[f]? = some x) (hv : VR z v u) : ∀ {fs : List (Nat × V)} {es : List DictEntry}, ER z fs es → ER z (fput fs f v) (putL x hsh (.str x t) u es)
  | _, _, .nil => .cons hx hv .nil
  | _, _, .cons (n := n) (x := y) hy hw r => by
    unfold fput putL
    by_cases e : n = f
    · subst e
      rw [hx] at hy; cases hy
      rw [if_pos rfl, if_pos (by rw [isStr_iff]; simp)]
      exact .cons hx hv r
    · have hxy : y ≠ x := fun q => e (fnm_inj hy (q ▸ hx))
      rw [if_neg e, if_neg (by rw [isStr_iff]; simp [hxy])]
      exact .cons hy hw (r.put hx hv)
theorem ER.some {z : FZ} {x : Str} {fs : List (Nat × V)} {es : List DictEntry} (r : ER z fs es) : (getL x es).isSome = true := by
  unfold getL
  cases es.find? (·.key.isStr x) with
  | some e => rfl
  | none => simp only [r.noref]; rfl
theorem putL_len (x : Str) (hsh : Int) (key v : Value) : ∀ es : List DictEntry, (putL x hsh key v es).length ≤ es.length + 1
  | [] => Nat.le_refl _
  | e :: r => by
    unfold putL
    split
    · simp
    · simpa using putL_len x hsh key v r
theorem ER.len {z : FZ} {fs : List (Nat × V)} {es : List DictEntry} (h : ER z fs es) : es.length = fs.length := by
  induction h with
  | nil => rfl
  | cons _ _ _ r => exact congrArg (· + 1) r

section
variable {prog : Program} {w : World} {K : Frag} {C : Addr} {bs : Heap} {nm : List Str} {env : Env} {A : Around} {s : Shared} {z : FZ} {l : Loc} {H : HM}
variable {E : Value → Shared → Prop}

theorem instAt {h : Heap} {a dx : Addr} {es : List DictEntry} {n : Nat} (h1 : h.get? a = some (instObj C dx)) (h2 : h.get? dx = some (dictOf es n)) : InstAt h a (instObj C dx) C (some (dictOf es n)) := ⟨h1, rfl, rfl, h2⟩

theorem VR.handed {v : V} {u : Value} (h : VR z v u) : handedIn u = true := by cases h <;> rfl

theorem att_sound {f : Nat} {x : Str} {o : V} {uo : Value} {P : V → Prop} {ex : Bool} (CK : ClsOk K C) (KX : K.In s.heap) (S : Sim C bs env nm z l H s.heap) (hx : fnm[f]? = some x) (ho : VR z o uo) (h : attS H f o P) :
    Ge prog w A (getAttr uo x ex) P z s := by
  intro Q E kk
  cases o <;> (try exact h.elim)
  rename_i a
  cases ho
  obtain ⟨dx, fs, e, h⟩ := obH_inv (P := fun _ fs => match fget fs f with
    | some v => P v
    | none => False) h
  obtain ⟨v, e', h⟩ := opt_inv h
  obtain ⟨_, p1, p2, es, n, p3, p4, p5⟩ := S.trk _ _ e
  obtain ⟨u, q1, q2⟩ := p5.get hx e'
  have mem : x ∈ fnm := List.mem_of_getElem? hx
  exact get_value KX (instAt p1 p3) (plainGet_of CK.pg).1 (findObj_own CK.hd (CK.fnd x mem) rfl q1) q2.handed (kk _ _ _ _ h (.toks _ S.zk) q2)

theorem osa_mine {R : Result → Shared → Prop} {a dx : Addr} {name : Str} {tk : Tok} {u : Value} {es : List DictEntry} {n : Nat} (X : K.In s.heap) (h1 : s.heap.get? a = some (instObj C dx)) (h2 : s.heap.get? dx = some (dictOf es n))
    (hp : plainOver K C = true) (ht : takerIn K C name = some none) (hh : hasDictIn K C = true) (hl : (getL name es).isSome = true) (hz : es.length ≤ 100)
    (h : ∀ h', (∀ b o, b ≠ dx → s.heap.get? b = some o → h'.get? b = some o) → h'.get? dx = some (dictOf (putL name (PyData.keyHash w.params name) (.str name s.toks) u es) (putN name es n)) → R (.ok (.ret .none)) { s with heap := h', toks := s.toks + 1 }) :
    codeAny (model prog w) A (.call (.builtin "object.__setattr__") ⟨[.ref a, .str name tk, u], []⟩) R s := by
  refine osa_open X (instAt h1 h2) hp ht fun b => ?_
  obtain ⟨cd, hc, hd'⟩ := any_some hh
  have hu : (s.heap.update dx (Obj.putName name (PyData.keyHash w.params name) (.str name s.toks) u)).get? dx = some (dictOf (putL name (PyData.keyHash w.params name) (.str name s.toks) u es) (putN name es n)) := by
    rw [Heap.get?_update_self _ h2 (by rw [putName_dict]; rfl), putName_dict]
  refine wpAny_bind (wpAny_pure (wpAny_bind (wpAny_bind (wpAny_loadPart h1 (wpAny_bind ((looks_clsIn X hc).here ?_))))))
  rw [hd']
  refine wpAny_pure (a := some dx) (wpAny_bind (wpAny_pure (wpAny_bind ?_)))
  unfold nsSet
  refine wpAny_bind (wpAny_bind (wpAny_askSetting (wpAny_pure (wpAny_bind (wpAny_mkText (wpAny_bind (wpAny_loadPart h2 ?_)))))))
  have c : (!es.toArray.any (·.key.isStr name) && es.toArray.any (·.refKey)) = false := by
    rw [← Array.any_toList, ← Array.any_toList]
    unfold getL at hl
    split at hl
    · rename_i en he
      rw [List.any_eq_true.mpr ⟨en, List.mem_of_find?_eq_some he, List.find?_some he⟩]; rfl
    · split at hl
      · cases hl
      · rename_i z; rw [Bool.not_eq_true] at z; rw [z, Bool.and_false]
  dsimp only
  rw [aRefKeyMayBeTheName_at, c]
  refine wpAny_updatePart h2 ?_
  refine wpAny_bind (wpAny_lookBehind hu (pastItsLine_dict (by have := putL_len name (PyData.keyHash w.params name) (.str name s.toks) u es; rw [List.size_toArray, sizeLine_eq]; omega)) ?_)
  exact wpAny_pure (h _ (fun b o hb e => (Heap.get?_update_other _ _ (Ne.symm hb)).trans e) hu)

/-- a field of a tracked reader is set -/
theorem set_sound {f : Nat} {x : Str} {a dx : Nat} {fs : List (Nat × V)} {v : V} {u : Value} {Q : Unit → Shared → Prop} (CK : ClsOk K C) (KX : K.In s.heap) (S : Sim C bs env nm z l H s.heap) (hx : fnm[f]? = some x) (ha : H a = some (.ob dx fs)) (hf : fs.length ≤ 50) (hv : VR z v u)
    (h : ∀ h' tk, (∀ b o, b ≠ dx → s.heap.get? b = some o → h'.get? b = some o) → Sim C bs env nm z l (up H a (.ob dx (fput fs f v))) h' → Q () { s with heap := h', toks := tk }) :
    wpAny (model prog w) A (setAttr (.ref a) x u) Q E s := by
  obtain ⟨_, p1, p2, es, n, p3, p4, p5⟩ := S.trk _ _ ha
  have mem : x ∈ fnm := List.mem_of_getElem? hx
  refine set_plain KX (instAt p1 p3) CK.sa (osa_mine (s := { s with toks := s.toks + 1 }) KX p1 p3 CK.po (CK.tk x mem) CK.hd p5.some p4 fun h' k1 k2 => ?_)
  refine h h' _ k1 (S.turnOb ha k1 k2 ?_ (p5.put hx hv))
  have := putL_len x (PyData.keyHash w.params x) (.str x (s.toks + 1)) u es
  have := p5.len
  dsimp only
  omega
end
end Mine
end

section
set_option genInjectivity false
open PySem PySem.W PyProof.Rows PySem.Calls
open Sem (wp)
set_option Elab.async false
set_option autoImplicit false
namespace Mine

/-- built-ins that may hold a bytearray -/
noncomputable def badIds : List String := ["bytearray.__contains__", "bytearray.__mod__", "bytearray.__rmod__", "_struct.pack_into.held", "bytearray.find.held"] ++ Builtin.Bytes.decodersThatHold
noncomputable def DOk (dm : Bool) (c : Code) : Bool := !dm || match c with
  | .builtin id _ => !badIds.contains id
  | _ => true
noncomputable def Dm (dm : Bool) (Γ : Ctx) : Prop := DOk dm Γ.code = true ∧ ∀ x ∈ Γ.below, DOk dm x.1 = true

noncomputable def wpD {α : Type} (dm : Bool) (M : Model) (A : Around) (t : Sem α) (Q : α → Shared → Prop) (E : Value → Shared → Prop) (s : Shared) : Prop :=
  ∀ Γ p, Γ.In A → Dm dm Γ → wp M Γ t (fun a _ s' => Q a s') (fun e _ s' => E e s') p s
noncomputable def codeD (dm : Bool) (M : Model) (A : Around) (c : Code) (R : Result → Shared → Prop) (s : Shared) : Prop :=
  ∀ Γ p, Γ.code = c → Γ.Below A → (∀ x ∈ Γ.below, DOk dm x.1 = true) → wpCode M Γ R p s

section
variable {α β : Type} {dm : Bool} {M : Model} {A : Around} {E : Value → Shared → Prop} {s : Shared}

theorem wpD_of {t : Sem α} {Q : α → Shared → Prop} (h : wpAny M A t Q E s) : wpD dm M A t Q E s := fun Γ p hΓ _ => h Γ p hΓ
theorem codeD_of {c : Code} {R : Result → Shared → Prop} (h : codeAny M A c R s) : codeD dm M A c R s := fun Γ p hc hΓ _ => h Γ p hc hΓ
theorem any_of_D {t : Sem α} {Q : α → Shared → Prop} (h : wpD false M A t Q E s) : wpAny M A t Q E s := fun Γ p hΓ => h Γ p hΓ ⟨rfl, fun _ _ => rfl⟩
theorem codeAny_of_D {c : Code} {R : Result → Shared → Prop} (h : codeD false M A c R s) : codeAny M A c R s := fun Γ p hc hΓ => h Γ p hc hΓ fun _ _ => rfl

theorem wpD_mono {t : Sem α} {Q Q' : α → Shared → Prop} {E' : Value → Shared → Prop} (h : wpD dm M A t Q E s) (hQ : ∀ a s, Q a s → Q' a s) (hE : ∀ e s, E e s → E' e s) : wpD dm M A t Q' E' s :=
  fun Γ p hΓ hd => Sem.wp_mono M Γ t (fun a _ s => hQ a s) (fun e _ s => hE e s) p s (h Γ p hΓ hd)
theorem codeD_mono {c : Code} {R R' : Result → Shared → Prop} (h : codeD dm M A c R s) (hR : ∀ r s, R r s → R' r s) : codeD dm M A c R' s :=
  fun Γ p hc hΓ hd => wpCode_mono hR (h Γ p hc hΓ hd)
theorem wpD_pure {a : α} {Q : α → Shared → Prop} (h : Q a s) : wpD dm M A (pure a) Q E s := fun _ _ _ _ => h
theorem wpD_bind {m : Sem α} {f : α → Sem β} {Q : β → Shared → Prop} (h : wpD dm M A m (fun a s' => wpD dm M A (f a) Q E s') E s) : wpD dm M A (m >>= f) Q E s := fun Γ p hΓ hd => by
  rw [Sem.wp_bind']
  exact Sem.wp_mono M Γ m (fun a p' s' h' => h' Γ p' hΓ hd) (fun _ _ _ h' => h') p s (h Γ p hΓ hd)
/-- a leaf of the library, then on -/
theorem wpD_then {m : Sem α} {f : α → Sem β} {Q : β → Shared → Prop} (h : wpAny M A m (fun a s' => wpD dm M A (f a) Q E s') E s) : wpD dm M A (m >>= f) Q E s := wpD_bind (wpD_of h)
theorem wpD_onRaise {m : Sem α} {k : Value → Sem Unit} {Q : α → Shared → Prop} (h : wpD dm M A m Q (fun e s' => wpD dm M A (k e) (fun _ s'' => E e s'') E s') s) : wpD dm M A (m.onRaise k) Q E s := fun Γ p hΓ hd => by
  rw [Sem.wp_onRaise]
  exact Sem.wp_mono M Γ m (fun _ _ _ h' => h') (fun e p' s' h' => h' Γ p' hΓ hd) p s (h Γ p hΓ hd)
theorem wpD_holding {vs : List Value} {m : Sem α} {Q : α → Shared → Prop} (h : wpD dm M A m Q E s) : wpD dm M A (holding vs m) Q E s :=
  fun Γ p hΓ hd => by rw [Sem.wp_holding]; exact h Γ p hΓ hd
theorem wpD_keep {vs : List Value} {m : Sem α} {Q : α → Shared → Prop} (h : wpD dm M A m Q E s) : wpD dm M A (m.keep vs) Q E s :=
  fun Γ p hΓ hd => by rw [Sem.wp_keep]; exact h Γ p hΓ hd
theorem wpD_operate {vs : List Value} {m : Sem Value} {Q : Value → Shared → Prop} (h : wpD dm M A m Q E s) : wpD dm M A (operate vs m) Q E s :=
  fun Γ p hΓ hd => by rw [Sem.wp_operate]; exact h Γ p hΓ hd
theorem wpD_standAt {pos : Pos} {Q : Unit → Shared → Prop} (h : Q () s) : wpD dm M A (standAt pos) Q E s := fun _ _ _ _ => h
theorem wpD_point {Q : Unit → Shared → Prop} (h : Q () s) : wpD dm M A point Q E s := fun _ _ _ _ => h
theorem wpD_rule {tag : String} {Q : Unit → Shared → Prop} (h : Q () s) : wpD dm M A (rule tag) Q E s := fun _ _ _ _ => h
theorem wpD_eq {t : Sem α} {a : α} {Q : α → Shared → Prop} (e : t = pure a) (h : Q a s) : wpD dm M A t Q E s := e ▸ wpD_pure h

theorem Dm.enter {Γ : Ctx} (hd : Dm dm Γ) (c : Code) (h : Option Value) (p : Pos) : ∀ x ∈ (Γ.enter c h p).below, DOk dm x.1 = true := by
  intro x hx
  rcases List.mem_cons.mp hx with rfl | hx
  · exact hd.1
  · exact hd.2 x hx
theorem wpD_run {c : Code} {h : Option Value} {Q : Flow → Shared → Prop}
    (hc : codeD dm M (A.mark h) c (fun r s' => match r with | .ok f => Q f s' | .error e => E e s') s) (hnb : h ≠ some byPass := by intro x; cases x) : wpD dm M A (run c h) Q E s :=
  fun Γ p hΓ hd => by rw [Sem.wp_run]; exact hc _ p rfl (hΓ.enter c h p hnb) (hd.enter c h p)
theorem wpD_runValue {c : Code} {Q : Value → Shared → Prop}
    (hc : codeD dm M A c (fun r s' => match r with | .ok (.ret v) => Q v s' | .ok _ => False | .error e => E e s') s) : wpD dm M A (runValue c) Q E s :=
  fun Γ p hΓ hd => by rw [Sem.wp_runValue]; exact hc _ p rfl (hΓ.enter c none p (by intro x; cases x)) (hd.enter c none p)
theorem wpD_call {f : Value} {pos : List Value} {kw : List (Str × Value)} {Q : Value → Shared → Prop}
    (hc : codeD dm M A (.call f ⟨pos, kw⟩) (fun r s' => match r with | .ok (.ret v) => Q v s' | .ok _ => False | .error e => E e s') s) : wpD dm M A (call f pos kw) Q E s := wpD_runValue hc
theorem codeD_of_tree {c : Code} {R : Result → Shared → Prop} (hk : DOk dm c = true)
    (h : wpD dm M (A.under c) (M.den c) (fun fin s' => match fin with | .done f => R (.ok f) s' | .again c' => c'.quiet = true ∧ codeD dm M A c' R s') (fun e s' => R (.error e) s') s) : codeD dm M A c R s := fun Γ p hc hΓ hd => by
  rw [wpCode_iff_wp, hc]
  refine Sem.wp_mono M Γ _ (fun fin p' s' h' => ?_) (fun _ _ _ h' => h') p s (h Γ p (hc ▸ hΓ.in) ⟨hc ▸ hk, hd⟩)
  cases fin with
  | done f => exact h'
  | again c' => exact ⟨h'.1, h'.2 (Γ.goto c') p' rfl (hΓ.goto c') hd⟩
theorem codeD_loop {c : Code} {R : Result → Shared → Prop} (hq : c.quiet = true) (hk : DOk dm c = true) (I : Nat → Shared → Prop)
    (turn : ∀ n s, I n s → wpD dm M (A.under c) (M.den c)
      (fun fin s' => match fin with | .done f => R (.ok f) s' | .again c' => c' = c ∧ ∃ m, m < n ∧ I m s') (fun e s' => R (.error e) s') s)
    (n : Nat) (h : I n s) : codeD dm M A c R s := by
  induction n using Nat.strongRecOn generalizing s with
  | ind n ih =>
    refine codeD_of_tree hk (wpD_mono (turn n s h) (fun fin s' hf => ?_) fun _ _ h' => h')
    cases fin with
    | done f => exact hf
    | again c' => obtain ⟨rfl, m, hm, hI⟩ := hf; exact ⟨hq, ih m hm hI⟩

theorem wpD_execs_nil {env : Env} {Q : Flow → Shared → Prop} (h : Q .next s) : wpD dm M A (execs [] env) Q E s := fun _ _ _ _ => h
theorem wpD_execs_cons {env : Env} {st : Stmt} {rest : List Stmt} {Q : Flow → Shared → Prop}
    (h : wpD dm M A (exec st env) (fun f s' => match f with | .next => wpD dm M A (execs rest env) Q E s' | f => Q f s') E s) : wpD dm M A (execs (st :: rest) env) Q E s := by
  rw [execs_cons]
  refine wpD_bind (wpD_mono h (fun f s' h' => ?_) fun _ _ e => e)
  cases f <;> first | exact h' | exact wpD_pure h'
theorem wpD_If {env : Env} {test : Expr} {body orelse : List Stmt} {pos : Pos} {Q : Flow → Shared → Prop}
    (h : wpD dm M A (isTrue test env (eval test env)) (fun b s₂ => if b then wpD dm M A (execs body env) Q E s₂ else wpD dm M A (execs orelse env) Q E s₂) E s) : wpD dm M A (exec (.If test body orelse pos) env) Q E s := by
  rw [exec_If]
  refine wpD_bind (wpD_standAt (wpD_bind (wpD_mono h (fun b s₂ h₂ => ?_) fun _ _ e => e)))
  cases b <;> exact h₂
theorem wpD_Return {env : Env} {e : Expr} {pos : Pos} {Q : Flow → Shared → Prop} (h : wpD dm M A (eval e env) (fun v => Q (.ret v)) E s) : wpD dm M A (exec (.Return (some e) pos) env) Q E s := by
  rw [exec_Return_some]
  exact wpD_bind (wpD_standAt (wpD_bind (wpD_mono h (fun v s' h' => wpD_pure h') fun _ _ e => e)))
theorem wpD_Expr {env : Env} {e : Expr} {pos : Pos} {Q : Flow → Shared → Prop} (h : wpD dm M A (eval e env) (fun v s' => v = .none ∧ Q .next s') E s)
    (hi : interactive env = false) (hs : swapsWith e none pos.line env = pure false) : wpD dm M A (exec (.Expr e pos) env) Q E s := by
  rw [exec_Expr env e pos hi hs]
  refine wpD_bind (wpD_standAt (wpD_bind (wpD_mono h (fun v s' h' => ?_) fun _ _ e => e)))
  obtain ⟨rfl, h'⟩ := h'
  rw [dropValue_plain (fun a x => by cases x)]
  exact wpD_pure h'
theorem wpD_Assign_Name {env : Env} {x : Str} {pos' pos : Pos} {value : Expr} {Q : Flow → Shared → Prop}
    (h : wpD dm M A (eval value env) (fun v s₁ => wpAny M A (storeName env x v) (fun _ => Q .next) E s₁) E s)
    (hs : swapsWith value (some (.Name x pos')) pos.line env = pure false) : wpD dm M A (exec (.Assign [.Name x pos'] value pos) env) Q E s := by
  rw [exec_Assign_Name env x pos' value pos hs]
  refine wpD_bind (wpD_standAt (wpD_bind (wpD_mono h (fun v s₁ h₁ => wpD_bind (wpD_standAt (wpD_then (wpAny_bindName (wpAny_mono h₁ (fun _ _ q => wpD_pure q) fun _ _ e => e)))) ) fun _ _ e => e)))
theorem wpD_runOwn {env : Env} {c : Code} {h : Option Value} {Q : Flow → Shared → Prop}
    (hc : codeD dm M (A.mark h) c (fun r s' => match r with | .ok f => Q f s' | .error _ => False) s) (hnb : h ≠ some byPass := by intro x; cases x) : wpD dm M A (runOwn c env h) Q E s := by
  unfold runOwn
  refine wpD_onRaise (wpD_run (codeD_mono hc fun r s' hr => ?_) hnb)
  cases r with
  | ok f => exact hr
  | error e => exact hr.elim
end
end Mine
end

section
open PySem PySem.W PyProof.Rows PySem.Calls
set_option Elab.async false
set_option autoImplicit false

namespace Mine

theorem callerD : Dm true (⟨.builtin "claim.caller" {}, none, none, [], none⟩ : Ctx) := ⟨by decide +kernel, fun _ h => by cases h⟩

/-- the walk of the law's call, asked of clean stacks alone -/
noncomputable abbrev WalkD (q : Program) (loose : List Str) (XP : (Str → Option Value) → Heap → Prop) (YP : World → Heap → Prop) (r : RowW) (d : DefRec) (kwd : List (Str × Expr)) : Prop :=
  ∀ (w : World) (s₀ s₁ : Shared) (mg mb : Str → Option Value), Ground q loose r.records XP w s₀ mg mb s₁.heap → YP w s₁.heap → ∀ (a : Addr) (o : Obj) (pm cd doc dV kV : Value), s₁.heap.get? a = some o →
    o.data = .func { docDef d.name d.params d.body d.scope pm cd doc with defaults := dV, kwdefaults := kV } → s₁.heap.CodeRec cd d.name → Dflts mg s₁.heap d.params kwd dV kV → mg d.name = some (.ref a) → s₁.gens = #[] →
    ∀ (args : List WData) (vals : List Value) (as : List Addr), r.claim.pre args = true → WData.layableAll args = true → ReadsAllW r.records (classAt s₀.heap) s₁.heap vals args as → WellAll w.params s₁.heap vals args → (∀ a ∈ as, (a == sysModules) = false) →
      wpD true (model r.prog w) callerA (PySem.call (.ref a) vals) (fun v s' => GoodWG r.claim (classAt s₀.heap) (ExcName.means s₀.heap) args s₁ (.ok (.ret v)) s')
        (fun e s' => GoodWG r.claim (classAt s₀.heap) (ExcName.means s₀.heap) args s₁ (.error e) s') s₁

theorem holds_D {r : OpenRow} {q : Program} {loose : List Str} {Xt : Shared → Bool} {XP : (Str → Option Value) → Heap → Prop} {α : Type} {Yf : Shared → α} {Ya : World → α} {YP : World → Heap → Prop} {d : DefRec} {kwd : List (Str × Expr)} {N : Nat}
    (left : LeftO r.prog q loose Xt Yf Ya N) (hY : ∀ w s, Yf s = Ya w → YP w s.heap) (hYk : ∀ w h h', YP w h → (∀ b o, h.get? b = some o → h'.get? b = some o) → YP w h')
    (hX : ∀ s, Xt s = true → XP (s.heap.nsMap mainGlobals) s.heap) (hXk : ∀ mg h h', XP mg h → (∀ b o, h.get? b = some o → h'.get? b = some o) → XP mg h')
    (hdef : defOf q r.name = some (d, kwd)) (hp : r.prog.theDef r.name = some (d.params, d.body, d.scope)) (hk : kwWritten? d.params.kwonlyargs d.params.kw_defaults = some kwd) (hRf : ∀ s, Xt s = true → RecFacts r.records s.heap) (hwr : (!r.writes || r.records.isEmpty) = true)
    (k1 : r.wellSaid = true) (ok : (chainsOk q && opensWell r.prog && (frees r.toRowW && r.within.isEmpty)) = true) (hb : r.prog.bare) (hw : r.toRowW.promised)
    (walk : WalkD q loose XP YP r.toRowW d kwd) : r.Holds := by
  simp only [Bool.and_eq_true] at ok
  obtain ⟨⟨hch, o1⟩, k5, k6⟩ := ok
  obtain ⟨hsame, hu, ha, hap, hm⟩ := frees_parts k5
  have hwi : r.toRowW.claim.within = [] := List.isEmpty_iff.mp k6
  refine ⟨k1, hw, ⟨hb, o1, by show r.makers.map _ = []; rw [hm]; rfl⟩, hw.witness, fun w => ?_⟩
  have beh := left.behind (XP := fun mg h => XP mg h ∧ RecFacts r.records h) (fun s hs => ⟨hX s hs, hRf s hs⟩) hch w
  refine ⟨beh.1, fun s' hs' => ?_⟩
  refine pvar fun P kP => ?_
  obtain ⟨s₀, hf, hg0, s, hT, hz, hgens, hg, G00, y⟩ := beh.2 s' hs'
  have G0 : Ground q loose [] XP w s (s.heap.nsMap mainGlobals) (s.heap.nsMap builtinsNs) s.heap := ⟨G00.T, G00.B, G00.D, G00.TE, G00.TD, G00.W, G00.X.1, G00.cls, G00.has, G00.apart, G00.once, G00.K⟩
  have RF := G00.X.2
  refine kP ⟨s₀, hf, hg0, s, hT, fun n hn => ?_, RF.1, RF.2.1, ?_⟩
  · obtain rfl : n = r.name := by split at hn <;> simp_all
    exact pinned_of_view hg G0 hdef hp hk
  have hT' := hT
  have hgens : s.gens = #[] := Array.eq_empty_of_size_eq_zero (beq_iff_eq.mp hgens)
  have G : Ground q loose r.records XP w s _ _ s.heap := RF.ground G0
  intro args hpre hlay ord hord
  refine pvar fun P kP => ?_
  obtain ⟨⟨vs, s₁⟩, hlaid⟩ := Option.isSome_iff_exists.mp (layAllW_isSome (P := w.params) (ord := ord) G.has args r.toRowW.args s (pre_splitW hpre).1)
  have keeps := layAllW_keeps _ _ _ hlaid
  have hal := layAllW_rest _ _ _ hlaid
  obtain ⟨as, hrd, hin, hold⟩ := reads_layAllW hord _ _ _ hlaid hlay s₁.heap (fun _ _ e => e)
  have L : Laid r.records w s s₁ args vs as := ⟨⟨ord, hord, hlaid⟩, hrd, hin, hold, keeps, hal.1.trans hgens, hal.2.2.1⟩
  have G₁ := G.keeps hXk keeps
  obtain ⟨a, o, pm, cd, doc, dV, kV, h1, h2, h3, h4, h5⟩ := G₁.fn hdef
  have h := walk w s s₁ _ _ G₁ (hYk _ _ _ (hY w s y) keeps) a o pm cd doc dV kV h2 h3 h4 h5 (defOf_name hdef ▸ h1) L.gens args vs as hpre hlay L.reads L.well (L.low G.low)
  have hi := ident_freeW hu ha hap
  let R : Result → Shared → Prop := fun r' s' => r.toRowW.claim.Ends s args vs s₁ r' s' ∧ s'.os = s.os ∧ (r.writes = true → namesKept r.prog r.keeps s.heap s'.heap ∧ ∀ x ∈ r.records, ∀ a, classAt s.heap x.1 = some a → recordClass s'.heap a x.1 (x.2.map (·.1)) = true)
  have fin : ∀ r' s', GoodWG r.toRowW.claim (classAt s.heap) (ExcName.means s.heap) args s₁ r' s' → R r' s' ∧ leftWithCleanup s'.gens = false := fun r' s' g => by
    have z := g.laid (c := r.toRowW.claim) hsame hwi hi L
    exact ⟨⟨z.1, z.2.1, fun q => ⟨namesKept_of hT' hg r.keeps keeps g.2.1.old, noTable hwr q⟩⟩, leftWithCleanup_false_of_bare z.2.2⟩
  have hwp := h ⟨.builtin "claim.caller" {}, none, none, [], none⟩ default caller_in callerD
  obtain ⟨k, r', s₃, s₂, hsched, hrun, hfo, hcase, hos, hkp⟩ := wp_halts_full (M := model r.prog w) (R := R) (c := .builtin "claim.caller" {}) (p := default) (s := s₁)
    (t := do match ← nsGet mainNs r.name with
      | some f => do ret (← PySem.call f vs)
      | none => unsupported "claim.caller:no-such-global") (Shared.asleep_of_life hal.2.2.2 hz) (by
    have hns : wpAny (model r.prog w) callerA (nsGet mainNs r.name) (fun v s' => v = some (.ref a) ∧ s' = s₁) (fun _ _ => False) s₁ := wpAny_nsGet G₁.T.g ⟨h1, rfl⟩
    rw [Sem.wp_bind']
    refine Sem.wp_mono _ _ _ ?_ ?_ _ _ (hns _ default caller_in)
    · rintro _ p' _ ⟨rfl, rfl⟩
      rw [Sem.wp_bind']
      exact Sem.wp_mono _ _ _ (fun v _ s' g => fin _ _ g) (fun e _ s' g => fin _ _ g) _ _ (h _ _ caller_in callerD)
    · exact fun _ _ _ q => q.elim)
  obtain ⟨eh, _, _, eo, _⟩ := Shared.forget_eq hfo
  have hcase := hcase.congr eh
  rw [← eh] at hkp
  rw [← eo] at hos
  have hlife : s₂.heap.life = s.heap.life := (runN_life _ _ _ hrun).trans hal.2.2.2
  refine kP ⟨vs, s₁, hlaid, k, _, s₂, hsched, ?_, (fun _ i x hx => by rw [hgens] at hx; simp at hx), hkp, by rw [hlife], Shared.rest_eq hos⟩
  rcases hcase with ⟨v, rfl, d1, d2, d3, d4, d5⟩ | ⟨e, ob, cls, rfl, d1, d2, d3, d4, d5⟩
  · exact .inl ⟨v, rfl, d1, d2, d3, fun b o y _ => d4 b o y, d5⟩
  · exact .inr ⟨e, ob, cls, rfl, d1, d2, d3, d4, fun b o y _ => d5 b o y⟩
end Mine
end

section
open PySem PySem.W PyProof.Rows
set_option Elab.async false
namespace Mine
section
local macro_rules | `(tactic| o_head $_) => `(tactic| assumption)
set_option maxRecDepth 100000 in
set_option maxHeartbeats 8000000 in
/-- this makes the written part of the program's objects -/
theorem frag (h : PySem.Challenge.rw_no0403_01.row.Holds) : PySem.Challenge.rw_no0403_01.row.Holds := by k_head
end
end Mine
end

section
open PySem PySem.W PyProof.Rows
set_option Elab.async false
namespace Mine
noncomputable def keepL : List Nat := [1, 2, 3, 4, 5, 7, 8, 9, 10, 11, 12, 13, 14, 16, 17, 19, 20, 21, 22, 23, 24, 25, 26, 27, 28, 29, 30, 31, 32, 34, 35, 36, 37, 38, 39, 40]
noncomputable def lawView : Program := view PySem.Challenge.rw_no0403_01.row.prog keepL
noncomputable abbrev lawLoose : List Str := [Str.ofString "crc32c"]
noncomputable def asL : List Addr := [2, 3, 15, 22, 23, 24, 25, 28, 35, 36, 37, 40, 47, 48, 49, 52, 59, 60, 61, 64, 71, 72, 73, 76, 78, 79, 81, 82, 83, 85, 86, 88, 89, 90, 92, 93, 95, 96, 97, 98, 100, 101, 103, 104, 105, 107, 108, 110, 111, 112, 114, 115, 117, 118, 119, 121, 122, 124, 125, 126, 128, 129, 131, 132, 133, 135, 136, 138, 139, 147, 149, 150, 152, 153, 154, 156, 157, 159, 160, 161, 163, 164, 166, 167, 168, 170, 171, 173, 174, 175, 177, 178, 180, 181, 182, 183, 184, 185, 186, 189, 191, 192, 194, 195, 196, 198, 199, 201, 202, 203, 205, 206, 208, 209, 210, 212, 213, 215, 216, 217, 220, 221, 222, 224, 225, 227, 228, 229, 232, 233, 234, 237, 238]
noncomputable def lawHook : Hook := kHook frag.heap_1 asL (fun _ => by kernel_rfl)
noncomputable abbrev lawXt (s : Shared) : Bool := xlAt lawView [] s && recOk (RowW.records PySem.Challenge.rw_no0403_01.row.toRowW) s

/-- the run of the text's top, by the kernel (the library's quick twins stand for the machine's parts) -/
theorem law_top : LeftO PySem.Challenge.rw_no0403_01.row.prog lawView lawLoose lawXt lawHook.obs lawHook.val 4458 := fun w => by
  unfold openEnds fencedOpening topFrom openGood topStub
  rw [PySem.W.Fast.te14082659384304107361, PySem.W.Fast.te10274390034422433532, PySem.W.Fast.te14364793385576792824, PySem.W.Fast.te4187177175401517315, PySem.W.Fast.te14289696077712309145, PySem.W.Fast.te1435165496053646825,
    PySem.W.Fast.te3247288618530077131, PySem.W.Fast.te821141287760084731, PySem.W.Fast.te5923862056798008813, PySem.W.Fast.te17154629097778926822, PySem.W.Fast.te12822647523644345616]
  kernel_rfl
end Mine
end

section
open PySem PySem.W PyProof.Rows
set_option Elab.async false
namespace Mine
/-! the row is well said, piece by piece (each by the kernel, with the library's quick twins) -/
noncomputable abbrev lawP : Program := PySem.Challenge.rw_no0403_01.row.prog
theorem ls1 : sreFenced lawP.main = true := by rw [Fast.te11788848310118352699]; kernel_rfl
theorem ls2 : ((moduleNames lawP.main.body).isEmpty || lookedIntoSs (moduleNames lawP.main.body) lawP.main.body) = true := by rw [Fast.te9807087744658564304]; kernel_rfl
theorem ls3 : namesResolve lawP = true := by rw [Fast.te8377067652309620493]; kernel_rfl
theorem ls4 : lawP.boundNames.all (fun n => !worldNames.contains n) = true := by rw [Fast.te18344453789297297638, Fast.te14412699480532031325]; kernel_rfl
theorem ls5x : readsOut lawP lawP.main.body "vars" = false := by rw [Fast.te13343964577679436407]; kernel_rfl
theorem ls5y : readsOut lawP lawP.main.body "dir" = false := by rw [Fast.te13343964577679436407]; kernel_rfl
theorem ls5z : readsOut lawP lawP.main.body "locals" = false := by rw [Fast.te13343964577679436407]; kernel_rfl
theorem ls5a : (["vars", "dir", "locals"] : List Str).filter (readsOut lawP lawP.main.body) = [] := by
  rw [List.filter_cons_of_neg (by rw [ls5x]; exact Bool.false_ne_true), List.filter_cons_of_neg (by rw [ls5y]; exact Bool.false_ne_true), List.filter_cons_of_neg (by rw [ls5z]; exact Bool.false_ne_true)]; rfl
theorem ls5b : (importedModules lawP.main.body).all cThrough.contains = true := by kernel_rfl
theorem ls5 : noRoadLSs { strict := !(importedModules lawP.main.body).all cThrough.contains, foot := none, bare := (["vars", "dir", "locals"] : List Str).filter (readsOut lawP lawP.main.body) } lawP.main.body = true := by
  rw [ls5a, ls5b, Fast.te8326940854005059898]; kernel_rfl
theorem ls6 : (namesMeet lawP lawP.main.body fun _ n => attrL n) = true := by rw [Fast.te17119622794617984870, Fast.te17868728402115742887]; kernel_rfl
theorem ls7 : looksOpen lawP = true := look_both (look_both (look_both (look_both (look_both ls1 ls2) ls3) ls4) ls5) ls6
theorem ls8 : PySem.Challenge.rw_no0403_01.row.partSaid = true := by
  unfold OpenRow.partSaid
  rw [ls7]
  kernel_rfl
theorem ls9 : PySem.Challenge.rw_no0403_01.row.wellSaid = true := by
  unfold OpenRow.wellSaid
  rw [ls8]
  kernel_rfl
noncomputable abbrev lawL : OpenLaw := PySem.Challenge.rw_no0403_01
theorem lt1 : lawL.footing.all footLine = true := by rw [Fast.te10501279942588096481]; kernel_rfl
theorem lt2 : noClassBlock lawL.prog lawL.footing = true := by rw [Fast.te8179353310426384613]; kernel_rfl
theorem lt3 : noRoadLSs { strict := true, foot := some lawL.bound', writes := lawL.writes, may := lawL.may } lawL.footing = true := by rw [Fast.te8326940854005059898]; kernel_rfl
theorem lt4 : defStands lawL.about lawL.above = true := by rw [Fast.te9558739934217749035]; kernel_rfl
theorem lt5 : lawL.namesIt = true := by rw [Fast.te16286561074155671207]; kernel_rfl
theorem lt6 : namesMeet lawL.prog lawL.above (fun _ n => !lawL.own.contains n) = true := by rw [Fast.te17119622794617984870, Fast.te10792542408131684335]; kernel_rfl
theorem lt7 : namesMeet lawL.prog lawL.footing (fun sc n => sc.kind == .module || sc.names.lookup n != some .globalExplicit) = true := by rw [Fast.te17119622794617984870]; kernel_rfl
theorem law_said : lawL.wellSaid = true := by
  unfold OpenLaw.wellSaid
  rw [ls9, lt1, lt2, lt3, lt4, lt5, lt6, lt7]
  rw [Fast.te17119622794617984870, Fast.te10792542408131684335, Fast.te6984425678791042302]
  kernel_rfl
theorem law_promised : PySem.Challenge.rw_no0403_01.row.toRowW.promised := by w_witness2
noncomputable def lawDef : DefRec × List (Str × Expr) := ((defOf lawView (Str.ofString "law")).getD (⟨"", ⟨[], [], none, [], [], none, []⟩, [], ⟨.function, [], false, false, []⟩, default⟩, []))

/-- what is asked of the law's walk -/
noncomputable abbrev LawWalk : Prop := WalkD lawView lawLoose (XL lawView []) lawHook.says PySem.Challenge.rw_no0403_01.row.toRowW lawDef.1 lawDef.2

theorem hd (walk : LawWalk) : PySem.Challenge.rw_no0403_01.Holds := by
  refine holds_law law_said fun said => ?_
  exact holds_D (q := lawView) (loose := lawLoose) (Xt := lawXt) (XP := XL lawView []) (Yf := lawHook.obs) (Ya := lawHook.val) (YP := lawHook.says) (d := lawDef.1) (kwd := lawDef.2) (N := 4458) law_top lawHook.of lawHook.keeps
    (fun s e => xl_of s (Bool.and_eq_true_iff.mp e).1) XL.keeps (by kernel_rfl) (by kernel_rfl) (by kernel_rfl) (fun s e => recFacts_of (Bool.and_eq_true_iff.mp e).2) (by kernel_rfl) said (by decide +kernel) ⟨rfl, rfl, rfl, rfl, rfl, by decide +kernel⟩ law_promised walk
end Mine
end

section
set_option genInjectivity false
open PySem PySem.W PyProof.Rows PySem.Calls PySem.Builtin
set_option Elab.async false
set_option autoImplicit false
set_option maxRecDepth 100000
namespace Mine
namespace BA

theorem owner : Manifest.owners.lookup (String.ofList ['y', 'a', 'r', 'r', 'a', 'e', 't', 'y', 'b'].reverse) = some Manifest.sig_bytearray := by kernel_rfl
theorem slot_len : Slot "bytearray" "__len__" "bytearray.__len__" :=
  .of (owner := "bytearray") (n := "__len__") (by rw [typeLookup_type, builtinLookup_eq_fast]; kernel_rfl) (by decide +kernel) (by decide +kernel) (by decide +kernel)
    (by first | exact .inl (by decide +kernel) | exact .inr (by decide +kernel)) (by rw [isSubtype_type]; kernel_rfl)
theorem entry_len : entryFor table "bytearray.__len__" = some Builtin.«bytearray.__len__» := by first | exact entryFor_of_tree (by kernel_rfl) | exact entryFor_of_fast (by kernel_rfl)
theorem args_len (a : Value) : argsOk "bytearray.__len__" ⟨[a], []⟩ := by
  unfold argsOk; rw [signature?_of (id := "bytearray.__len__") (n := ['_', '_', 'n', 'e', 'l', '_', '_']) (o := ['y', 'a', 'r', 'r', 'a', 'e', 't', 'y', 'b']) (by kernel_rfl) owner]; kernel_rfl
theorem slot_extend : Slot "bytearray" "extend" "bytearray.extend" :=
  .of (owner := "bytearray") (n := "extend") (by rw [typeLookup_type, builtinLookup_eq_fast]; kernel_rfl) (by decide +kernel) (by decide +kernel) (by decide +kernel)
    (by first | exact .inl (by decide +kernel) | exact .inr (by decide +kernel)) (by rw [isSubtype_type]; kernel_rfl)
theorem type_extend : typeOf (.builtin "bytearray.extend") = pure (.type "method_descriptor") := by show builtinType _ = _; rw [builtinType_eq_fast]; kernel_rfl
theorem entry_extend : entryFor table "bytearray.extend" = some Builtin.«bytearray.extend» := by first | exact entryFor_of_tree (by kernel_rfl) | exact entryFor_of_fast (by kernel_rfl)
theorem args_extend (a b : Value) : argsOk "bytearray.extend" ⟨[a, b], []⟩ := by
  unfold argsOk; rw [signature?_of (id := "bytearray.extend") (n := ['d', 'n', 'e', 't', 'x', 'e']) (o := ['y', 'a', 'r', 'r', 'a', 'e', 't', 'y', 'b']) (by kernel_rfl) owner]; kernel_rfl
theorem slot_init : Slot "bytearray" "__init__" "bytearray.__init__" :=
  .of (owner := "bytearray") (n := "__init__") (by rw [typeLookup_type, builtinLookup_eq_fast]; kernel_rfl) (by decide +kernel) (by decide +kernel) (by decide +kernel)
    (by first | exact .inl (by decide +kernel) | exact .inr (by decide +kernel)) (by rw [isSubtype_type]; kernel_rfl)
theorem entry_init : entryFor table "bytearray.__init__" = some Builtin.«bytearray.__init__» := by first | exact entryFor_of_tree (by kernel_rfl) | exact entryFor_of_fast (by kernel_rfl)
theorem args_init1 (a b : Value) : argsOk "bytearray.__init__" ⟨[a, b], []⟩ := by
  unfold argsOk; rw [signature?_of (id := "bytearray.__init__") (n := ['_', '_', 't', 'i', 'n', 'i', '_', '_']) (o := ['y', 'a', 'r', 'r', 'a', 'e', 't', 'y', 'b']) (by kernel_rfl) owner]; kernel_rfl
theorem args_init0 (a : Value) : argsOk "bytearray.__init__" ⟨[a], []⟩ := by
  unfold argsOk; rw [signature?_of (id := "bytearray.__init__") (n := ['_', '_', 't', 'i', 'n', 'i', '_', '_']) (o := ['y', 'a', 'r', 'r', 'a', 'e', 't', 'y', 'b']) (by kernel_rfl) owner]; kernel_rfl
theorem mro : mroOf (.type "bytearray") = pure [.type "bytearray", .type "object"] := by rw [mroOf_type]; kernel_rfl
theorem lookup_new : typeLookup (.type "bytearray") "__new__" = pure (some (.builtin "bytearray.__new__")) := by rw [typeLookup_type, builtinLookup_eq_fast]; kernel_rfl
theorem called : TypeCalled "bytearray" "bytearray.__new__" "bytearray.__init__" :=
  ⟨by decide +kernel, by decide +kernel, ⟨_, _, mro⟩, madeBy_type mro lookup_new (by decide +kernel), by decide +kernel, by rw [isSubtype_type]; kernel_rfl, slot_init⟩
theorem typeCall0 : checkTypeCall "bytearray" ⟨[], []⟩ = pure () := by kernel_rfl
theorem typeCall1 (a : Value) : checkTypeCall "bytearray" ⟨[a], []⟩ = pure () := by kernel_rfl
theorem newCall0 : checkBuiltinCall "bytearray.__new__" ⟨[.type "bytearray"], []⟩ = pure () := by kernel_rfl
theorem newCall1 (a : Value) : checkBuiltinCall "bytearray.__new__" ⟨[.type "bytearray", a], []⟩ = pure () := by kernel_rfl
theorem entry_new : entryFor table "bytearray.__new__" = some Builtin.«list.__new__» := by
  exact entryFor_alias (id' := "list.__new__") (by kernel_rfl) rfl (by decide +kernel) (by kernel_rfl)
theorem plain_new : plainId "bytearray.__new__" = true := by decide +kernel
set_option maxRecDepth 1000000 in
set_option maxHeartbeats 4000000 in
theorem owner_new : ("bytearray.__new__".splitOn ".__new__").headD "" = "bytearray" := by simp +decide [String.splitOn, String.splitOnAux]
theorem sub_self : isSubtype (.type "bytearray") (.type "bytearray") = pure true := by rw [isSubtype_type]; kernel_rfl
theorem getattribute : typeLookup (.type "bytearray") "__getattribute__" = pure (some (.builtin "bytearray.__getattribute__")) := by rw [typeLookup_type, builtinLookup_eq_fast]; kernel_rfl
theorem canon : (Manifest.canonical "bytearray.__getattribute__" != "object.__getattribute__") = false := by first | kernel_rfl | decide +kernel
theorem getattr_none : typeLookup (.type "bytearray") "__getattr__" = pure none := by rw [typeLookup_type, builtinLookup_eq_fast]; kernel_rfl
theorem noindex : typeLookup (.type "bytearray") "__index__" = pure none := by rw [typeLookup_type, builtinLookup_eq_fast]; kernel_rfl
theorem no_bytes : typeLookup (.type "bytearray") "__bytes__" = pure none := by rw [typeLookup_type, builtinLookup_eq_fast]; kernel_rfl
theorem look_buffer : typeLookup (.type "bytearray") "__buffer__" = pure (some (.builtin "bytearray.__buffer__")) := by rw [typeLookup_type, builtinLookup_eq_fast]; kernel_rfl
theorem look_release : typeLookup (.type "bytearray") "__release_buffer__" = pure (some (.builtin "bytearray.__release_buffer__")) := by rw [typeLookup_type, builtinLookup_eq_fast]; kernel_rfl
theorem no_mbuffer_bytes : typeLookup (.type "bytes") "__index__" = pure none := by rw [typeLookup_type, builtinLookup_eq_fast]; kernel_rfl
theorem bytes_bytes : typeLookup (.type "bytes") "__bytes__" = pure (some (.builtin "bytes.__bytes__")) := by rw [typeLookup_type, builtinLookup_eq_fast]; kernel_rfl
end BA
end Mine
end

section
set_option genInjectivity false
open PySem PySem.W PyProof.Rows PySem.Calls PySem.Builtin
set_option Elab.async false
set_option autoImplicit false
set_option maxRecDepth 100000
namespace Mine

section
variable {prog : Program} {w : World} {A : Around} {s : Shared} {E : Value → Shared → Prop} {dm : Bool}

theorem bar_type {a : Addr} {b : Array UInt8} (h : s.heap.get? a = some (barO b)) : s.TypeIs (.ref a) "bytearray" := ⟨_, h, rfl⟩
theorem bar_payload {α : Type} {a : Addr} {b : Array UInt8} {f : Array UInt8 → Sem α} {Q : α → Shared → Prop} (h : s.heap.get? a = some (barO b)) (k : wpAny (model prog w) A (f b) Q E s) : wpAny (model prog w) A (Bytes.payload (.ref a) >>= f) Q E s := by
  unfold Bytes.payload Bytes.payload?
  refine wpAny_bind (wpAny_bind (wpAny_bind (wpAny_load h ?_)))
  exact wpAny_pure (wpAny_pure k)
theorem bar_len {a : Addr} {b : Array UInt8} {Q : Value → Shared → Prop} (h : s.heap.get? a = some (barO b)) (hb : b.size ≤ 1000000) (k : Q (.int b.size (s.toks + 1)) { s with toks := s.toks + 1 + 1 }) :
    wpAny (model prog w) A (call (.builtin "len") [.ref a]) Q E s := by
  refine call_function_entry kind_len plain_len entry_len (args_len1 _) ?_
  unfold Builtin.«len»
  refine wpAny_bind (m := oneArg "len" _) (wpAny_pure ?_)
  refine wpAny_bind (m := callSpecial? (.ref a) (Str.ofString "__len__")) (wpAny_callSpecial?_slot (name := Str.ofString "__len__") (bar_type h) BA.slot_len
    (wpAny_call_entry BA.slot_len (bar_type h) BA.entry_len ?_ (BA.args_len _)))
  show wpAny _ _ (do retInt (← Bytes.payload (.ref a)).size) _ _ s
  refine bar_payload h ?_
  refine wpAny_bind (wpAny_mkInt (wpAny_pure ⟨_, rfl, ?_⟩))
  refine wpAny_bind (wpAny_holding (wpAny_pure ?_))
  refine wpAny_bind (wpAny_letGo ?_)
  show wpAny _ _ (if ((b.size : Nat) : Int) < 0 then _ else _) _ _ _
  rw [if_neg (by omega)]
  show wpAny _ _ (if ((b.size : Nat) : Int) ≥ 2 ^ 63 then _ else _) _ _ _
  rw [if_neg (by omega)]
  exact wpAny_bind (wpAny_mkInt (wpAny_pure ⟨_, rfl, k⟩))

theorem bar_getMethod {a : Addr} {b : Array UInt8} {pl : Sem Bool} {Q : Value × List Value → Shared → Prop} (h : s.heap.get? a = some (barO b)) (k : Q (.builtin "bytearray.extend", [.ref a]) s) :
    wpAny (model prog w) A (getMethod (.ref a) "extend" pl) Q E s := by
  have hT := bar_type h
  unfold getMethod
  refine wpAny_bind (wpAny_specialOf hT BA.getattribute ?_)
  show wpAny _ A (if (Manifest.canonical "bytearray.__getattribute__" != "object.__getattribute__") = true then _ else _) Q E s
  rw [BA.canon, if_neg Bool.false_ne_true]
  refine wpAny_bind (wpAny_specialOf hT BA.getattr_none ?_)
  refine wpAny_bind (wpAny_specialOf hT BA.slot_extend.lookup ?_)
  refine wpAny_bind (wpAny_of_eq BA.type_extend ?_)
  refine wpAny_bind (wpAny_load h ?_)
  exact wpAny_bind (wpAny_rule (wpAny_pure k))

/-- nobody on the stack holds it -/
theorem bar_exported {a : Addr} {Q : Bool → Shared → Prop} (k : Q false s) : wpD true (model prog w) A (Bytes.exported (.ref a)) Q E s := fun Γ p _ hd => by
  unfold Bytes.exported
  show Q _ s
  have e : ∀ b, b = false → Q b s := fun b hb => hb ▸ k
  refine e _ (List.any_eq_false.mpr fun x hx => ?_)
  have h : DOk true x.1 = true := (List.mem_cons.mp hx).elim (fun q => q ▸ hd.1) (hd.2 x)
  obtain ⟨c, p'⟩ := x
  cases c with
  | builtin id args =>
    have h' : badIds.contains id = false := Bool.not_eq_true' _ ▸ h
    have n : ∀ {i : String}, badIds.contains i = true → ¬ id = i := fun q r => by rw [← r, h'] at q; cases q
    have d : ∀ b : Bool, ¬ (b && Bytes.decodersThatHold.contains id) = true := fun b q => by
      unfold badIds at h'; rw [List.contains_append, (Bool.and_eq_true_iff.mp q).2, Bool.or_true] at h'; cases h'
    unfold Bytes.exported.match_1
    dsimp only [Bytes.exported._sparseCasesOn_1]
    rw [dif_neg (n rfl), dif_neg (n rfl), dif_neg (n rfl), dif_neg (n rfl), dif_neg (n rfl)]
    obtain ⟨_ | ⟨v, r⟩, kw⟩ := args
    · exact Bool.false_ne_true
    · exact d _
  | _ => exact Bool.false_ne_true
end
end Mine
end

section
set_option genInjectivity false
open PySem PySem.W PyProof.Rows PySem.Calls PySem.Builtin
set_option Elab.async false
set_option autoImplicit false
set_option maxRecDepth 100000
namespace Mine

section
variable {prog : Program} {w : World} {A : Around} {s : Shared} {E : Value → Shared → Prop} {dm : Bool} {R : Result → Shared → Prop}

theorem bar_write {a : Addr} {b : Array UInt8} {f : Array UInt8 → Array UInt8} {Q : Unit → Shared → Prop} (h : s.heap.get? a = some (barO b)) (hb : (f b).size ≤ 1000000)
    (k : ∀ h', (∀ c o, c ≠ a → s.heap.get? c = some o → h'.get? c = some o) → h'.get? a = some (barO (f b)) → Q () { s with heap := h' }) : wpAny (model prog w) A (Bytes.write (.ref a) f) Q E s := by
  unfold Bytes.write updateBytearray
  refine wpAny_bind (wpAny_load h ?_)
  show wpAny _ _ (update a (Obj.mapBytearray f) >>= fun _ => lookBehind a) _ _ _
  refine wpAny_bind (wpAny_update h ?_)
  have h2 : (s.heap.update a (Obj.mapBytearray f)).get? a = some (barO (f b)) := Heap.get?_update_self (Obj.mapBytearray f) h rfl
  refine wpAny_lookBehind h2 ?_ (k _ (fun c o hc e => (Heap.get?_update_other _ _ (Ne.symm hc)).trans e) h2)
  show (if (f b).size > sizeLine then some "bytearray:memory" else none) = none
  rw [if_neg (by rw [sizeLine_eq]; omega)]

theorem codeD_call_builtin {i : String} {args : Args} {b : Builtin} (hq : plainId i = true) (hk : DOk dm (.builtin i args) = true) (hb : entryFor table i = some b)
    (h : wpAny (model prog w) A.in1 (checkBuiltinCall i args) (fun _ s₁ => wpD dm (model prog w) A.in1 (b args)
      (fun fin s' => match fin with | .done f => R (.ok f) s' | .again c' => c'.quiet = true ∧ codeD dm (model prog w) A c' R s') (fun e s' => R (.error e) s') s₁)
      (fun e s' => R (.error e) s') s) : codeD dm (model prog w) A (.call (.builtin i) args) R s := by
  refine codeD_of_tree (by cases dm <;> rfl) ?_
  show wpD _ _ A.in1 (do checkBuiltinCall i args; again (.builtin i args)) _ _ s
  refine wpD_then (wpAny_mono h (fun _ s₁ h₁ => wpD_pure (And.intro (plainId_quiet hq args) (codeD_of_tree hk ?_))) fun _ _ e => e)
  rw [Around.under_plainId hq args]
  show wpD _ _ _ (match entryFor table i with | some b => b args | none => unsupported ((withoutEnding? i "#data").getD i)) _ _ s₁
  rw [hb]; exact h₁

theorem take_bytes {i : String} {b : Array UInt8} {t : Tok} : Bytes.takeBufferQuiet? i (.bytes b t) 0 = pure (some (b, none)) := by
  have e : Bytes.takeBuffer? i (.bytes b t) 0 = pure (some (b, none)) := by
    unfold Bytes.takeBuffer?
    rw [KBy.special_eq KBy.look_buffer]
    rw [pure_bind, KBy.own_buffer, pure_bind]
    rw [show (0 == Bytes.fullReadOnly) = false from by decide +kernel, KBy.buffer_eq]
    rfl
  unfold Bytes.takeBufferQuiet?
  rw [e]; rfl

theorem bar_payload' {a : Addr} {b : Array UInt8} {Q : Array UInt8 → Shared → Prop} (h : s.heap.get? a = some (barO b)) (k : Q b s) : wpAny (model prog w) A (Bytes.payload (.ref a)) Q E s := by
  unfold Bytes.payload Bytes.payload?
  refine wpAny_bind (wpAny_bind (wpAny_load h ?_))
  exact wpAny_pure (wpAny_pure k)

theorem bar_check {a : Addr} {b : Array UInt8} {Q : Unit → Shared → Prop} (h : s.heap.get? a = some (barO b)) (k : Q () s) : wpD true (model prog w) A (Bytes.checkResize (.ref a)) Q E s := by
  unfold Bytes.checkResize
  refine wpD_bind ?_
  unfold orM
  refine wpD_bind (bar_exported ?_)
  refine wpD_bind ?_
  unfold Bytes.exportsOf
  refine wpD_then (wpAny_load h ?_)
  exact wpD_pure (wpD_pure (by rw [if_neg (by decide)]; exact wpD_pure k))

theorem dok_extend (args : Args) : DOk true (.builtin "bytearray.extend" args) = true := by
  have e : badIds.contains "bytearray.extend" = false := by decide +kernel
  show (!true || !badIds.contains "bytearray.extend") = true
  rw [e]; rfl
theorem dok_init (args : Args) : DOk true (.builtin "bytearray.__init__" args) = true := by
  have e : badIds.contains "bytearray.__init__" = false := by decide +kernel
  show (!true || !badIds.contains "bytearray.__init__") = true
  rw [e]; rfl

/-- parts.extend(octets) -/
theorem bar_extend {a : Addr} {b : Array UInt8} {m : Array UInt8} {t : Tok} {Q : Value → Shared → Prop} (h : s.heap.get? a = some (barO b)) (hb : b.size + m.size ≤ 1000000)
    (k : ∀ h', (∀ c o, c ≠ a → s.heap.get? c = some o → h'.get? c = some o) → h'.get? a = some (barO (b ++ m)) → Q .none { s with heap := h' }) :
    wpD true (model prog w) A (call (.builtin "bytearray.extend") [.ref a, .bytes m t]) Q E s := by
  refine wpD_call (codeD_call_builtin BA.slot_extend.plain (dok_extend _) BA.entry_extend (BA.slot_extend.check _ _ _ _ _ _ _ _ (bar_type h) (BA.args_extend _ _) ?_))
  unfold Builtin.«bytearray.extend»
  refine wpD_bind (wpD_eq (a := (Value.ref a, Value.bytes m t)) rfl ?_)
  refine wpD_bind (wpD_eq (KBy.special_eq KBy.look_buffer) ?_)
  show wpD true _ _ (rule "bytearray.extend.bytes-like" >>= fun _ => _) _ _ _
  refine wpD_bind (wpD_rule ?_)
  refine wpD_then (bar_payload' h ?_)
  refine wpD_bind (wpD_eq take_bytes ?_)
  show wpD true _ _ (do
      if !m.isEmpty then Bytes.checkResize (.ref a)
      Bytes.write (.ref a) (· ++ m)
      ret .none) _ _ _
  have fin : wpD true (model prog w) A.in1 (Bytes.write (.ref a) (· ++ m) >>= fun _ => ret .none) (fun fin s' => match fin with | .done f => (match (Except.ok f : Result) with | .ok (.ret v) => Q v s' | .ok _ => False | .error e => E e s') | .again c' => c'.quiet = true ∧ codeD true (model prog w) A c' (fun r s' => match r with | .ok (.ret v) => Q v s' | .ok _ => False | .error e => E e s') s') (fun e s' => E e s') s :=
    wpD_then (bar_write h (by simpa using hb) fun h' k1 k2 => wpD_pure (k h' k1 k2))
  cases hm : (!m.isEmpty)
  · exact fin
  · exact wpD_bind (bar_check h fin)
end
end Mine
end

section
set_option genInjectivity false
open PySem PySem.W PyProof.Rows PySem.Calls PySem.Builtin
set_option Elab.async false
set_option autoImplicit false
set_option maxRecDepth 100000
namespace Mine

section
variable {prog : Program} {w : World} {A : Around} {s : Shared} {E : Value → Shared → Prop} {dm : Bool}

theorem dok_typecall (args : Args) : DOk dm (.builtin "type.__call__" args) = true := by
  have e : badIds.contains "type.__call__" = false := by decide +kernel
  show (!dm || !badIds.contains "type.__call__") = true
  rw [e]; cases dm <;> rfl

theorem codeD_builtin {i : String} {args : Args} {b : Builtin} {R : Result → Shared → Prop} (hk : DOk dm (.builtin i args) = true) (hb : entryFor table i = some b)
    (h : wpD dm (model prog w) (A.under (.builtin i args)) (b args)
      (fun fin s' => match fin with | .done f => R (.ok f) s' | .again c' => c'.quiet = true ∧ codeD dm (model prog w) A c' R s') (fun e s' => R (.error e) s') s) : codeD dm (model prog w) A (.builtin i args) R s := by
  refine codeD_of_tree hk ?_
  show wpD _ _ _ (match entryFor table i with | some b => b args | none => unsupported ((withoutEnding? i "#data").getD i)) _ _ s
  rw [hb]; exact h

theorem callSpecial_D {self : Value} {T : String} {name : Str} {id : String} {args : List Value} {Q : Option Value → Shared → Prop} (hT : s.TypeIs self T) (h : Slot T name id)
    (hc : wpD dm (model prog w) A (call (.builtin id) (self :: args)) (fun v => Q (some v)) E s) : wpD dm (model prog w) A (callSpecial? self name args) Q E s := by
  unfold callSpecial?
  refine wpD_bind (wpD_of (wpAny_specialOf hT h.lookup ?_))
  simp only [h.bind]
  exact wpD_holding (wpD_bind (wpD_pure (wpD_bind (wpD_mono hc (fun v s' h' => wpD_pure h') fun _ _ h' => h'))))

theorem typecall_D {T newId initId : String} {Bi : Builtin} {args : List Value} {Q Q₁ : Value → Shared → Prop} (ft : TypeCalled T newId initId)
    (hct : checkTypeCall T ⟨args, []⟩ = pure ()) (entryI : entryFor table initId = some Bi) (hki : ∀ a, DOk dm (.builtin initId a) = true)
    (hnew : codeAny (model prog w) A.in1 (.call (.builtin newId) ⟨.type T :: args, []⟩) (fun r s' => match r with | .ok (.ret v) => Q₁ v s' | .ok _ => False | .error e => E e s') s)
    (hnext : ∀ obj s₁, Q₁ obj s₁ → s₁.TypeIs obj T ∧ argsOk initId ⟨obj :: args, []⟩ ∧
      wpD dm (model prog w) A.in1.in1 (Bi ⟨obj :: args, []⟩)
        (fun fin s' => fin = .done (.ret .none) ∧ Q obj s') E s₁) :
    wpD dm (model prog w) A (call (.type T) args) Q E s := by
  obtain ⟨c, tl, hmro⟩ := ft.mro
  have hmade := ft.made
  have h1 := ft.notType
  have h2 := ft.canCreate
  refine wpD_call (codeD_of_tree (by cases dm <;> rfl) ?_)
  show wpD _ _ _ (callAny (.type T) _) _ _ _
  refine wpD_pure ⟨Code.quiet_builtin _ (by decide +kernel), codeD_builtin (dok_typecall _) F.entry_type_call ?_⟩
  rw [Around.under_plain (weight_type_call_type T args []) rfl]
  unfold Builtin.«type.__call__»
  simp only [h1, h2, hct, hmro, hmade, pure_bind, List.isEmpty_cons, Bool.false_eq_true, if_false]
  refine wpD_bind (wpD_holding (wpD_of (wpAny_call (codeAny_mono hnew fun r s₁ hr => ?_))))
  match r, hr with
  | .error e, hr => exact hr
  | .ok (.ret obj), hr =>
    obtain ⟨hT, hok, hsi⟩ := hnext _ _ hr
    refine wpD_then (wpAny_isInstance hT ft.sub ?_)
    rw [if_neg (by decide)]
    refine wpD_bind (wpD_holding (callSpecial_D hT ft.init (wpD_call (codeD_call_builtin ft.init.plain (hki _) entryI (ft.init.check _ _ _ _ _ _ _ _ hT hok (wpD_mono hsi (fun fin s₂ h => ?_) fun _ _ e => e))))))
    obtain ⟨rfl, hq⟩ := h
    exact wpD_pure hq
end
end Mine
end

section
set_option genInjectivity false
open PySem PySem.W PyProof.Rows PySem.Calls PySem.Builtin
set_option Elab.async false
set_option autoImplicit false
set_option maxRecDepth 100000
namespace Mine

section
variable {prog : Program} {w : World} {A : Around} {s : Shared} {E : Value → Shared → Prop} {dm : Bool}

theorem code_bar_new (args : List Value) (hck : checkBuiltinCall "bytearray.__new__" ⟨.type "bytearray" :: args, []⟩ = pure ()) {Q₁ : Value → Shared → Prop}
    (h : Q₁ (.ref s.heap.objs.size) { s with heap := s.heap.push (barO #[]) }) :
    codeAny (model prog w) A (.call (.builtin "bytearray.__new__") ⟨.type "bytearray" :: args, []⟩) (fun r s' => match r with | .ok (.ret v) => Q₁ v s' | .ok _ => False | .error e => E e s') s := by
  refine codeAny_of_tree ?_
  show wpAny _ A.in1 (do checkBuiltinCall "bytearray.__new__" ⟨.type "bytearray" :: args, []⟩; again (.builtin "bytearray.__new__" ⟨.type "bytearray" :: args, []⟩)) _ _ s
  refine wpAny_bind (wpAny_of_eq hck (wpAny_pure ⟨plainId_quiet BA.plain_new _, codeAny_builtin_stack BA.entry_new rfl fun p st => ?_⟩))
  rw [Around.under_plainId BA.plain_new _]
  have hsub := BA.sub_self
  have hown := BA.owner_new
  obtain ⟨hp, g, d, tk, os⟩ := s
  simp only [hown]
  wp_walk
  exact h

theorem own_release_bar {a : Addr} {b : Array UInt8} {Q : Bool → Shared → Prop} (h : s.heap.get? a = some (barO b)) (k : Q false s) : wpAny (model prog w) A (Bytes.ownRelease (.ref a)) Q E s := by
  unfold Bytes.ownRelease Bytes.slotIsOwn
  refine wpAny_bind (wpAny_bind (wpAny_specialOf (bar_type h) BA.look_release ?_))
  simp only
  rw [if_neg (by decide +kernel)]
  have e : ("bytearray.__release_buffer__".dropRight ("__release_buffer__".length + 1)) = "bytearray" := by decide +kernel
  rw [e]
  exact wpAny_isInstance (bar_type h) BA.sub_self (wpAny_pure k)

theorem bar_busy {α : Type} {a : Addr} {b : Array UInt8} {f : Bool → Sem α} {Q : α → Shared → Prop} (h : s.heap.get? a = some (barO b)) (k : wpD true (model prog w) A (f false) Q E s) :
    wpD true (model prog w) A ((Bytes.exported (.ref a) <||> (do return (← Bytes.exportsOf (.ref a)) > 0)) >>= f) Q E s := by
  refine wpD_bind ?_
  unfold orM
  refine wpD_bind (bar_exported ?_)
  refine wpD_bind ?_
  unfold Bytes.exportsOf
  refine wpD_then (wpAny_load h ?_)
  exact wpD_pure (wpD_pure k)

theorem bar_init0 {a : Addr} {Q : Fin → Shared → Prop} (h : s.heap.get? a = some (barO #[]))
    (k : ∀ h', (∀ c o, c ≠ a → s.heap.get? c = some o → h'.get? c = some o) → h'.get? a = some (barO #[]) → Q (.done (.ret .none)) { s with heap := h' }) :
    wpD true (model prog w) A (Builtin.«bytearray.__init__» ⟨[.ref a], []⟩) Q E s := by
  unfold Builtin.«bytearray.__init__»
  refine wpD_then (own_release_bar h ?_)
  rw [if_neg (by decide)]
  refine wpD_bind (wpD_eq (a := [none, none, none]) rfl ?_)
  refine wpD_bind (wpD_eq (a := ()) rfl ?_)
  refine wpD_bind (wpD_eq (a := ()) rfl ?_)
  refine bar_busy h ?_
  rw [if_neg (by decide)]
  refine wpD_then (bar_write h (by simp) fun h' k1 k2 => ?_)
  exact wpD_bind (wpD_eq (a := ()) rfl (wpD_pure (k h' k1 k2)))

theorem buffer_full {id : String} {b : Array UInt8} {t : Tok} : Bytes.buffer? id (.bytes b t) true = pure (some b) := by
  unfold Bytes.buffer?
  rw [KBy.special_eq KBy.look_buffer, KBy.own_buffer, KBy.own_release]
  kernel_rfl
theorem bar_init1 {a : Addr} {m : Array UInt8} {t : Tok} {Q : Fin → Shared → Prop} (h : s.heap.get? a = some (barO #[])) (hm : m.size ≤ 1000000)
    (k : ∀ h', (∀ c o, c ≠ a → s.heap.get? c = some o → h'.get? c = some o) → h'.get? a = some (barO m) → Q (.done (.ret .none)) { s with heap := h' }) :
    wpD true (model prog w) A (Builtin.«bytearray.__init__» ⟨[.ref a, .bytes m t], []⟩) Q E s := by
  unfold Builtin.«bytearray.__init__»
  refine wpD_then (own_release_bar h ?_)
  rw [if_neg (by decide)]
  refine wpD_bind (wpD_eq (a := [some (.bytes m t), none, none]) rfl ?_)
  refine wpD_bind (wpD_eq (a := ()) rfl ?_)
  refine wpD_bind (wpD_eq (a := ()) rfl ?_)
  refine bar_busy h ?_
  rw [if_neg (by decide)]
  refine wpD_then (bar_write h (by simp) fun h' k1 k2 => ?_)
  refine wpD_bind (wpD_eq (a := none) rfl ?_)
  rw [if_neg (by decide)]
  refine wpD_bind (wpD_eq (a := ()) rfl ?_)
  refine wpD_bind (wpD_eq (KBy.special_eq BA.no_mbuffer_bytes) ?_)
  rw [if_neg (by decide)]
  refine wpD_bind (wpD_eq buffer_full ?_)
  show wpD true _ _ (do rule "bytearray.__init__.bytes-like"; Bytes.write (.ref a) (fun _ => m); ret .none) _ _ _
  refine wpD_bind (wpD_rule (wpD_then (bar_write (s := { s with heap := h' }) k2 hm fun h'' k1' k2' => wpD_pure ?_)))
  exact k h'' (fun c o hc e => k1' c o hc (k1 c o hc e)) k2'

/-- bytearray() -/
theorem bar_new0 {Q : Value → Shared → Prop} (k : ∀ h', (∀ c o, s.heap.get? c = some o → h'.get? c = some o) → h'.get? s.heap.objs.size = some (barO #[]) → Q (.ref s.heap.objs.size) { s with heap := h' }) :
    wpD true (model prog w) A (call (.type "bytearray") []) Q E s := by
  refine typecall_D (Q₁ := fun v s' => v = .ref s.heap.objs.size ∧ s' = { s with heap := s.heap.push (barO #[]) }) BA.called BA.typeCall0 BA.entry_init dok_init (code_bar_new [] BA.newCall0 ⟨rfl, rfl⟩) ?_
  rintro _ _ ⟨rfl, rfl⟩
  have h : (s.heap.push (barO #[])).get? s.heap.objs.size = some (barO #[]) := Heap.get?_push_size _ rfl
  exact ⟨bar_type h, BA.args_init0 _, bar_init0 (s := { s with heap := s.heap.push (barO #[]) }) h fun h' k1 k2 => ⟨rfl, k h' (fun c o e => k1 c o (Nat.ne_of_lt (Heap.lt_size e)) (Heap.get?_push_of_some _ e)) k2⟩⟩
/-- bytearray(octets) -/
theorem bar_new1 {m : Array UInt8} {t : Tok} {Q : Value → Shared → Prop} (hm : m.size ≤ 1000000) (k : ∀ h', (∀ c o, s.heap.get? c = some o → h'.get? c = some o) → h'.get? s.heap.objs.size = some (barO m) → Q (.ref s.heap.objs.size) { s with heap := h' }) :
    wpD true (model prog w) A (call (.type "bytearray") [.bytes m t]) Q E s := by
  refine typecall_D (Q₁ := fun v s' => v = .ref s.heap.objs.size ∧ s' = { s with heap := s.heap.push (barO #[]) }) BA.called (BA.typeCall1 _) BA.entry_init dok_init (code_bar_new [.bytes m t] (BA.newCall1 _) ⟨rfl, rfl⟩) ?_
  rintro _ _ ⟨rfl, rfl⟩
  have h : (s.heap.push (barO #[])).get? s.heap.objs.size = some (barO #[]) := Heap.get?_push_size _ rfl
  exact ⟨bar_type h, BA.args_init1 _ _, bar_init1 (s := { s with heap := s.heap.push (barO #[]) }) h hm fun h' k1 k2 => ⟨rfl, k h' (fun c o e => k1 c o (Nat.ne_of_lt (Heap.lt_size e)) (Heap.get?_push_of_some _ e)) k2⟩⟩
end
end Mine
end

section
set_option genInjectivity false
open PySem PySem.W PyProof.Rows PySem.Calls PySem.Builtin
set_option Elab.async false
set_option autoImplicit false
set_option maxRecDepth 100000
namespace Mine

theorem BA.noindex' : typeLookup (.type "bytearray") "__index__" = pure none := BA.noindex

section
variable {prog : Program} {w : World} {A : Around} {s : Shared} {E : Value → Shared → Prop} {dm : Bool}

theorem call_bytes_by (x : Value) {Q : Value → Shared → Prop}
    (h : wpAny (model prog w) A.in1.in1 (Builtin.«bytes.__new__» ⟨[.type "bytes", x], []⟩) (fun fin s' => ∃ v, fin = .done (.ret v) ∧ s'.TypeIs v "bytes" ∧ Q v s') E s) : wpAny (model prog w) A (call (.type "bytes") [x]) Q E s := by
  refine callType_codes (Q₁ := fun obj s₁ => s₁.TypeIs obj "bytes" ∧ Q obj s₁) F.bm_called (F.bm_typeCall _) F.entry_object_init ?_ fun obj s₁ h₁ => ?_
  · refine codeAny_of_tree ?_
    show wpAny _ A.in1.in1 (do checkBuiltinCall "bytes.__new__" ⟨[.type "bytes", x], []⟩; again (.builtin "bytes.__new__" ⟨[.type "bytes", x], []⟩)) _ _ s
    refine wpAny_bind (wpAny_of_eq (F.bm_newCall _) (wpAny_pure ⟨plainId_quiet F.bm_plain _, codeAny_builtin F.bm_entry ?_⟩))
    rw [Around.under_plainId F.bm_plain _]
    refine wpAny_mono h (fun fin s' hh => ?_) fun _ _ e => e
    obtain ⟨v, rfl, h1, h2⟩ := hh
    exact ⟨h1, h2⟩
  · exact ⟨h₁.1, F.args_object_init_2 obj _, object_init_meets F.bm_called.init.lookup F.bm_called.made (by decide) prog w A.in1 _ s₁ ⟨h₁.1, rfl, h₁.2⟩⟩

theorem bytes_bytes {b : Array UInt8} {t : Tok} {Q : Value → Shared → Prop} (h : Q (.bytes b t) s) : wpAny (model prog w) A (call (.type "bytes") [.bytes b t]) Q E s := by
  refine call_bytes_by _ ?_
  unfold Builtin.«bytes.__new__»
  refine wpAny_bind (wpAny_of_eq (a := true) rfl ?_)
  refine bm_if_false rfl ?_
  refine wpAny_bind (wpAny_of_eq F.bm_sub ?_)
  refine bm_if_false rfl ?_
  refine wpAny_bind (wpAny_of_eq (F.bm_bind _) ?_)
  refine wpAny_bind (wpAny_of_eq (a := ()) rfl ?_)
  refine wpAny_bind (wpAny_of_eq (a := ()) rfl ?_)
  refine bm_if_false rfl ?_
  refine wpAny_bind (wpAny_of_eq (KBy.special_eq BA.bytes_bytes) ?_)
  show wpAny _ _ (do rule "bytes.__new__.of-bytes"; let y ← typeOf (.bytes b t); if y == .type "bytes" then _ else _) _ _ _
  refine wpAny_bind (wpAny_rule (wpAny_bind (wpAny_of_eq (a := .type "bytes") rfl ?_)))
  refine bm_if_true (by decide +kernel) ?_
  first
    | exact wpAny_pure ⟨_, rfl, typeIs_bytes _ _ _, h⟩
    | exact wpAny_bind (wpAny_pure (wpAny_pure ⟨_, rfl, typeIs_bytes _ _ _, h⟩))

theorem own_buffer_bar {a : Addr} {b : Array UInt8} {Q : Bool → Shared → Prop} (h : s.heap.get? a = some (barO b)) (k : Q true s) : wpAny (model prog w) A (Bytes.slotIsOwn (.ref a) "__buffer__") Q E s := by
  unfold Bytes.slotIsOwn
  refine wpAny_bind (wpAny_specialOf (bar_type h) BA.look_buffer ?_)
  simp only
  rw [if_neg (by decide +kernel)]
  have e : ("bytearray.__buffer__".dropRight ("__buffer__".length + 1)) = "bytearray" := by decide +kernel
  rw [e]
  exact wpAny_isInstance (bar_type h) BA.sub_self k

theorem bytes_bar {a : Addr} {b : Array UInt8} {Q : Value → Shared → Prop} (h : s.heap.get? a = some (barO b)) (hb : b.size ≤ 1000000) (k : ∀ t' n, Q (.bytes b t') { s with toks := n }) : wpAny (model prog w) A (call (.type "bytes") [.ref a]) Q E s := by
  have hT := bar_type h
  refine call_bytes_by _ ?_
  unfold Builtin.«bytes.__new__»
  refine wpAny_bind (wpAny_of_eq (a := true) rfl ?_)
  refine bm_if_false rfl ?_
  refine wpAny_bind (wpAny_of_eq F.bm_sub ?_)
  refine bm_if_false rfl ?_
  refine wpAny_bind (wpAny_of_eq (F.bm_bind _) ?_)
  refine wpAny_bind (wpAny_of_eq (a := ()) rfl ?_)
  refine wpAny_bind (wpAny_of_eq (a := ()) rfl ?_)
  refine bm_if_false rfl ?_
  refine wpAny_bind (wpAny_specialOf hT BA.no_bytes ?_)
  refine wpAny_bind (wpAny_bind ?_)
  show wpAny _ _ (load a >>= _) _ _ _
  refine wpAny_bind (wpAny_load h ?_)
  refine wpAny_pure (wpAny_pure ?_)
  refine bm_if_false rfl ?_
  refine wpAny_bind (wpAny_specialOf hT BA.noindex ?_)
  refine bm_if_true rfl ?_
  first
    | show wpAny _ _ (Builtin.Bytes.buffer? "bytes.__new__" (.ref a) true >>= _) _ _ _
    | (refine wpAny_bind ?_; show wpAny _ _ (Builtin.Bytes.buffer? "bytes.__new__" (.ref a) true >>= _) _ _ _)
  refine wpAny_bind ?_
  unfold Builtin.Bytes.buffer?
  refine wpAny_bind (wpAny_specialOf hT BA.look_buffer ?_)
  show wpAny _ _ (Bytes.slotIsOwn (.ref a) "__buffer__" >>= _) _ _ _
  refine wpAny_bind (own_buffer_bar h ?_)
  refine bm_if_false rfl ?_
  refine wpAny_bind (wpAny_specialOf hT BA.look_buffer ?_)
  show wpAny _ _ (Bytes.ownRelease (.ref a) >>= _) _ _ _
  refine wpAny_bind (own_release_bar h ?_)
  refine bm_if_false rfl ?_
  refine bar_payload h (wpAny_pure ?_)
  show wpAny _ _ (rule "bytes.__new__.bytes-like" >>= _) _ _ _
  refine wpAny_bind (wpAny_rule ?_)
  first
    | refine wpAny_bind (wpAny_mkBytes ?_ (by rw [sizeLine_eq]; omega))
    | refine wpAny_bind (wpAny_bind (wpAny_mkBytes ?_ (by rw [sizeLine_eq]; omega)))
  show wpAny _ _ (if (Value.type "bytes" == Value.type "bytes") = true then _ else _) _ _ _
  refine bm_if_true (by decide) ?_
  first
    | exact wpAny_pure ⟨_, rfl, typeIs_bytes _ _ _, k _ _⟩
    | exact wpAny_bind (wpAny_pure (wpAny_pure ⟨_, rfl, typeIs_bytes _ _ _, k _ _⟩))
    | exact wpAny_pure (wpAny_pure ⟨_, rfl, typeIs_bytes _ _ _, k _ _⟩)
end
end Mine
end

section
set_option genInjectivity false
open PySem PySem.W PyProof.Rows PySem.Calls PySem.Builtin
set_option Elab.async false
set_option autoImplicit false
set_option maxRecDepth 100000
namespace Mine

section
variable {prog : Program} {w : World} {C : Addr} {bs : Heap} {nm : List Str} {env : Env} {A : Around} {s : Shared} {z : FZ} {l : Loc} {H : HM} {E : Value → Shared → Prop}

theorem zkof (S : Sim C bs env nm z l H s.heap) : ∀ a o, z a = some o → s.heap.get? a = some o := S.zk

theorem lenS_ref {a : Nat} {P : V → Prop} (h : lenS H (.ref a) P) : (∃ vs, H a = some (.lst vs) ∧ P (.int vs.length)) ∨ ∃ b, H a = some (.barr b) ∧ P (.int b.length) := by
  revert h
  show (match H a with
    | some (.lst vs) => P (.int vs.length)
    | some (.barr b) => P (.int b.length)
    | _ => False) → _
  cases H a with
  | none => exact False.elim
  | some o => cases o <;> first | exact False.elim | exact fun h => .inl ⟨_, rfl, h⟩ | exact fun h => .inr ⟨_, rfl, h⟩
theorem len_sound {v : V} {u : Value} {P : V → Prop} (S : Sim C bs env nm z l H s.heap) (hv : VR z v u) (h : lenS H v P) : Ge prog w A (call (.builtin "len") [u]) P z s := by
  intro Q E k
  refine pvar fun G g => ?_
  cases v <;> (try exact h.elim)
  · obtain ⟨t, rfl, hb⟩ := hv.bytes_i
    refine g <| len_bytes (by simp; omega) (k _ _ _ _ h (.toks _ S.zk) ?_)
    rw [List.size_toArray]; exact .int _ _
  · obtain rfl := hv.ref_i
    rcases lenS_ref h with ⟨vs, e, h⟩ | ⟨b, e, h⟩
    · obtain ⟨us, n, e1, e2, e3⟩ := (S.trk _ _ e).2
      refine g <| call_len_list (items := us.toArray) ⟨_, e1, rfl, _, rfl⟩ (by have := e2.length; simp; omega) (k _ _ _ _ h (.toks _ S.zk) ?_)
      rw [List.size_toArray, ← e2.length]; exact .int _ _
    · obtain ⟨e1, e2⟩ := (S.trk _ _ e).2
      refine g <| bar_len e1 (by simpa using e2) (k _ _ _ _ h (.toks _ S.zk) ?_)
      rw [List.size_toArray]; exact .int _ _
  · obtain ⟨a, us, n, rfl, e, r, hb⟩ := hv.lst_i
    refine g <| call_len_list (items := us.toArray) ⟨_, S.zk _ _ e, rfl, _, rfl⟩ (by have := r.length; simp; omega) (k _ _ _ _ h (.toks _ S.zk) ?_)
    rw [List.size_toArray, ← r.length]; exact .int _ _

theorem sum_sound {x : List UInt8} {t : Tok} {P : V → Prop} (hh : A.handled = none) (hx : x.length ≤ 1000000) (zk : ∀ a o, z a = some o → s.heap.get? a = some o) (h : P (.int (x.map fun c => (c.toNat : Int)).sum)) : Ge prog w A (call (.builtin "sum") [.bytes x.toArray t]) P z s := by
  intro Q E k
  have hin : ∀ k ∈ KBw.bInts x.toArray, 0 ≤ k ∧ k < 256 := fun k hk => KBw.ints_in hk
  refine call_sum_walk (KBw.pyIter_bytes ?_)
  refine ⟨s.heap.objs.size, [s.heap.objs.size], [s.heap.objs.size], x.toArray.size, _, _, fun j => (KBw.bInts x.toArray).getD j 0, rfl, KBw.walks (A := A.in1) hh s.heap.objs.size x.toArray t, ⟨_, Heap.get?_push_size _ rfl, rfl, rfl⟩, ?_, ?_, ?_, ?_⟩
  · intro a ha
    rw [List.mem_singleton.mp ha]
    exact Heap.lt_size (Heap.get?_push_size _ rfl)
  · rintro i v ⟨c, u, hc, rfl⟩
    have e := KBw.ints_get hc
    refine ⟨u, ?_⟩
    show Value.int (c.toNat : Int) u = Value.int ((KBw.bInts x.toArray).getD i 0) u
    rw [List.getD_eq_getElem?_getD, e]
    rfl
  · intro j hj
    have hj' : j + 1 ≤ (KBw.bInts x.toArray).length := by rw [KBw.ints_length]; exact hj
    have h1 := KBw.getD_in (ks := KBw.bInts x.toArray) (j := j) hin
    have h2 := KBmo.pre_take (KBw.bInts x.toArray) (j + 1) hj'
    have h3 := KBmo.sum_bound (ks := (KBw.bInts x.toArray).take (j + 1)) fun k hk => hin k (List.mem_of_mem_take hk)
    have h4 : ((KBw.bInts x.toArray).take (j + 1)).length ≤ (KBw.bInts x.toArray).length := by rw [List.length_take]; exact Nat.min_le_right _ _
    have h5 : (KBw.bInts x.toArray).length ≤ 1000000 := by rw [KBw.ints_length]; simpa using hx
    unfold InLong
    rw [h2]
    refine ⟨⟨?_, ?_⟩, ?_, ?_⟩ <;> (try dsimp only) <;> omega
  · intro h' tk t' hk'
    have e : preSum (fun j => (KBw.bInts x.toArray).getD j 0) x.toArray.size = (x.map fun c => (c.toNat : Int)).sum := by
      rw [← KBw.ints_length, KBmo.pre_take _ _ (Nat.le_refl _), List.take_length, KBw.ints_list]
    rw [e]
    have keep : ∀ a o, s.heap.get? a = some o → h'.get? a = some o := fun a o ha => hk' a o (fun hm => absurd (Heap.lt_size ha) (by rw [List.mem_singleton.mp hm]; exact Nat.lt_irrefl _)) (Heap.get?_push_of_some _ ha)
    exact k _ _ _ _ h (.grow ⟨_, _, rfl, keep⟩ zk) (.int _ _)

theorem min_sound {i j : Int} {t u : Tok} {P : V → Prop} (hh : A.handled = none) (zk : ∀ a o, z a = some o → s.heap.get? a = some o) (h : P (.int (if j < i then j else i))) : Ge prog w A (call (.builtin "min") [.int i t, .int j u]) P z s := by
  intro Q E k
  refine min_two_ints hh fun h' tk hk => ?_
  refine k _ _ _ _ h (.grow ⟨_, _, rfl, hk⟩ zk) ?_
  split
  · exact .int _ _
  · exact .int _ _

theorem str_sound {i : Int} {t : Tok} {P : V → Prop} (zk : ∀ a o, z a = some o → s.heap.get? a = some o) (h0 : 0 ≤ i) (h1 : i < 1000) (h : P (.str 4)) : Ge prog w A (call (.type "str") [.int i t]) P z s := by
  intro Q E k
  refine PySem.P.str_of_int ?_ (k _ _ _ _ h (.toks _ zk) (.str ?_))
  · by_cases hz : i.natAbs = 0
    · rw [hz]; decide
    · have : i.natAbs < 2 ^ 1920 := Nat.lt_of_lt_of_le (show i.natAbs < 2 ^ 10 by omega) (Nat.pow_le_pow_right (by decide) (by decide))
      exact (Nat.log2_lt hz).mpr this
  · have := int_text_length_le10 (a := i) (k := 3) (by decide) (by omega)
    show (Str.ofString (toString i)).length ≤ 4
    rw [PySem.ofString_length]; exact this

theorem isN_sound {v : V} {u : Value} {P : Bool → Prop} (zk : ∀ a o, z a = some o → s.heap.get? a = some o) (hv : VR z v u) (h : isNS v P) : Ge prog w A (compareOp .Is u .none) (fun v => ∃ b, v = .bool b ∧ P b) z s := by
  intro Q E k
  have T := PX.self zk
  refine pvar fun G g => ?_
  cases v <;> (try exact h.elim)
  · obtain rfl := hv.none_i; exact g <| wpAny_is_plain rfl (k (.bool true) _ _ _ ⟨_, rfl, h⟩ T (.bool true))
  · obtain rfl := hv.bool_i; exact g <| wpAny_is_plain rfl (k (.bool false) _ _ _ ⟨_, rfl, h⟩ T (.bool false))
  · obtain ⟨t, rfl⟩ := hv.int_i; exact g <| wpAny_is_plain rfl (k (.bool false) _ _ _ ⟨_, rfl, h⟩ T (.bool false))
  · obtain ⟨t, rfl, _⟩ := hv.bytes_i; exact g <| wpAny_is_plain rfl (k (.bool false) _ _ _ ⟨_, rfl, h⟩ T (.bool false))
theorem notN_sound {v : V} {u : Value} {P : Bool → Prop} (zk : ∀ a o, z a = some o → s.heap.get? a = some o) (hv : VR z v u) (h : isNS v fun b => P (!b)) : Ge prog w A (compareOp .IsNot u .none) (fun v => ∃ b, v = .bool b ∧ P b) z s := by
  intro Q E k
  have T := PX.self zk
  refine pvar fun G g => ?_
  cases v <;> (try exact h.elim)
  · obtain rfl := hv.none_i; exact g <| wpAny_isNot_plain rfl (k (.bool false) _ _ _ ⟨_, rfl, h⟩ T (.bool false))
  · obtain rfl := hv.bool_i; exact g <| wpAny_isNot_plain rfl (k (.bool true) _ _ _ ⟨_, rfl, h⟩ T (.bool true))
  · obtain ⟨t, rfl⟩ := hv.int_i; exact g <| wpAny_isNot_plain rfl (k (.bool true) _ _ _ ⟨_, rfl, h⟩ T (.bool true))
  · obtain ⟨t, rfl, _⟩ := hv.bytes_i; exact g <| wpAny_isNot_plain rfl (k (.bool true) _ _ _ ⟨_, rfl, h⟩ T (.bool true))

theorem bytB_sound {v : V} {u : Value} {P : V → Prop} (S : Sim C bs env nm z l H s.heap) (hv : VR z v u) (h : bytS H v P) : Ge prog w A (call (.type "bytes") [u]) P z s := by
  intro Q E k
  refine pvar fun G g => ?_
  cases v <;> (try exact h.elim)
  · obtain ⟨t, rfl, hb⟩ := hv.bytes_i
    exact g <| bytes_bytes (k _ _ _ _ h (.self S.zk) (.bytes hb _))
  · obtain rfl := hv.ref_i
    obtain ⟨b, e, h⟩ := barH_inv (P := fun b => P (.bytes b)) h
    obtain ⟨e1, e2⟩ := (S.trk _ _ e).2
    exact g <| bytes_bar e1 (by simpa using e2) fun t' n => k _ _ _ _ h (.toks _ S.zk) (.bytes e2 _)

theorem rep_foldl (us : List Value) : ∀ n (acc : Array Value), List.foldl (fun x1 x2 => x1 ++ x2) acc (List.replicate n us.toArray) = acc ++ ((List.replicate n us).flatten).toArray
  | 0, acc => by simp
  | n + 1, acc => by
    rw [List.replicate_succ, List.foldl_cons, rep_foldl us n, List.replicate_succ, List.flatten_cons]
    simp
/-- [v] * n : a new list -/
theorem mul_lst {a : Addr} {u : Value} {n : Int} {c : Nat} {t : Tok} {Q : Value → Shared → Prop} (ho : s.heap.get? a = some (lisO #[u] c)) (h0 : 0 ≤ n) (h1 : n ≤ 1000000)
    (h : Q (.ref s.heap.objs.size) { s with heap := s.heap.push (lisO (List.replicate n.toNat u).toArray 0) }) : wpAny (model prog w) A (binaryOp .Mult (.ref a) (.int n t)) Q E s := by
  have h2 : Builtin.List.listFitsIndex n = true := by simp [Builtin.List.listFitsIndex]; omega
  have h3 : Builtin.List.listTooLong ((#[u] : Array Value).size * n.toNat) = false := by simp [Builtin.List.listTooLong, sizeLine]; omega
  have h4 : ¬(#[u] : Array Value).size * n.toNat > (2 ^ 63 - 1) / 8 := by
    have : (#[u] : Array Value).size = 1 := rfl
    rw [this]; omega
  refine wpAny_binaryOp_repeat_ref (T := "list") (U := "int") (by decide) ⟨_, ho, rfl⟩ (fun s' => typeIs_int s' n t) noFill_list_mul F.fills_int_mul F.slot_int_rmul repeat_list F.slot_int_index.lookup
    (call_meets F.slot_int_rmul (typeIs_int s n t) F.entry_int_rmul (F.args_int_rmul_2 _ _) (int___rmul___int_list n t a #[u] c)
      ⟨ho, rfl, ⟨_, ho, rfl⟩, call_meets F.slot_list_mul ⟨_, ho, rfl⟩ F.entry_list_mul (F.args_list_mul_2 _ _)
        (AutoListH.list___mul___list_int_3 a #[u] c n t (by rw [h2]; decide) h4 (by rw [h3]; decide))
        ⟨ho, ?_⟩⟩)
  have e : List.foldl (fun x1 x2 => x1 ++ x2) #[] (List.replicate (if (#[u] : Array Value).isEmpty = true then 0 else n.toNat) #[u]) = (List.replicate n.toNat u).toArray := by
    have := rep_foldl [u] n.toNat #[]
    rw [if_neg (by simp)]
    rw [this]
    simp
  rw [e]; exact h

theorem sl_take {b : List UInt8} (j : Int) (h : 0 ≤ j) : (b.drop 0).take (clipAt b.length j - 0) = b.take j.toNat := by
  obtain ⟨n, rfl⟩ := Int.eq_ofNat_of_zero_le h
  rw [clipAt_nat]
  simp [List.take_eq_take_iff]
theorem sl_drop {b : List UInt8} (i : Int) (h : 0 ≤ i) : (b.drop (clipAt b.length i)).take (b.length - clipAt b.length i) = b.drop i.toNat := by
  obtain ⟨n, rfl⟩ := Int.eq_ofNat_of_zero_le h
  rw [clipAt_nat]
  simp only [Int.toNat_natCast]
  rw [List.take_of_length_le (by simp)]
  rcases Nat.le_total n b.length with q | q
  · rw [Nat.min_eq_left q]
  · rw [Nat.min_eq_right q, List.drop_of_length_le q, List.drop_length]
theorem sl_both {b : List UInt8} (i j : Int) (h : 0 ≤ i) (h' : 0 ≤ j) : (b.drop (clipAt b.length i)).take (clipAt b.length j - clipAt b.length i) = (b.drop i.toNat).take (j.toNat - i.toNat) := by
  obtain ⟨n, rfl⟩ := Int.eq_ofNat_of_zero_le h
  obtain ⟨m, rfl⟩ := Int.eq_ofNat_of_zero_le h'
  rw [clipAt_nat, clipAt_nat]
  simp only [Int.toNat_natCast]
  rcases Nat.le_total n b.length with q | q
  · rw [Nat.min_eq_left q, List.take_eq_take_iff, List.length_drop, Nat.sub_min_sub_right, Nat.sub_min_sub_right, Nat.min_assoc, Nat.min_self]
  · rw [Nat.min_eq_right q, List.drop_length, List.drop_of_length_le q]; simp

theorem eqBytes_at {b : List UInt8} {t u : Tok} : SeqAt.EqAt A s (.bytes b.toArray t) (.bytes b.toArray u) true := fun prog w E Q h => by
  unfold eqBool
  refine wpAny_holding ?_
  refine wpAny_ite_split (fun _ => ?_) (fun _ => ?_)
  · exact wpAny_bind (wpAny_rule (wpAny_pure h))
  · refine wpAny_bind (show wpAny _ _ (compareOp .Eq (.bytes b.toArray t) (.bytes b.toArray u)) _ _ _ from eq_bytes ?_)
    rw [beq_self_eq_true]
    exact wpAny_truthy_bool h
end
end Mine
end

section
set_option genInjectivity false
open PySem PySem.W PyProof.Rows PySem.Calls PySem.Builtin
set_option Elab.async false
set_option autoImplicit false
set_option maxRecDepth 100000
namespace Mine

section
variable {prog : Program} {w : World} {A : Around} {s : Shared} {z : FZ} {E : Value → Shared → Prop}

theorem eqInt_at {i : Int} {t u : Tok} : SeqAt.EqAt A s (.int i t) (.int i u) true := fun prog w E Q h => by
  unfold eqBool
  refine wpAny_holding ?_
  refine wpAny_ite_split (fun _ => ?_) (fun _ => ?_)
  · exact wpAny_bind (wpAny_rule (wpAny_pure h))
  · refine wpAny_bind (show wpAny _ _ (compareOp .Eq (.int i t) (.int i u)) _ _ _ from eq_int ?_)
    rw [beq_self_eq_true]
    exact wpAny_truthy_bool h
theorem VRs.bytesAt {bs : List (List UInt8)} {us : List Value} (h : VRs z (bs.map .bytes) us) {j : Nat} (h1 : j < us.length) : ∃ b t, bs[j]? = some b ∧ us[j] = .bytes b.toArray t := by
  obtain ⟨v, e, r⟩ := h.get' (List.getElem?_eq_getElem h1)
  rw [List.getElem?_map] at e
  obtain ⟨b, e1, rfl⟩ := Option.map_eq_some_iff.mp e
  generalize us[j] = u at r
  cases r
  exact ⟨b, _, e1, rfl⟩

theorem lists_at {bs : List (List UInt8)} {us us' : List Value} {a b : Addr} {n n' : Nat} (hu : A.units < cLine) (e : s.heap.get? a = some (lisO us.toArray n)) (e' : s.heap.get? b = some (lisO us'.toArray n')) (h : VRs z (bs.map .bytes) us) (h' : VRs z (bs.map .bytes) us') :
    SeqAt.EqAt A s (.ref a) (.ref b) true := by
  by_cases hab : a = b
  · subst hab; exact SeqAt.EqAt.same _
  · refine SeqAt.EqAt.of_refs hab ?_
    have r := SeqAt.RcAt.lists (A := A) (s := s) (e := fun _ => true) (l := a) (b := b) (items := us.toArray) (items2 := us'.toArray) ⟨_, e, rfl, _, rfl⟩ ⟨_, e', rfl, _, rfl⟩ (by have := h.length; have := h'.length; simp; omega) hu fun j h1 h2 => by
      obtain ⟨x, t, q1, q2⟩ := h.bytesAt (j := j) (by simpa using h1)
      obtain ⟨x', t', q1', q2'⟩ := h'.bytesAt (j := j) (by simpa using h2)
      rw [q1] at q1'; cases q1'
      simp only [List.getElem_toArray, q2, q2']
      exact eqBytes_at
    have e2 : (List.range us.toArray.size).all (fun _ => true) = true := by simp
    rw [e2] at r; exact r

theorem eqtS_inv {v v' : V} (h : eqtS v v') : ∃ vs i us j, v = .t2 (.lst vs) (.int i) ∧ v' = .t2 (.lst us) (.int j) ∧ i = j ∧ ∃ bs : List (List UInt8), vs = bs.map .bytes ∧ us = bs.map .bytes := by
  cases v <;> (try exact h.elim)
  rename_i a b
  cases a <;> (try exact h.elim)
  cases b <;> (try exact h.elim)
  cases v' <;> (try exact h.elim)
  rename_i a b
  cases a <;> (try exact h.elim)
  cases b <;> (try exact h.elim)
  exact ⟨_, _, _, _, rfl, rfl, h⟩
theorem eqt_sound {v v' : V} {u u' : Value} {P : V → Prop} (hu : A.units + 5 < cLine) (zk : ∀ a o, z a = some o → s.heap.get? a = some o) (hv : VR z v u) (hv' : VR z v' u') (h : eqtS v v') (hp : P (.bool true)) : Ge prog w A (compareOp .Eq u u') P z s := by
  intro Q E k
  refine pvar fun G g => ?_
  obtain ⟨vs, i, vs', j, rfl, rfl, rfl, bs, rfl, rfl⟩ := eqtS_inv h
  obtain ⟨a₁, u1, u2, n₁, rfl, e, v1, v2⟩ := hv.t2_i
  obtain ⟨b₁, u1', u2', n₁', rfl, e', v1', v2'⟩ := hv'.t2_i
  obtain ⟨a, us, n, rfl, e1, r1, b1⟩ := v1.lst_i
  obtain ⟨b, us', n', rfl, e1', r1', b1'⟩ := v1'.lst_i
  obtain ⟨t, rfl⟩ := v2.int_i
  obtain ⟨t', rfl⟩ := v2'.int_i
  have r := SeqAt.RcAt.tuples (A := A) (s := s) (e := fun _ => true) (l := a₁) (b := b₁) (items := #[.ref a, .int _ _]) (items2 := #[.ref b, .int _ _]) ⟨_, zk _ _ e, rfl, _, rfl⟩ ⟨_, zk _ _ e', rfl, _, rfl⟩ (by omega) fun j h1 h2 => by
    have h1' : j < 2 := h1
    match j, h1' with
    | 0, _ => exact lists_at (by show A.units + _ < _; omega) (zk _ _ e1) (zk _ _ e1') r1 r1'
    | 1, _ => exact eqInt_at
  exact g <| r prog w E Q (k _ _ _ _ hp (.self zk) (.bool true))
end
end Mine
end

section
set_option genInjectivity false
open PySem PySem.W PyProof.Rows PySem.Calls PySem.Builtin
set_option Elab.async false
set_option autoImplicit false
set_option maxRecDepth 100000
namespace Mine

theorem paired_at {α β : Type} {F : α → β → Prop} {l₁ : List α} {l₂ : List β} (h : Paired F l₁ l₂) : ∀ {j : Nat} {b : β}, l₂[j]? = some b → ∃ a, l₁[j]? = some a ∧ F a b := by
  induction h with
  | nil => exact fun h => by cases h
  | cons h _ ih =>
    intro j b e
    cases j with
    | zero => cases e; exact ⟨_, rfl, h⟩
    | succ j => exact ih e

theorem ints_of : ∀ {us : List Value} {is : List Int}, us.length = is.length → (∀ (j : Nat) u, us[j]? = some u → ∃ i t, is[j]? = some i ∧ u = .int i t) → IntsAre us is
  | [], [], _, _ => .nil
  | u :: us, i :: is, h, k => by
    obtain ⟨i', t, e, rfl⟩ := k 0 u rfl
    simp at e; subst e
    exact .cons _ t (ints_of (by simpa using h) fun j u e => k (j + 1) u (by simpa using e))

theorem lookup_relabel_free {env : Env} : ∀ {names : List (Str × NameKind)} {x : Str}, names.lookup x = some .free → env.scope.kind = .function → env.kindOf x = some .cell →
    (names.map fun (n, k) => if (k == NameKind.free && env.scope.kind == .function && env.kindOf n == some .cell) then (n, NameKind.cell) else (n, k)).lookup x = some .cell
  | [], _, h, _, _ => by simp at h
  | (n, k) :: r, x, h, hk, he => by
    have ih := @lookup_relabel_free env r x
    show List.lookup x ((if (k == NameKind.free && env.scope.kind == .function && env.kindOf n == some .cell) = true then (n, NameKind.cell) else (n, k)) :: _) = _
    cases hx : x == n with
    | true =>
      simp only [List.lookup_cons, hx] at h
      cases h
      have e : x = n := by simpa using hx
      subst e
      rw [if_pos (by rw [hk, he]; rfl)]
      simp [List.lookup_cons]
    | false =>
      simp only [List.lookup_cons, hx] at h
      by_cases hc : (k == NameKind.free && env.scope.kind == .function && env.kindOf n == some .cell) = true
      · rw [if_pos hc]; simp only [List.lookup_cons, hx]; exact ih h hk he
      · rw [if_neg hc]; simp only [List.lookup_cons, hx]; exact ih h hk he

section
variable {prog : Program} {w : World} {K : Frag} {mg mb : Str → Option Value} {C : Addr} {bs : Heap} {sc : Scope} {nm : List Str} {env : Env} {F : FT} {k : Nat} {A : Around} {s : Shared} {z : FZ} {l : Loc} {H : HM}
variable {Q : Value → Shared → Prop} {E : Value → Shared → Prop}

theorem fresh_none {h : Heap} {a : Nat} (ha : h.objs.size ≤ a) : h.get? a = none := by
  cases e : h.get? a with
  | none => rfl
  | some o => exact absurd (Heap.lt_size e) (Nat.not_lt.mpr ha)

theorem range_walk {I : Addr} (hh : A.handled = none) (n : Nat) : Walks prog w A I [I] [I] n (fun i v => ∃ t, v = .int (0 + (i : Int)) t) (fun i h => IsRangeIter h I (0 + (i : Nat) * 1) ((n : Int) - (i : Nat)) 1) :=
  let W := Walks.range (prog := prog) (w := w) hh I 0 1 n
  { sub := W.sub, frame := W.frame, done := W.done, self := W.self,
    item := fun i s Q E hi st hQ => W.item i s Q E hi st fun v h' tk hP => hQ v h' tk (by obtain ⟨t, rfl⟩ := hP; exact ⟨t, by rw [Int.mul_one]⟩) }

/-- range(n) and its iterator -/
theorem range_go {n : Int} {t : Tok} (h0 : 0 ≤ n) (h1 : n ≤ 1000000)
    (h : ∀ s' I, Keeps s s' → s.heap.get? I = none → I < s'.heap.objs.size → IsRangeIter s'.heap I (0 + ((0 : Nat) : Int) * 1) ((n.toNat : Int) - ((0 : Nat) : Int)) 1 → Q (.ref I) s') :
    wpAny (model prog w) A (call (.type "range") [.int n t]) (fun xv s₁ => wpAny (model prog w) A (pyIter xv) Q E s₁) E s := by
  refine call_range_1 ?_
  refine wpAny_pyIter_range (IsRange.new ..) (small_one (by decide) (by decide) (by omega) (by omega)) ?_
  have hsz : Builtin.Range.rangeSize 0 n 1 = (n.toNat : Int) := by rw [rangeSize_one]; split <;> omega
  refine h _ _ ⟨_, _, rfl, fun b o e => Heap.get?_push_of_some _ (Heap.get?_push_of_some _ e)⟩ (fresh_none (by simp [Heap.size_push])) (Heap.lt_size (Heap.get?_push_size _ rfl)) ?_
  have e1 : (0 + ((0 : Nat) : Int) * 1) = 0 := by simp
  have e2 : ((n.toNat : Int) - ((0 : Nat) : Int)) = Builtin.Range.rangeSize 0 n 1 := by rw [hsz]; simp
  rw [e1, e2]
  exact Heap.get?_push_size _ rfl

/-- names inside a comprehension -/
theorem comp_local {csc : Scope} {cl : List (Str × Addr)} {Ca : Addr} {x : Str} {p : Pos} {m : Str → Option Value} {v : Value} (hk : csc.kind = .function) (hx : csc.names.lookup x = some .local) (hd : (x == ("__debug__" : Str)) = false)
    (hn : s.heap.Ns Ca m) (hm : m x = some v) (h : Q v s) : wpAny (model prog w) A (eval (.Name x p) (compEnvC csc cl Ca env)) Q E s :=
  wpAny_Name (wpAny_loadName_local (by simp [compEnvC, relabel, hk]) (lookup_relabel_local hx) hn hm h) hd
theorem comp_cell {csc : Scope} {cl : List (Str × Addr)} {Ca c : Addr} {y : Str} {p : Pos} {v : Value} (hk : csc.kind = .function) (hy : csc.names.lookup y = some .free) (hd : (y == ("__debug__" : Str)) = false)
    (hk' : env.scope.kind = .function) (hy' : env.kindOf y = some .cell) (hc : cl.lookup y = some c) (hv : s.heap.IsCell c (some v)) (h : Q v s) : wpAny (model prog w) A (eval (.Name y p) (compEnvC csc cl Ca env)) Q E s :=
  wpAny_Name (wpAny_loadName_cell (by simp [compEnvC, relabel, hk]) (lookup_relabel_free hy hk' hy') hc hv h) hd

theorem cell_of {y : Nat} {yy : Str} {v : V} (X : Cx prog w K mg mb C bs sc nm env F k A) (S : Sim C bs env nm z l H s.heap) (hy : nm[y]? = some yy) (hk : sc.names.lookup yy = some .cell) (hl : lget l y = some v) :
    ∃ c u, env.cells.lookup yy = some c ∧ s.heap.IsCell c (some u) ∧ VR z v u := by
  obtain ⟨c, hc⟩ := X.cells yy hk
  obtain ⟨_, _, _, cv, hcv, r⟩ := S.cel yy c hc
  obtain ⟨u, rfl, hv⟩ := r y v hl hy (by rw [X.kindOf]; exact hk)
  exact ⟨c, u, hc, hcv, hv⟩

/-- [(y + 3 * j) % 256 for j in range(n)] -/
theorem byc_sound {y : Nat} {yy xr j : Str} {csc : Scope} {pn : Expr} {yv : Int} {R : Int → Prop} {k3 k2 : Nat} {p0 p1 p2 p3 p4 p5 p6 p7 p8 p9 q : Pos} (X : Cx prog w K mg mb C bs sc nm env F k A) (S : Sim C bs env nm z l H s.heap)
    (hr : IsB K sc xr (.type "range")) (hy : nm[y]? = some yy) (hk : sc.names.lookup yy = some .cell) (cs : CScope csc j yy) (star : StarOk pn) (hl : lget l y = some (.int yv))
    (hn : Ge prog w A (eval pn env) (fun v => intS v fun n => (0 ≤ n ∧ n ≤ 1000) ∧ R n) z s)
    (h : ∀ D s' z' us c n, n ≤ 1000 → R n → PX s z s' z' → s'.heap.get? D = some (lisO (List.toArray us) c) → IntsAre us ((List.range n.toNat).map fun (i : Nat) => (yv + 3 * (i : Int)) % 256) → Q (.ref D) s') :
    wpAny (model prog w) A (eval (.ListComp (.BinOp (.BinOp (.Name yy p0) .Add (.BinOp (.Constant (.int 3) k3 p1) .Mult (.Name j p2) p3) p4) .Mod (.Constant (.int 256) k2 p5) p6)
        [⟨.Name j p7, .Call (.Name xr p8) [pn] [] p9, [], 0⟩] csc q) env) Q E s := by
  obtain ⟨c, u, hc, hcv, hv⟩ := cell_of X S hy hk hl
  cases hv
  rename_i ty
  refine wpAny_ListComp_free (fun _ => true) (fun v u => ∃ (i : Nat) (t t' : Tok), v = .int (0 + (i : Int)) t ∧ u = .int ((yv + 3 * (i : Int)) % 256) t') (cs.free env c hc) cs.nocell cs.kind cs.loc cs.hx ?_
  refine Call_N (Name_built X S.bsIn hr (callW1 (bs := bs) star (kp_type _) (hn _ _ fun vn un s₁ z₁ hh px hvn => ?_)))
  have S₁ := S.px px
  obtain ⟨n, t, rfl, ⟨h0, h1⟩, hR⟩ : ∃ n t, un = .int n t ∧ (0 ≤ n ∧ n ≤ 1000) ∧ R n := by
    cases vn <;> (try exact hh.elim) <;> cases hvn
    exact ⟨_, _, rfl, hh⟩
  refine ⟨S₁.bsIn, range_go h0 (by omega) fun s₂ I kp hI hlt hit => ?_⟩
  have px₂ : PX s z s₂ z₁ := px.trans (.grow kp S₁.zk)
  have hcI : c ≠ I := by
    rintro rfl
    obtain ⟨o, e, _⟩ := hcv
    rw [Keeps.keep px.1 _ _ e] at hI; cases hI
  refine ⟨I, [I], [I], n.toNat, _, _, rfl, range_walk X.aok.hd n.toNat, by rw [sizeLine_eq]; omega, hit, fun b hb => by rw [List.mem_singleton.mp hb]; exact hlt, ⟨?_, ?_⟩, ?_⟩
  · intro Ca i v s₃ m₃ E' _ _ _ _ _ _
    exact wpAny_pure ⟨rfl, Keeps.refl' _⟩
  · rintro Ca i v s₃ m₃ E' _ ⟨t, rfl⟩ _ hns hm hkp _
    have hcv₃ : s₃.heap.IsCell c (some (.int yv ty)) := by
      obtain ⟨o, e, d⟩ := hcv
      exact ⟨o, hkp c o (by simpa using hcI) (Keeps.keep px₂.1 _ _ e), d⟩
    have e : ((yv + 3 * (0 + (i : Int))).fmod 256) = (yv + 3 * (i : Int)) % 256 := by
      rw [Int.fmod_eq_emod_of_nonneg _ (by decide), show (3 : Int) * (0 + (i : Int)) = 3 * i from by omega]
    refine wpAny_BinOp (wpAny_BinOp (comp_cell cs.kind cs.hy cs.dy X.ok.kind (by rw [X.kindOf]; exact hk) (by simp [List.lookup_cons]) hcv₃ (wpAny_BinOp (wpAny_Constant_int (comp_local cs.kind cs.hx cs.dx (by exact hns) hm (mul_int (add_int (wpAny_Constant_int (mod_int' (by decide) ⟨⟨i, t, _, rfl, congrArg (Value.int · _) e⟩, ⟨_, _, rfl, fun _ _ e => e⟩⟩))) (IntMulOk.of_left (by decide))))))))
  · intro D h' tk ys vs hD _ hpl hlen hP hF hkp
    obtain ⟨cap, hpl⟩ := hpl
    obtain ⟨h₂, tk₂, rfl, kk⟩ := kp
    have kp' : Keeps s₁ { s₁ with heap := h', toks := tk } := ⟨h', tk, rfl, fun b o e => hkp b o (by rintro hb; rw [List.mem_singleton.mp hb, hI] at e; cases e) (kk b o e)⟩
    have hf : vs.filter (fun _ => true) = vs := List.filter_eq_self.mpr fun _ _ => rfl
    rw [hf] at hF
    have hyl : ys.toList.length = n.toNat := by rw [← hlen]; exact hF.length.symm
    refine h D _ z₁ ys.toList cap n h1 hR (px.trans (.grow kp' S₁.zk)) (by simpa using hpl) (ints_of (by simp [hyl]) fun i u e => ?_)
    obtain ⟨v, e1, i', t, t', rfl, rfl⟩ := paired_at hF e
    obtain ⟨t2, e2⟩ := hP i _ e1
    have e2 := (Value.int.inj e2).1
    have hi : i < n.toNat := by rw [← hyl]; exact (List.getElem?_eq_some_iff.mp e).1
    refine ⟨_, t', ?_, rfl⟩
    have : i' = i := by omega
    subst this
    simp [hi]

theorem lst_at {v : V} {u : Value} {P : List V → Prop} (S : Sim C bs env nm z l H s.heap) (hv : VR z v u) (h : lstS H v P) : ∃ a us n vs, u = .ref a ∧ s.heap.get? a = some (lisO (List.toArray us) n) ∧ VRs z vs us ∧ vs.length ≤ 1000000 ∧ P vs := by
  cases v <;> (try exact h.elim)
  · obtain rfl := hv.ref_i
    obtain ⟨vs, e, h⟩ := lstH_inv (P := P) h
    obtain ⟨us, n, e1, e2, e3⟩ := (S.trk _ _ e).2
    exact ⟨_, us, n, vs, rfl, e1, e2, e3, h⟩
  · obtain ⟨a, us, n, rfl, e, r, hb⟩ := hv.lst_i
    exact ⟨a, us, n, _, rfl, S.zk _ _ e, r, hb, h⟩

theorem pick_inv {rs : List V} {w : V} {ws us' : List V} (h : pickAll rs (w :: ws) = some us') : ∃ i us₁, w = .int i ∧ (0 ≤ i ∧ i < rs.length) ∧ pickAll rs ws = some us₁ ∧ rs.getD i.toNat .none :: us₁ = us' := by
  cases w <;> (try (cases h; done))
  rename_i i
  have h : (if 0 ≤ i ∧ i < rs.length then (pickAll rs ws).map (rs.getD i.toNat .none :: ·) else none) = some us' := h
  by_cases hc : 0 ≤ i ∧ i < rs.length
  · rw [if_pos hc] at h
    obtain ⟨us₁, e1, e2⟩ := Option.map_eq_some_iff.mp h
    exact ⟨i, us₁, rfl, hc, e1, e2⟩
  · rw [if_neg hc] at h; cases h
theorem pick_rel {rs : List V} {usr : List Value} (hr : VRs z rs usr) {uw ys : List Value} (hp : Paired (fun v u => ∃ (i : Int) (t : Tok), v = .int i t ∧ (0 ≤ i → usr[i.toNat]? = some u)) uw ys) : ∀ {ws us' : List V}, VRs z ws uw → pickAll rs ws = some us' → VRs z us' ys := by
  induction hp with
  | nil => intro ws us' h e; cases h; cases e; exact .nil
  | cons hh _ ih =>
    intro ws us' h e
    obtain ⟨i, t, rfl, g⟩ := hh
    cases h with
    | cons hw r =>
      obtain ⟨i', us₁, rfl, hc, e1, rfl⟩ := pick_inv e
      cases hw
      obtain ⟨v, q1, q2⟩ := hr.get' (g hc.1)
      have : rs.getD i.toNat .none = v := by rw [List.getD_eq_getElem?_getD, q1]; rfl
      rw [this]
      exact .cons q2 (ih r e1)
theorem pick_len {rs : List V} : ∀ {ws us' : List V}, pickAll rs ws = some us' → us'.length = ws.length := by
  intro ws
  induction ws with
  | nil => intro us' h; cases h; rfl
  | cons w ws ih => intro us' h; obtain ⟨_, _, _, _, e, rfl⟩ := pick_inv h; exact congrArg (· + 1) (ih e)
theorem pick_ok {rs : List V} : ∀ {ws us' : List V}, pickAll rs ws = some us' → ∀ v ∈ ws, ∃ i, v = .int i ∧ 0 ≤ i ∧ i < rs.length := by
  intro ws
  induction ws with
  | nil => intro us' h v hv; cases hv
  | cons w ws ih =>
    intro us' h v hv
    obtain ⟨i, _, rfl, hc, e, _⟩ := pick_inv h
    rcases List.mem_cons.mp hv with rfl | hv
    · exact ⟨i, rfl, hc⟩
    · exact ih e v hv

theorem optL_inv {o : Option (List V)} {P : List V → Prop} (h : match o with
      | some us => P us
      | none => False) : ∃ us, o = some us ∧ P us := by
  cases o with
  | none => exact h.elim
  | some v => exact ⟨_, rfl, h⟩
/-- [r[i] for i in w] -/
theorem cmr_sound {r ww : Nat} {rr wn j : Str} {csc : Scope} {p0 p1 p2 p3 p4 q : Pos} {P : V → Prop} (X : Cx prog w K mg mb C bs sc nm env F k A) (S : Sim C bs env nm z l H s.heap)
    (hr : nm[r]? = some rr) (hk : sc.names.lookup rr = some .cell) (hw : nm[ww]? = some wn) (cs : CScope csc j rr)
    (h : locS l r fun vr => locS l ww fun vw => lstS H vr fun rs => lstS H vw fun ws => match pickAll rs ws with
      | some us => P (.lst us)
      | none => False) :
    Ge prog w A (eval (.ListComp (.Subscript (.Name rr p0) (.Name j p1) p2) [⟨.Name j p3, .Name wn p4, [], 0⟩] csc q) env) P z s := by
  intro Q E kk
  obtain ⟨vr, hl, h⟩ := locS_V h
  obtain ⟨c, u, hc, hcv, hv⟩ := cell_of X S hr hk hl
  obtain ⟨vw, hl2, h⟩ := locS_V h
  obtain ⟨ar, usr, nr, rs, rfl, er, rr', hbr, h⟩ := lst_at S hv h
  refine wpAny_ListComp_free (fun _ => true) (fun v u => ∃ (i : Int) (t : Tok), v = .int i t ∧ (0 ≤ i → usr[i.toNat]? = some u)) (cs.free env c hc) cs.nocell cs.kind cs.loc cs.hx ?_
  refine Name_loc (P := fun v => v = vw) X S hw (by unfold locS; rw [hl2]) _ _ fun vw' uw s₁ z₁ hh px hvw => ?_
  subst hh
  have S₁ := S.px px
  obtain ⟨aw, usw, nw, ws, rfl, ew, rw', hbw, hh⟩ := lst_at S₁ hvw h
  obtain ⟨us, hpick, hh⟩ := optL_inv hh
  have fr : s₁.heap.get? s₁.heap.objs.size = none := fresh_none (Nat.le_refl _)
  have ne_of : ∀ {b o}, s₁.heap.get? b = some o → b ≠ s₁.heap.objs.size := fun e q => by rw [q, fr] at e; cases e
  refine wpAny_pyIter_list (items := usw.toArray) ⟨_, ew, rfl, _, rfl⟩ ?_
  refine ⟨_, _, _, _, _, _, rfl, Walks.list X.aok.hd s₁.heap.objs.size aw (ne_of ew) usw.toArray, ?_, ⟨⟨_, Heap.get?_push_size _ rfl, rfl, rfl⟩, ⟨_, Heap.get?_push_of_some _ ew, rfl, _, rfl⟩⟩, ?_, ⟨?_, ?_⟩, ?_⟩
  · have := rw'.length
    rw [sizeLine_eq, List.size_toArray]; omega
  · intro b hb
    show b < (s₁.heap.push _).objs.size
    rw [Heap.size_push]
    rcases List.mem_cons.mp hb with rfl | hb
    · exact Nat.lt_succ_self _
    · rw [List.mem_singleton.mp hb]; exact Nat.lt_succ_of_lt (Heap.lt_size ew)
  · intro Ca i v s₃ m₃ E' _ _ _ _ _ _
    exact wpAny_pure ⟨rfl, Keeps.refl' _⟩
  · intro Ca i v s₃ m₃ E' _ hp _ hns hm hkp _
    have keep : ∀ b o, s.heap.get? b = some o → s₃.heap.get? b = some o := fun b o e => by
      have e1 := Keeps.keep px.1 _ _ e
      exact hkp b o (by simpa using ne_of e1) (Heap.get?_push_of_some _ e1)
    obtain ⟨oc, q1, q2⟩ := hcv
    obtain ⟨v', q3, q4⟩ := rw'.get' (by simpa using hp)
    obtain ⟨i', rfl, hi0, hi1⟩ := pick_ok hpick v' (List.mem_of_getElem? q3)
    cases q4
    rename_i ti
    have hlen := rr'.length
    have hlt : i'.toNat < usr.length := by omega
    have hl3 : s₃.heap.IsList ar usr.toArray := ⟨_, keep _ _ er, rfl, _, rfl⟩
    refine Subscript_ (comp_cell cs.kind cs.hy cs.dy X.ok.kind (by rw [X.kindOf]; exact hk) (by simp) ⟨oc, keep _ _ q1, q2⟩ (comp_local cs.kind cs.hx cs.dx hns hm ?_))
    refine tail_any hl3.typeIs slot_list_getitem.lookup (wpAny_getItem_list (x := usr[i'.toNat]) hl3 hi0 (by omega) (by simp [hlt]) ⟨⟨i', ti, rfl, fun _ => List.getElem?_eq_getElem hlt⟩, Keeps.refl' _⟩) rfl
  · intro D h' tk ys vs hD _ hpl hlen hP hF hkp
    obtain ⟨cap, hpl⟩ := hpl
    have hf : vs.filter (fun _ => true) = vs := List.filter_eq_self.mpr fun _ _ => rfl
    rw [hf] at hF
    have hvs : vs = usw := by
      apply List.ext_getElem?
      intro j
      cases e : vs[j]? with
      | some v => have := hP j v e; simpa using this.symm
      | none =>
        have : usw.length ≤ j := by have := List.getElem?_eq_none_iff.mp e; simp at hlen; omega
        exact (List.getElem?_eq_none this).symm
    subst hvs
    have kp' : Keeps s₁ { s₁ with heap := h', toks := tk } := ⟨h', tk, rfl, fun b o e => hkp b o (by simpa using ne_of e) (Heap.get?_push_of_some _ e)⟩
    have px₂ : PX s z { s₁ with heap := h', toks := tk } z₁ := px.trans (.grow kp' S₁.zk)
    have hDn : s.heap.get? D = none := by
      cases e : s.heap.get? D with
      | none => rfl
      | some o => rw [Heap.get?_push_of_some _ (Keeps.keep px.1 _ _ e)] at hD; cases hD
    have hzD : ∀ o, z D = some o → False := fun o e => by rw [S.zk _ _ e] at hDn; cases hDn
    have hD1 : s₁.heap.get? D = none := by
      cases e : s₁.heap.get? D with
      | none => rfl
      | some o => rw [Heap.get?_push_of_some _ e] at hD; cases hD
    refine kk (.lst us) _ _ (fun a => if a = D then some (lisO ys cap) else z₁ a) hh ⟨px₂.1, fun a o e => ?_, fun a o e => ?_⟩ ?_
    · have hn : a ≠ D := fun q => hzD o (q ▸ e)
      rw [if_neg hn]; exact px.old a o e
    · by_cases hn : a = D
      · rw [if_pos hn] at e; cases e; subst hn
        exact ⟨hpl, .inr hDn⟩
      · rw [if_neg hn] at e
        exact px₂.2.new a o e
    · have hmono : ∀ a o, z₁ a = some o → (if a = D then some (lisO ys cap) else z₁ a) = some o := fun a o e => by
        have hn : a ≠ D := fun q => by rw [q] at e; rw [S₁.zk _ _ e] at hD1; cases hD1
        rw [if_neg hn]; exact e
      have hv2 := (pick_rel (rr'.mono px.old) hF rw' hpick).mono hmono
      have : VR (fun a => if a = D then some (lisO ys cap) else z₁ a) (.lst us) (.ref D) := .lst (us := ys.toList) (n := cap) (by rw [pick_len hpick]; exact hbw) (by simp) hv2
      exact this
end
end Mine
end

section
set_option genInjectivity false
open PySem PySem.W PyProof.Rows PySem.Calls PySem.Builtin
set_option Elab.async false
set_option autoImplicit false
set_option maxRecDepth 100000
namespace Mine

section
variable {prog : Program} {w : World} {K : Frag} {mg mb : Str → Option Value} {C : Addr} {bs : Heap} {sc : Scope} {nm : List Str} {env : Env} {F : FT} {k : Nat} {A : Around} {s s₀ : Shared} {z z₀ : FZ} {l : Loc} {H : HM}
variable {Q : Value → Shared → Prop} {E : Value → Shared → Prop}

theorem Ge.on {t : Sem Value} {P : V → Prop} (g : Ge prog w A t P z s) (px : PX s₀ z₀ s z) (kk : ∀ v u s' z', P v → PX s₀ z₀ s' z' → VR z' v u → Q u s') : wpAny (model prog w) A t Q E s :=
  g Q E fun v u s' z' p px' hv => kk v u s' z' p (px.trans px') hv
theorem Ge.go {t : Sem Value} {P : V → Prop} (g : Ge prog w A t P z s) (px : PX s₀ z₀ s z) (kk : ∀ v u s' z', P v → PX s z s' z' → PX s₀ z₀ s' z' → VR z' v u → Q u s') : wpAny (model prog w) A t Q E s :=
  g Q E fun v u s' z' p px' hv => kk v u s' z' p px' (px.trans px') hv
theorem Gb.on {t : Sem Bool} {P : Bool → Prop} {Q : Bool → Shared → Prop} (g : Gb prog w A t P z s) (px : PX s₀ z₀ s z) (kk : ∀ b s' z', P b → PX s₀ z₀ s' z' → Q b s') : wpAny (model prog w) A t Q E s :=
  g Q E fun v s' z' p px' => kk v s' z' p (px.trans px')

theorem intS_inv {v : V} {u : Value} {P : Int → Prop} (h : intS v P) (hv : VR z v u) : ∃ i t, u = .int i t ∧ P i := by
  obtain ⟨i, rfl, h⟩ := intS_V h
  obtain ⟨t, rfl⟩ := hv.int_i
  exact ⟨_, _, rfl, h⟩
theorem bysS_inv {v : V} {u : Value} {P : List UInt8 → Prop} (h : bysS v P) (hv : VR z v u) : ∃ b t, u = .bytes b.toArray t ∧ b.length ≤ 1000000 ∧ P b := by
  obtain ⟨b, rfl, h⟩ := bysS_V h
  obtain ⟨t, rfl, hb⟩ := hv.bytes_i
  exact ⟨_, _, rfl, hb, h⟩

theorem getItem_in (X : Cx prog w K mg mb C bs sc nm env F k A) (S : Sim C bs env nm z l H s.heap) : K.In s.heap := X.G.X.keeps S.bsIn

theorem spl1 {pa : Expr} {p : Pos} {Q : List Value → Shared → Prop} (ha : StarOk pa) (h : wpAny (model prog w) A (eval pa env) (fun u s₁ => Q [u] s₁) E s) : wpAny (model prog w) A (spliced (backTo p (starEach [pa] env))) Q E s := by
  rw [ha]
  exact spliced_cons (wpAny_mono h (fun u s₁ h₁ => spliced_nil h₁) fun _ _ e => e)
theorem spl2 {pa pb : Expr} {p : Pos} {Q : List Value → Shared → Prop} (ha : StarOk pa) (hb : StarOk pb) (h : wpAny (model prog w) A (eval pa env) (fun u s₁ => wpAny (model prog w) A (eval pb env) (fun u₂ s₂ => Q [u, u₂] s₂) E s₁) E s) : wpAny (model prog w) A (spliced (backTo p (starEach [pa, pb] env))) Q E s := by
  rw [ha, hb]
  exact spliced_cons (wpAny_mono h (fun u s₁ h₁ => spliced_cons (wpAny_mono h₁ (fun u s₁ h₁ => spliced_nil h₁) fun _ _ e => e)) fun _ _ e => e)
theorem spl4 {pa pb pc pd : Expr} {p : Pos} {Q : List Value → Shared → Prop} (ha : StarOk pa) (hb : StarOk pb) (hc : StarOk pc) (hd : StarOk pd)
    (h : wpAny (model prog w) A (eval pa env) (fun u s₁ => wpAny (model prog w) A (eval pb env) (fun u₂ s₂ => wpAny (model prog w) A (eval pc env) (fun u₃ s₃ => wpAny (model prog w) A (eval pd env) (fun u₄ s₄ => Q [u, u₂, u₃, u₄] s₄) E s₃) E s₂) E s₁) E s) :
    wpAny (model prog w) A (spliced (backTo p (starEach [pa, pb, pc, pd] env))) Q E s := by
  rw [ha, hb, hc, hd]
  exact spliced_cons (wpAny_mono h (fun u s₁ h₁ => spliced_cons (wpAny_mono h₁ (fun u s₁ h₁ => spliced_cons (wpAny_mono h₁ (fun u s₁ h₁ => spliced_cons (wpAny_mono h₁ (fun u s₁ h₁ => spliced_nil h₁) fun _ _ e => e)) fun _ _ e => e)) fun _ _ e => e)) fun _ _ e => e)

theorem get_push (o : Obj) (ho : o.isFreed = false := by rfl) : (s.heap.push o).get? s.heap.objs.size = some o := Heap.get?_push_size _ ho
theorem px_push (o : Obj) (zk : ∀ a o, z a = some o → s.heap.get? a = some o) : PX s z { s with heap := s.heap.push o } z := .grow ⟨_, s.toks, rfl, fun b x e => Heap.get?_push_of_some _ e⟩ zk

theorem fn_kp {f : Addr} (X : Cx prog w K mg mb C bs sc nm env F k A) (h : IsFn K f) : KpOk prog w bs (.ref f) := kp_func (let ⟨o, fd, e, d⟩ := h; ⟨o, fd, X.G.X _ _ e, d⟩)
theorem call_sound {f : Addr} {vs : List V} {us : List Value} {P : V → Prop} (X : Cx prog w K mg mb C bs sc nm env F k A) (S : Sim C bs env nm z l H s.heap) (h : callS F f vs P) (hv : VRs z vs us) : Ge prog w A (call (.ref f) us) P z s := by
  exact X.fok _ _ _ h A s z us X.aok S.bsIn S.zk hv
end

variable {K : Frag} {sc : Scope} {nm : List Str}
protected theorem IsE.int {i k p}  : IsE K sc nm (.int i) (.Constant (.int i) k p) := ⟨fun _ _ => rfl, fun _ _ => rfl, fun _ => rfl, fun {prog w mg mb C bs env F k A l H} X => by exact fun S h Q E kk => wpAny_Constant_int (kk _ _ _ _ h (.toks _ S.zk) (.int _ _))⟩
protected theorem IsE.neg {i k p q}  : IsE K sc nm (.int (-i)) (.UnaryOp .USub (.Constant (.int i) k p) q) := ⟨fun _ _ => rfl, fun _ _ => rfl, fun _ => rfl, fun {prog w mg mb C bs env F k A l H} X => by exact fun S h Q E kk => UnaryOp_ (wpAny_Constant_int (neg_int (kk _ _ _ _ h (.toks _ S.zk) (.int _ _))))⟩
protected theorem IsE.bool {b k p}  : IsE K sc nm (.bool b) (.Constant (.bool b) k p) := ⟨fun _ _ => rfl, fun _ _ => rfl, fun _ => rfl, fun {prog w mg mb C bs env F k A l H} X => by exact fun S h Q E kk => Constant_bool (kk _ _ _ _ h (.self S.zk) (.bool _))⟩
protected theorem IsE.none {k p}  : IsE K sc nm .none (.Constant .none k p) := ⟨fun _ _ => rfl, fun _ _ => rfl, fun _ => rfl, fun {prog w mg mb C bs env F k A l H} X => by exact fun S h Q E kk => Constant_none (kk _ _ _ _ h (.self S.zk) .none)⟩
protected theorem IsE.bys {b k p} (hb : b.length ≤ 1000000) : IsE K sc nm (.bys b) (.Constant (.bytes b) k p) := ⟨fun _ _ => rfl, fun _ _ => rfl, fun _ => rfl, fun {prog w mg mb C bs env F k A l H} X => by exact fun S h Q E kk => Constant_bytes (kk _ _ _ _ h (.toks _ S.zk) (.bytes hb _))⟩
protected theorem IsE.str {x n k p} (hx : x.length ≤ n) : IsE K sc nm (.str n) (.Constant (.str x) k p) := ⟨fun _ _ => rfl, fun _ _ => rfl, fun _ => rfl, fun {prog w mg mb C bs env F k A l H} X => by exact fun S h Q E kk => wpAny_Constant_str (kk _ _ _ _ h (.toks _ S.zk) (.str hx))⟩
protected theorem IsE.loc {i x p} (hx : nm[i]? = some x) : IsE K sc nm (.loc i) (.Name x p) := ⟨fun _ _ => rfl, fun _ _ => rfl, fun _ => rfl, fun {prog w mg mb C bs env F k A l H} X => by exact fun S h => Name_loc X S hx h⟩
protected theorem IsE.glb {i t x p} (g : IsG K sc x (.int i t)) : IsE K sc nm (.int i) (.Name x p) := ⟨fun _ _ => rfl, fun _ _ => rfl, fun _ => rfl, fun {prog w mg mb C bs env F k A l H} X => by exact fun S h Q E kk => Name_glob X S.bsIn g (kk _ _ _ _ h (.self S.zk) (.int _ _))⟩
protected theorem IsE.bin {op op' a b pa pb p} (ho : op.to = op') (ia : IsE K sc nm a pa) (ib : IsE K sc nm b pb) : IsE K sc nm (.bin op a b) (.BinOp pa op' pb p) := ⟨fun _ _ => rfl, fun _ _ => rfl, fun _ => rfl, fun {prog w mg mb C bs env F k A l H} X => by
  subst ho
  exact fun S h Q E kk => wpAny_BinOp ((ia.sound X S h).on (.self S.zk) fun va ua s₁ z₁ h px hva => (ib.sound X (S.px px) h).go px fun vb ub s₂ z₂ h p px₂ hvb =>
    (bin_sound px₂.zk (hva.mono p.old) hvb h).on px₂ kk)⟩
protected theorem IsE.cmp {op op' a b pa pb p} (ho : op.to = op') (ia : IsE K sc nm a pa) (ib : IsE K sc nm b pb) : IsE K sc nm (.cmp op a b) (.Compare pa [op'] [pb] p) := ⟨fun _ _ => rfl, fun _ _ => rfl, fun _ => rfl, fun {prog w mg mb C bs env F k A l H} X => by
  subst ho
  refine fun S h Q E kk => wpAny_Compare1 ((ia.sound X S h).on (.self S.zk) fun va ua s₁ z₁ h px hva => (ib.sound X (S.px px) h).go px fun vb ub s₂ z₂ h p px₂ hvb =>
    (cmp_sound px₂.zk (hva.mono p.old) hvb h).on px₂ fun v u s' z' hh px' hv => ?_) (ib.mark _)
  obtain ⟨b, rfl, hp⟩ := hh
  exact kk _ _ _ _ hp px' hv⟩
protected theorem IsE.isN {a pa k p q} (ia : IsE K sc nm a pa) : IsE K sc nm (.isN a) (.Compare pa [.Is] [.Constant .none k p] q) := ⟨fun _ _ => rfl, fun _ _ => rfl, fun _ => rfl, fun {prog w mg mb C bs env F k A l H} X => by
  refine fun S h Q E kk => wpAny_Compare1 ((ia.sound X S h).on (.self S.zk) fun va ua s₁ z₁ h px hva => Constant_none ((isN_sound px.zk hva h).on px fun v u s' z' hh px' hv => ?_)) rfl
  obtain ⟨b, rfl, hp⟩ := hh
  exact kk _ _ _ _ hp px' hv⟩
protected theorem IsE.notN {a pa k p q} (ia : IsE K sc nm a pa) : IsE K sc nm (.notN a) (.Compare pa [.IsNot] [.Constant .none k p] q) := ⟨fun _ _ => rfl, fun _ _ => rfl, fun _ => rfl, fun {prog w mg mb C bs env F k A l H} X => by
  intro s z P S h Q E kk
  refine wpAny_Compare1 ((ia.sound X S h).on (.self S.zk) fun va ua s₁ z₁ h px hva => Constant_none ((notN_sound (P := fun c => P (.bool c)) px.zk hva h).on px fun v u s' z' hh px' hv => ?_)) rfl
  obtain ⟨b, rfl, hp⟩ := hh
  exact kk _ _ _ _ hp px' hv⟩
protected theorem IsE.and {a b pa pb p} (ia : IsE K sc nm a pa) (ib : IsE K sc nm b pb) : IsE K sc nm (.and a b) (.BoolOp .And [pa, pb] p) := ⟨fun _ _ => rfl, fun _ _ => rfl, fun _ => rfl, fun {prog w mg mb C bs env F k A l H} X => by
  refine fun S h Q E kk => BoolOp_and ((ia.sound X S h).on (.self S.zk) fun va ua s₁ z₁ h px hva => (tr_sound px.zk hva h).on (.self px.zk) fun b s₂ z₂ h p => ?_)
  cases b
  · exact kk _ _ _ _ (h.2 rfl) (px.trans p) (hva.mono p.old)
  · exact (ib.sound X (S.px (px.trans p)) (h.1 rfl)).on (px.trans p) kk⟩
protected theorem IsE.or {a b pa pb p} (ia : IsE K sc nm a pa) (ib : IsE K sc nm b pb) : IsE K sc nm (.or a b) (.BoolOp .Or [pa, pb] p) := ⟨fun _ _ => rfl, fun _ _ => rfl, fun _ => rfl, fun {prog w mg mb C bs env F k A l H} X => by
  refine fun S h Q E kk => BoolOp_or ((ia.sound X S h).on (.self S.zk) fun va ua s₁ z₁ h px hva => (tr_sound px.zk hva h).on (.self px.zk) fun b s₂ z₂ h p => ?_)
  cases b
  · exact (ib.sound X (S.px (px.trans p)) (h.2 rfl)).on (px.trans p) kk
  · exact kk _ _ _ _ (h.1 rfl) (px.trans p) (hva.mono p.old)⟩
protected theorem IsE.ite {c a b y py pa pb p} (ic : IsE K sc nm c (.Name y py)) (ia : IsE K sc nm a pa) (ib : IsE K sc nm b pb) : IsE K sc nm (.ite c a b) (.IfExp (.Name y py) pa pb p) := ⟨fun _ _ => rfl, fun _ _ => rfl, fun _ => rfl, fun {prog w mg mb C bs env F k A l H} X => by
  refine fun S h Q E kk => IfExp_ (isTrue_plain ((ic.sound X S h).on (.self S.zk) fun va ua s₁ z₁ h px hva => (tr_sound px.zk hva h).on (.self px.zk) fun b s₂ z₂ h p => ?_) rfl)
  cases b
  · exact (ib.sound X (S.px (px.trans p)) (h.2 rfl)).on (px.trans p) kk
  · exact (ia.sound X (S.px (px.trans p)) (h.1 rfl)).on (px.trans p) kk⟩
protected theorem IsE.idx {a i pa pi p} (ia : IsE K sc nm a pa) (ib : IsE K sc nm i pi) : IsE K sc nm (.idx a i) (.Subscript pa pi p) := ⟨fun _ _ => rfl, fun _ _ => rfl, fun _ => rfl, fun {prog w mg mb C bs env F k A l H} X => by
  exact fun S h Q E kk => Subscript_ ((ia.sound X S h).on (.self S.zk) fun va ua s₁ z₁ h px hva => (ib.sound X (S.px px) h).go px fun vb ub s₂ z₂ h p px₂ hvb =>
    (idx_sound (S.px px₂) ib.sub (hva.mono p.old) hvb h).on px₂ kk)⟩
protected theorem IsE.sl0 {a b pa pb p q} (ia : IsE K sc nm a pa) (ib : IsE K sc nm b pb) : IsE K sc nm (.sl0 a b) (.Subscript pa (.Slice .none (some pb) .none p) q) := ⟨fun _ _ => rfl, fun _ _ => rfl, fun _ => rfl, fun {prog w mg mb C bs env F k A l H} X => by
  refine fun S h Q E kk => Subscript_ ((ia.sound X S h).on (.self S.zk) fun va ua s₁ z₁ h px hva => wpAny_Slice (evalPart_none_step (evalPart_some_step ((ib.sound X (S.px px) h).go px fun vb ub s₂ z₂ h p px₂ hvb => evalPart_none_step ?_))))
  obtain ⟨b, t, rfl, hb, h⟩ := bysS_inv h (hva.mono p.old)
  obtain ⟨i, ti, rfl, h⟩ := intS_inv h hvb
  refine slice_bytes hb .none (.int i ti) px₂.zk fun s' t' p' => ?_
  rw [show (Option.elim (some i) b.length (clipAt b.length)) = clipAt b.length i from rfl, show (Option.elim (none : Option Int) 0 (clipAt b.length)) = 0 from rfl, sl_take i h.1]
  exact kk _ _ _ _ h.2 (px₂.trans p') (.bytes (by simp; omega) _)⟩
protected theorem IsE.sl1 {a b pa pb p q} (ia : IsE K sc nm a pa) (ib : IsE K sc nm b pb) : IsE K sc nm (.sl1 a b) (.Subscript pa (.Slice (some pb) .none .none p) q) := ⟨fun _ _ => rfl, fun _ _ => rfl, fun _ => rfl, fun {prog w mg mb C bs env F k A l H} X => by
  refine fun S h Q E kk => Subscript_ ((ia.sound X S h).on (.self S.zk) fun va ua s₁ z₁ h px hva => wpAny_Slice (evalPart_some_step ((ib.sound X (S.px px) h).go px fun vb ub s₂ z₂ h p px₂ hvb => evalPart_none_step (evalPart_none_step ?_))))
  obtain ⟨b, t, rfl, hb, h⟩ := bysS_inv h (hva.mono p.old)
  obtain ⟨i, ti, rfl, h⟩ := intS_inv h hvb
  refine slice_bytes hb (.int i ti) .none px₂.zk fun s' t' p' => ?_
  rw [show (Option.elim (none : Option Int) b.length (clipAt b.length)) = b.length from rfl, show (Option.elim (some i) 0 (clipAt b.length)) = clipAt b.length i from rfl, sl_drop i h.1]
  exact kk _ _ _ _ h.2 (px₂.trans p') (.bytes (by simp; omega) _)⟩
protected theorem IsE.sl2 {a b c pa pb pc p q} (ia : IsE K sc nm a pa) (ib : IsE K sc nm b pb) (ic : IsE K sc nm c pc) : IsE K sc nm (.sl2 a b c) (.Subscript pa (.Slice (some pb) (some pc) .none p) q) := ⟨fun _ _ => rfl, fun _ _ => rfl, fun _ => rfl, fun {prog w mg mb C bs env F k A l H} X => by
  refine fun S h Q E kk => Subscript_ ((ia.sound X S h).on (.self S.zk) fun va ua s₁ z₁ h px hva => wpAny_Slice (evalPart_some_step ((ib.sound X (S.px px) h).go px fun vb ub s₂ z₂ h p px₂ hvb => evalPart_some_step ((ic.sound X (S.px px₂) h).go px₂ fun vc uc s₃ z₃ h p₃ px₃ hvc => evalPart_none_step ?_))))
  obtain ⟨b, t, rfl, hb, h⟩ := bysS_inv h ((hva.mono p.old).mono p₃.old)
  obtain ⟨i, ti, rfl, h⟩ := intS_inv h (hvb.mono p₃.old)
  obtain ⟨j, tj, rfl, h⟩ := intS_inv h hvc
  refine slice_bytes hb (.int i ti) (.int j tj) px₃.zk fun s' t' p' => ?_
  rw [show (Option.elim (some j) b.length (clipAt b.length)) = clipAt b.length j from rfl, show (Option.elim (some i) 0 (clipAt b.length)) = clipAt b.length i from rfl, sl_both i j h.1.1 h.1.2]
  exact kk _ _ _ _ h.2 (px₃.trans p') (.bytes (by simp; omega) _)⟩
protected theorem IsE.len {x a pa p q} (g : IsB K sc x (.builtin "len")) (ia : IsE K sc nm a pa) : IsE K sc nm (.len a) (.Call (.Name x p) [pa] [] q) := ⟨fun _ _ => rfl, fun _ _ => rfl, fun _ => rfl, fun {prog w mg mb C bs env F k A l H} X => by
  exact fun S h Q E kk => Call_N (Name_built X S.bsIn g (callW1 (bs := bs) ia.star (kp_builtin _) ((ia.sound X S h).on (.self S.zk) fun va ua s₁ z₁ h px hva => ⟨(S.px px).bsIn, (len_sound (S.px px) hva h).on px kk⟩)))⟩
protected theorem IsE.sum {x a pa p q} (g : IsB K sc x (.builtin "sum")) (ia : IsE K sc nm a pa) : IsE K sc nm (.sum a) (.Call (.Name x p) [pa] [] q) := ⟨fun _ _ => rfl, fun _ _ => rfl, fun _ => rfl, fun {prog w mg mb C bs env F k A l H} X => by
  refine fun S h Q E kk => Call_N (Name_built X S.bsIn g (callW1 (bs := bs) ia.star (kp_builtin _) ((ia.sound X S h).on (.self S.zk) fun va ua s₁ z₁ h px hva => ⟨(S.px px).bsIn, ?_⟩)))
  obtain ⟨b, t, rfl, hb, h⟩ := bysS_inv h hva
  exact (sum_sound X.aok.hd hb px.zk h).on px kk⟩
protected theorem IsE.min {x a b pa pb p q} (g : IsB K sc x (.builtin "min")) (ia : IsE K sc nm a pa) (ib : IsE K sc nm b pb) : IsE K sc nm (.min a b) (.Call (.Name x p) [pa, pb] [] q) := ⟨fun _ _ => rfl, fun _ _ => rfl, fun _ => rfl, fun {prog w mg mb C bs env F k A l H} X => by
  refine fun S h Q E kk => Call_N (Name_built X S.bsIn g (callW2 (bs := bs) ia.star ib.star (kp_builtin _) ((ia.sound X S h).on (.self S.zk) fun va ua s₁ z₁ h px hva => (ib.sound X (S.px px) h).go px fun vb ub s₂ z₂ h p px₂ hvb => ⟨(S.px px₂).bsIn, ?_⟩)))
  obtain ⟨i, ti, rfl, h⟩ := intS_inv h (hva.mono p.old)
  obtain ⟨j, tj, rfl, h⟩ := intS_inv h hvb
  exact (min_sound X.aok.hd px₂.zk h).on px₂ kk⟩
protected theorem IsE.strI {x a pa p q} (g : IsB K sc x (.type "str")) (ia : IsE K sc nm a pa) : IsE K sc nm (.strI a) (.Call (.Name x p) [pa] [] q) := ⟨fun _ _ => rfl, fun _ _ => rfl, fun _ => rfl, fun {prog w mg mb C bs env F k A l H} X => by
  refine fun S h Q E kk => Call_N (Name_built X S.bsIn g (callW1 (bs := bs) ia.star (kp_type _) ((ia.sound X S h).on (.self S.zk) fun va ua s₁ z₁ h px hva => ⟨(S.px px).bsIn, ?_⟩)))
  obtain ⟨i, ti, rfl, h⟩ := intS_inv h hva
  exact (str_sound px.zk h.1.1 h.1.2 h.2).on px kk⟩
protected theorem IsE.bytB {x a pa p q} (g : IsB K sc x (.type "bytes")) (ia : IsE K sc nm a pa) : IsE K sc nm (.bytB a) (.Call (.Name x p) [pa] [] q) := ⟨fun _ _ => rfl, fun _ _ => rfl, fun _ => rfl, fun {prog w mg mb C bs env F k A l H} X => by
  exact fun S h Q E kk => Call_N (Name_built X S.bsIn g (callW1 (bs := bs) ia.star (kp_type _) ((ia.sound X S h).on (.self S.zk) fun va ua s₁ z₁ h px hva => ⟨(S.px px).bsIn, (bytB_sound (S.px px) hva h).on px kk⟩)))⟩
protected theorem IsE.by1 {x a pa p q r} (g : IsB K sc x (.type "bytes")) (ia : IsE K sc nm a pa) : IsE K sc nm (.by1 a) (.Call (.Name x p) [.List [pa] r] [] q) := ⟨fun _ _ => rfl, fun _ _ => rfl, fun _ => rfl, fun {prog w mg mb C bs env F k A l H} X => by
  refine fun S h Q E kk => Call_N (Name_built X S.bsIn g (callW1 (bs := bs) (fun _ _ => rfl) (kp_type _) (List_ (spl1 ia.star ((ia.sound X S h).on (.self S.zk) fun va ua s₁ z₁ h px hva => ?_)))))
  obtain ⟨i, ti, rfl, h⟩ := intS_inv h hva
  refine wpAny_newObj_type ⟨(S.px (px.trans (px_push _ px.zk))).bsIn, (bytes_of (s := { s₁ with heap := s₁.heap.push _ }) (us := [.int i ti]) (is := [i]) X.aok.hd (px_push _ px.zk).zk (get_push _) (.cons _ _ .nil) (by simpa using h.1) (by simp) h.2).on (px.trans (px_push _ px.zk)) kk⟩⟩
protected theorem IsE.by2 {x a b pa pb p q r} (g : IsB K sc x (.type "bytes")) (ia : IsE K sc nm a pa) (ib : IsE K sc nm b pb) : IsE K sc nm (.by2 a b) (.Call (.Name x p) [.List [pa, pb] r] [] q) := ⟨fun _ _ => rfl, fun _ _ => rfl, fun _ => rfl, fun {prog w mg mb C bs env F k A l H} X => by
  refine fun S h Q E kk => Call_N (Name_built X S.bsIn g (callW1 (bs := bs) (fun _ _ => rfl) (kp_type _) (List_ (spl2 ia.star ib.star ((ia.sound X S h).on (.self S.zk) fun va ua s₁ z₁ h px hva => (ib.sound X (S.px px) h).go px fun vb ub s₂ z₂ h p px₂ hvb => ?_)))))
  obtain ⟨i, ti, rfl, h⟩ := intS_inv h (hva.mono p.old)
  obtain ⟨j, tj, rfl, h⟩ := intS_inv h hvb
  refine wpAny_newObj_type ⟨(S.px (px₂.trans (px_push _ px₂.zk))).bsIn, (bytes_of (s := { s₂ with heap := s₂.heap.push _ }) (us := [.int i ti, .int j tj]) (is := [i, j]) X.aok.hd (px_push _ px₂.zk).zk (get_push _) (.cons _ _ (.cons _ _ .nil)) (by simpa using h.1) (by simp) h.2).on (px₂.trans (px_push _ px₂.zk)) kk⟩⟩
protected theorem IsE.by4 {x a b c d pa pb pc pd p q r} (g : IsB K sc x (.type "bytes")) (ia : IsE K sc nm a pa) (ib : IsE K sc nm b pb) (ic : IsE K sc nm c pc) (id : IsE K sc nm d pd) : IsE K sc nm (.by4 a b c d) (.Call (.Name x p) [.List [pa, pb, pc, pd] r] [] q) := ⟨fun _ _ => rfl, fun _ _ => rfl, fun _ => rfl, fun {prog w mg mb C bs env F k A l H} X => by
  refine fun S h Q E kk => Call_N (Name_built X S.bsIn g (callW1 (bs := bs) (fun _ _ => rfl) (kp_type _) (List_ (spl4 ia.star ib.star ic.star id.star ((ia.sound X S h).on (.self S.zk) fun va ua s₁ z₁ h px hva => (ib.sound X (S.px px) h).go px fun vb ub s₂ z₂ h p px₂ hvb =>
    (ic.sound X (S.px px₂) h).go px₂ fun vc uc s₃ z₃ h p₃ px₃ hvc => (id.sound X (S.px px₃) h).go px₃ fun vd ud s₄ z₄ h p₄ px₄ hvd => ?_)))))
  obtain ⟨i, ti, rfl, h⟩ := intS_inv h (((hva.mono p.old).mono p₃.old).mono p₄.old)
  obtain ⟨j, tj, rfl, h⟩ := intS_inv h ((hvb.mono p₃.old).mono p₄.old)
  obtain ⟨m, tm, rfl, h⟩ := intS_inv h (hvc.mono p₄.old)
  obtain ⟨n, tn, rfl, h⟩ := intS_inv h hvd
  refine wpAny_newObj_type ⟨(S.px (px₄.trans (px_push _ px₄.zk))).bsIn, (bytes_of (s := { s₄ with heap := s₄.heap.push _ }) (us := [.int i ti, .int j tj, .int m tm, .int n tn]) (is := [i, j, m, n]) X.aok.hd (px_push _ px₄.zk).zk (get_push _) (.cons _ _ (.cons _ _ (.cons _ _ (.cons _ _ .nil)))) (by simpa using h.1) (by simp) h.2).on (px₄.trans (px_push _ px₄.zk)) kk⟩⟩
protected theorem IsE.byr {x a n pa pn p q r u} (g : IsB K sc x (.type "bytes")) (ia : IsE K sc nm a pa) (ib : IsE K sc nm n pn) : IsE K sc nm (.byr a n) (.Call (.Name x p) [.BinOp (.List [pa] r) .Mult pn u] [] q) := ⟨fun _ _ => rfl, fun _ _ => rfl, fun _ => rfl, fun {prog w mg mb C bs env F k A l H} X => by
  intro s z P S h Q E kk
  refine Call_N (Name_built X S.bsIn g (callW1 (bs := bs) (fun _ _ => rfl) (kp_type _) (wpAny_BinOp (List_ (spl1 ia.star ((ia.sound X S h).on (.self S.zk) fun va ua s₁ z₁ h px hva => wpAny_newObj_type ?_))))))
  have p₁ := px_push (s := s₁) { cls := .type "list", data := .seq [ua].toArray } px.zk
  refine (ib.sound X (S.px (px.trans p₁)) h).go (px.trans p₁) fun vb ub s₂ z₂ h p px₂ hvb => ?_
  obtain ⟨i, ti, rfl, h⟩ := intS_inv h (hva.mono p.old)
  obtain ⟨j, tj, rfl, h⟩ := intS_inv h hvb
  refine mul_lst (u := .int i ti) (c := 0) (Keeps.keep p.1 _ _ (get_push _)) h.1.2.1 (by have := h.1.2.2; omega) ?_
  have p₃ := px_push (s := s₂) (lisO (List.replicate j.toNat (Value.int i ti)).toArray 0) px₂.zk
  have hi : ∀ n, IntsAre (List.replicate n (Value.int i ti)) (List.replicate n i) := fun n => by
    induction n with
    | zero => exact .nil
    | succ n ih => exact .cons _ _ ih
  refine ⟨(S.px (px₂.trans p₃)).bsIn, (bytes_of (s := { s₂ with heap := s₂.heap.push _ }) (P := P) X.aok.hd p₃.zk (get_push _) (hi _) ?_ ?_ ?_).on (px₂.trans p₃) kk⟩
  · intro x hx
    rw [List.eq_of_mem_replicate hx]; exact h.1.1
  · rw [List.length_replicate]; have := h.1.2.2; omega
  · rw [List.map_replicate]; exact h.2⟩
protected theorem IsE.byc {x y n pn xr p q q2 cs j yy k3 k2 p0 p1 p2 p3 p4 p5 p6 p7 p8 p9} (g : IsB K sc x (.type "bytes")) (gr : IsB K sc xr (.type "range")) (hy : nm[y]? = some yy) (hk : sc.names.lookup yy = some .cell) (csc : CScope cs j yy) (ib : IsE K sc nm n pn) : IsE K sc nm (.byc y n) (.Call (.Name x p) [.ListComp (.BinOp (.BinOp (.Name yy p0) .Add (.BinOp (.Constant (.int 3) k3 p1) .Mult (.Name j p2) p3) p4) .Mod (.Constant (.int 256) k2 p5) p6) [⟨.Name j p7, .Call (.Name xr p8) [pn] [] p9, [], 0⟩] cs q2] [] q) := ⟨fun _ _ => rfl, fun _ _ => rfl, fun _ => rfl, fun {prog w mg mb C bs env F k A l H} X => by
  intro s z P S h Q E kk
  have h' : locS l y fun vy => intS vy fun y => Pe F H l n fun vn => intS vn fun n => (0 ≤ n ∧ n ≤ 1000) ∧ P (.bytes ((List.range n.toNat).map fun (j : Nat) => toB ((y + 3 * (j : Int)) % 256))) := by
    exact h
  obtain ⟨vy, hl, h'⟩ := locS_V h'
  obtain ⟨yv, rfl, h'⟩ := intS_V h'
  refine Call_N (Name_built X S.bsIn g (callW1 (bs := bs) (fun _ _ => rfl) (kp_type _) (byc_sound X S gr hy hk csc ib.star hl (ib.sound X S h') fun D s' z' us c n hn hp px e hi => ⟨(S.px px).bsIn, (bytes_of (P := P) X.aok.hd px.zk e hi ?_ ?_ ?_).on px kk⟩)))
  · intro x hx
    obtain ⟨i, _, rfl⟩ := List.mem_map.mp hx
    constructor <;> omega
  · simp; omega
  · rw [List.map_map]; exact hp⟩
protected theorem IsE.att {o f y py x p} (hx : fnm[f]? = some x) (ia : IsE K sc nm o (.Name y py)) : IsE K sc nm (.att o f) (.Attribute (.Name y py) x p) := ⟨fun _ _ => rfl, fun _ _ => rfl, fun _ => rfl, fun {prog w mg mb C bs env F k A l H} X => by
  exact fun S h Q E kk => Attribute_name ((ia.sound X S h).on (.self S.zk) fun va ua s₁ z₁ h px hva => (att_sound X.ck (getItem_in X (S.px px)) (S.px px) hx hva h).on px kk)⟩
protected theorem IsE.tu2 {a b pa pb k p} (ia : IsE K sc nm a pa) (ib : IsE K sc nm b pb) : IsE K sc nm (.tu2 a b) (.Tuple [pa, pb] k p) := ⟨fun _ _ => rfl, fun _ _ => rfl, fun _ => rfl, fun {prog w mg mb C bs env F k A l H} X => by
  exact fun S h Q E kk => Tuple_ (spl2 ia.star ib.star ((ia.sound X S h).on (.self S.zk) fun va ua s₁ z₁ h px hva => (ib.sound X (S.px px) h).go px fun vb ub s₂ z₂ h p px₂ hvb => (new_tup2 px₂.zk (hva.mono p.old) hvb h).on px₂ kk))⟩
protected theorem IsE.tu4 {a b c d pa pb pc pd k p} (ia : IsE K sc nm a pa) (ib : IsE K sc nm b pb) (ic : IsE K sc nm c pc) (id : IsE K sc nm d pd) : IsE K sc nm (.tu4 a b c d) (.Tuple [pa, pb, pc, pd] k p) := ⟨fun _ _ => rfl, fun _ _ => rfl, fun _ => rfl, fun {prog w mg mb C bs env F k A l H} X => by
  exact fun S h Q E kk => Tuple_ (spl4 ia.star ib.star ic.star id.star ((ia.sound X S h).on (.self S.zk) fun va ua s₁ z₁ h px hva => (ib.sound X (S.px px) h).go px fun vb ub s₂ z₂ h p px₂ hvb =>
    (ic.sound X (S.px px₂) h).go px₂ fun vc uc s₃ z₃ h p₃ px₃ hvc => (id.sound X (S.px px₃) h).go px₃ fun vd ud s₄ z₄ h p₄ px₄ hvd =>
      (new_tup4 px₄.zk (((hva.mono p.old).mono p₃.old).mono p₄.old) ((hvb.mono p₃.old).mono p₄.old) (hvc.mono p₄.old) hvd h).on px₄ kk))⟩
protected theorem IsE.ls1 {a pa p} (ia : IsE K sc nm a pa) : IsE K sc nm (.ls1 a) (.List [pa] p) := ⟨fun _ _ => rfl, fun _ _ => rfl, fun _ => rfl, fun {prog w mg mb C bs env F k A l H} X => by
  exact fun S h Q E kk => List_ (spl1 ia.star ((ia.sound X S h).on (.self S.zk) fun va ua s₁ z₁ h px hva => (new_lst px.zk (.cons hva .nil) (by simp) h).on px kk))⟩
protected theorem IsE.ls4 {a b c d pa pb pc pd p} (ia : IsE K sc nm a pa) (ib : IsE K sc nm b pb) (ic : IsE K sc nm c pc) (id : IsE K sc nm d pd) : IsE K sc nm (.ls4 a b c d) (.List [pa, pb, pc, pd] p) := ⟨fun _ _ => rfl, fun _ _ => rfl, fun _ => rfl, fun {prog w mg mb C bs env F k A l H} X => by
  exact fun S h Q E kk => List_ (spl4 ia.star ib.star ic.star id.star ((ia.sound X S h).on (.self S.zk) fun va ua s₁ z₁ h px hva => (ib.sound X (S.px px) h).go px fun vb ub s₂ z₂ h p px₂ hvb =>
    (ic.sound X (S.px px₂) h).go px₂ fun vc uc s₃ z₃ h p₃ px₃ hvc => (id.sound X (S.px px₃) h).go px₃ fun vd ud s₄ z₄ h p₄ px₄ hvd =>
      (new_lst px₄.zk (.cons (((hva.mono p.old).mono p₃.old).mono p₄.old) (.cons ((hvb.mono p₃.old).mono p₄.old) (.cons (hvc.mono p₄.old) (.cons hvd .nil)))) (by simp) h).on px₄ kk))⟩
protected theorem IsE.ca0 {x f p q} (g : IsG K sc x (.ref f)) (hf : IsFn K f) : IsE K sc nm (.ca0 f) (.Call (.Name x p) [] [] q) := ⟨fun _ _ => rfl, fun _ _ => rfl, fun _ => rfl, fun {prog w mg mb C bs env F k A l H} X => by
  intro s z P S h Q E kk
  refine Call_N (Name_glob X S.bsIn g (callW0 (bs := bs) (fn_kp X hf) S.bsIn ?_))
  exact (call_sound X S h .nil).on (.self S.zk) kk⟩
protected theorem IsE.ca1 {x f a pa p q} (g : IsG K sc x (.ref f)) (hf : IsFn K f) (ia : IsE K sc nm a pa) : IsE K sc nm (.ca1 f a) (.Call (.Name x p) [pa] [] q) := ⟨fun _ _ => rfl, fun _ _ => rfl, fun _ => rfl, fun {prog w mg mb C bs env F k A l H} X => by
  exact fun S h Q E kk => Call_N (Name_glob X S.bsIn g (callW1 (bs := bs) ia.star (fn_kp X hf) ((ia.sound X S h).on (.self S.zk) fun va ua s₁ z₁ h px hva => ⟨(S.px px).bsIn, (call_sound X (S.px px) h (.cons hva .nil)).on px kk⟩)))⟩
protected theorem IsE.ca2 {x f a b pa pb p q} (g : IsG K sc x (.ref f)) (hf : IsFn K f) (ia : IsE K sc nm a pa) (ib : IsE K sc nm b pb) : IsE K sc nm (.ca2 f a b) (.Call (.Name x p) [pa, pb] [] q) := ⟨fun _ _ => rfl, fun _ _ => rfl, fun _ => rfl, fun {prog w mg mb C bs env F k A l H} X => by
  exact fun S h Q E kk => Call_N (Name_glob X S.bsIn g (callW2 (bs := bs) ia.star ib.star (fn_kp X hf) ((ia.sound X S h).on (.self S.zk) fun va ua s₁ z₁ h px hva => (ib.sound X (S.px px) h).go px fun vb ub s₂ z₂ h p px₂ hvb =>
    ⟨(S.px px₂).bsIn, (call_sound X (S.px px₂) h (.cons (hva.mono p.old) (.cons hvb .nil))).on px₂ kk⟩)))⟩
protected theorem IsE.ca3 {x f a b c pa pb pc p q} (g : IsG K sc x (.ref f)) (hf : IsFn K f) (ia : IsE K sc nm a pa) (ib : IsE K sc nm b pb) (ic : IsE K sc nm c pc) : IsE K sc nm (.ca3 f a b c) (.Call (.Name x p) [pa, pb, pc] [] q) := ⟨fun _ _ => rfl, fun _ _ => rfl, fun _ => rfl, fun {prog w mg mb C bs env F k A l H} X => by
  exact fun S h Q E kk => Call_N (Name_glob X S.bsIn g (callW3 (bs := bs) ia.star ib.star ic.star (fn_kp X hf) ((ia.sound X S h).on (.self S.zk) fun va ua s₁ z₁ h px hva => (ib.sound X (S.px px) h).go px fun vb ub s₂ z₂ h p px₂ hvb =>
    (ic.sound X (S.px px₂) h).go px₂ fun vc uc s₃ z₃ h p₃ px₃ hvc => ⟨(S.px px₃).bsIn, (call_sound X (S.px px₃) h (.cons ((hva.mono p.old).mono p₃.old) (.cons (hvb.mono p₃.old) (.cons hvc .nil)))).on px₃ kk⟩)))⟩
protected theorem IsE.cmr {r w rr ww j cs p0 p1 p2 p3 p4 q} (hr : nm[r]? = some rr) (hk : sc.names.lookup rr = some .cell) (hw : nm[w]? = some ww) (csc : CScope cs j rr) : IsE K sc nm (.cmr r w) (.ListComp (.Subscript (.Name rr p0) (.Name j p1) p2) [⟨.Name j p3, .Name ww p4, [], 0⟩] cs q) := ⟨fun _ _ => rfl, fun _ _ => rfl, fun _ => rfl, fun {prog w mg mb C bs env F k A l H} X => by exact fun S h => cmr_sound X S hr hk hw csc h⟩
theorem Pe_sound {prog : Program} {w : World} {mg mb : Str → Option Value} {C : Addr} {bs : Heap} {env : Env} {F : FT} {k : Nat} {A : Around} {l : Loc} {H : HM} (X : Cx prog w K mg mb C bs sc nm env F k A) {e : ME} {pe : Expr} (ie : IsE K sc nm e pe)
    {s : Shared} {z : FZ} {P : V → Prop} (S : Sim C bs env nm z l H s.heap) (h : Pe F H l e P) : Ge prog w A (eval pe env) P z s := ie.sound X S h
end Mine
end

section
set_option genInjectivity false
open PySem PySem.W PyProof.Rows PySem.Calls PySem.Builtin
set_option Elab.async false
set_option autoImplicit false
set_option maxRecDepth 100000
namespace Mine

/-- what a statement leaves -/
structure SX (env : Env) (H : HM) (s : Shared) (z : FZ) (H' : HM) (s' : Shared) (z' : FZ) : Prop where
  sh : ∃ h t, s' = { s with heap := h, toks := t }
  kp : ∀ b o, s.heap.get? b = some o → H b = none → b ≠ env.locals → (∀ x, env.cells.lookup x ≠ some b) → s'.heap.get? b = some o
  ex : ∀ b o, s.heap.get? b = some o → ∃ o', s'.heap.get? b = some o'
  trk : ∀ b mo, H' b = some mo → (∃ mo', H b = some mo') ∨ s.heap.get? b = none
  old : ∀ a o, z a = some o → z' a = some o
  new : ∀ a o, z' a = some o → z a = some o ∨ s.heap.get? a = none ∨ ∃ mo, H a = some mo

section
variable {prog : Program} {w : World} {K : Frag} {mg mb : Str → Option Value} {C : Addr} {bs : Heap} {sc : Scope} {nm : List Str} {env : Env} {F : FT} {k : Nat} {A : Around} {s s₀ : Shared} {z z₀ : FZ} {l : Loc} {H : HM}
variable {Q : Value → Shared → Prop} {E : Value → Shared → Prop}

theorem SX.of_px {s' : Shared} {z' : FZ} (p : PX s z s' z') : SX env H s z H s' z' where
  sh := by obtain ⟨h, t, rfl, _⟩ := p.1; exact ⟨h, t, rfl⟩
  kp b o e _ _ _ := Keeps.keep p.1 b o e
  ex b o e := ⟨o, Keeps.keep p.1 b o e⟩
  trk b mo e := .inl ⟨mo, e⟩
  old := p.old
  new a o e := by
    rcases (p.2.new a o e).2 with q | q
    · exact .inl q
    · exact .inr (.inl q)
theorem SX.trans {H₁ H₂ : HM} {s₁ s₂ : Shared} {z₁ z₂ : FZ} {l₁ : Loc} (S₁ : Sim C bs env nm z₁ l₁ H₁ s₁.heap) (x : SX env H s z H₁ s₁ z₁) (y : SX env H₁ s₁ z₁ H₂ s₂ z₂) : SX env H s z H₂ s₂ z₂ where
  sh := by obtain ⟨h, t, rfl⟩ := x.sh; obtain ⟨h', t', rfl⟩ := y.sh; exact ⟨h', t', rfl⟩
  kp b o e e1 e2 e3 := by
    refine y.kp b o (x.kp b o e e1 e2 e3) ?_ e2 e3
    cases q : H₁ b with
    | none => rfl
    | some mo =>
      rcases x.trk b mo q with ⟨mo', q'⟩ | q'
      · rw [e1] at q'; cases q'
      · rw [e] at q'; cases q'
  ex b o e := by obtain ⟨o', e'⟩ := x.ex b o e; exact y.ex b o' e'
  trk b mo e := by
    rcases y.trk b mo e with ⟨mo', q⟩ | q
    · exact x.trk b mo' q
    · right
      cases q' : s.heap.get? b with
      | none => rfl
      | some o => obtain ⟨o', e'⟩ := x.ex b o q'; rw [q] at e'; cases e'
  old a o e := y.old a o (x.old a o e)
  new a o e := by
    rcases y.new a o e with q | q | ⟨mo, q⟩
    · exact x.new a o q
    · right; left
      cases q' : s.heap.get? a with
      | none => rfl
      | some o => obtain ⟨o', e'⟩ := x.ex a o q'; rw [q] at e'; cases e'
    · rcases x.trk a mo q with q' | q'
      · exact .inr (.inr q')
      · exact .inr (.inl q')

/-- a local is stored -/
theorem Sim.setLoc2 (X : Cx prog w K mg mb C bs sc nm env F k A) {i : Nat} {x : Str} {v : V} {u : Value} {h' : Heap} {z' : FZ} (S : Sim C bs env nm z l H s.heap) (hx : nm[i]? = some x) (hv : VR z' v u) (hold : ∀ a o, z a = some o → z' a = some o) (hnew : ∀ a o, z' a = some o → z a = some o ∨ (h'.get? a = some o ∧ s.heap.get? a = none)) (hk : env.kindOf x = some .local)
    {m : Str → Option Value} (hm : ∀ i v x, lget l i = some v → nm[i]? = some x → env.kindOf x = some .local → ∃ u, m x = some u ∧ VR z v u)
    (hn : h'.Ns env.locals (fun y => if y = x then some u else m y)) (hs : ∀ b o, b ≠ env.locals → s.heap.get? b = some o → h'.get? b = some o) : Sim C bs env nm z' (lset l i v) H h' where
  loc := by
    refine ⟨_, hn, fun j w y e1 e2 e3 => ?_⟩
    by_cases q : y = x
    · subst q
      have : j = i := X.inj _ _ _ e2 hx
      subst this
      rw [lget_lset_eq _ _ _ _ e1]
      exact ⟨u, if_pos rfl, hv⟩
    · have : j ≠ i := fun e => q (by rw [e, hx] at e2; exact (Option.some.inj e2).symm)
      rw [lget_lset_ne _ _ _ _ this] at e1
      rw [if_neg q]
      obtain ⟨u, q1, q2⟩ := hm j w y e1 e2 e3
      exact ⟨u, q1, q2.mono hold⟩
  cel y c e := by
    obtain ⟨a1, a2, a3, cv, ⟨oc, a4, a5⟩, a6⟩ := S.cel y c e
    refine ⟨a1, a2, a3, cv, ⟨oc, hs _ _ a1 a4, a5⟩, fun j w e1 e2 e3 => ?_⟩
    have : j ≠ i := fun q => by rw [q, hx] at e2; cases e2; rw [hk] at e3; cases e3
    rw [lget_lset_ne _ _ _ _ this] at e1
    obtain ⟨u, q1, q2⟩ := a6 j w e1 e2 e3
    exact ⟨u, q1, q2.mono hold⟩
  apart := S.apart
  trk a o e := by
    obtain ⟨q1, q2⟩ := S.trk a o e
    refine ⟨q1, ?_⟩
    cases o with
    | lst vs => obtain ⟨us, n, e, r, y⟩ := q2; exact ⟨us, n, hs _ _ q1 e, r.mono hold, y⟩
    | barr b' => exact ⟨hs _ _ q1 q2.1, q2.2⟩
    | ob dx fs => obtain ⟨p0, p1, es, n, p2, p3, p4⟩ := q2; exact ⟨hs _ _ q1 p0, p1, es, n, hs _ _ (S.trk dx _ p1).1 p2, p3, p4.mono hold⟩
    | hid b' => obtain ⟨p0, p1⟩ := q2; exact ⟨p0, hs _ _ q1 p1⟩
  fz a o e := by
    rcases hnew a o e with e | ⟨e1, e2⟩
    · obtain ⟨q1, q2, q3, q4⟩ := S.fz a o e
      exact ⟨hs _ _ q3 q1, q2, q3, q4⟩
    · exact ⟨e1, S.none_of e2, S.fresh_loc e2, S.fresh_cel e2⟩
  base b o e := by
    obtain ⟨q1, q2⟩ := S.base b o e
    exact ⟨hs _ _ (fun q => by rw [q, S.bl] at e; cases e) q1, q2⟩
  bl := S.bl
theorem Sim.setLoc (X : Cx prog w K mg mb C bs sc nm env F k A) {i : Nat} {x : Str} {v : V} {u : Value} {h' : Heap} (S : Sim C bs env nm z l H s.heap) (hx : nm[i]? = some x) (hv : VR z v u) (hk : env.kindOf x = some .local)
    {m : Str → Option Value} (hm : ∀ i v x, lget l i = some v → nm[i]? = some x → env.kindOf x = some .local → ∃ u, m x = some u ∧ VR z v u)
    (hn : h'.Ns env.locals (fun y => if y = x then some u else m y)) (hs : ∀ b o, b ≠ env.locals → s.heap.get? b = some o → h'.get? b = some o) : Sim C bs env nm z (lset l i v) H h' :=
  S.setLoc2 X hx hv (fun _ _ e => e) (fun _ _ e => .inl e) hk hm hn hs
theorem Sim.setCel (X : Cx prog w K mg mb C bs sc nm env F k A) {i : Nat} {x : Str} {v : V} {u : Value} {c : Addr} {h' : Heap} (S : Sim C bs env nm z l H s.heap) (hx : nm[i]? = some x) (hv : VR z v u) (hk : env.kindOf x = some .cell)
    (hc : env.cells.lookup x = some c) (hn : h'.IsCell c (some u)) (hs : ∀ b o, b ≠ c → s.heap.get? b = some o → h'.get? b = some o) : Sim C bs env nm z (lset l i v) H h' where
  loc := by
    obtain ⟨m, n, r⟩ := S.loc
    refine ⟨m, n.at' fun o e => hs _ _ (Ne.symm (S.cel x c hc).1) e, fun j w y e1 e2 e3 => ?_⟩
    have : j ≠ i := fun q => by rw [q, hx] at e2; cases e2; rw [hk] at e3; cases e3
    rw [lget_lset_ne _ _ _ _ this] at e1
    exact r j w y e1 e2 e3
  cel y c' e := by
    obtain ⟨a1, a2, a3, cv, ⟨oc, a4, a5⟩, a6⟩ := S.cel y c' e
    by_cases q : c' = c
    · subst q
      have : y = x := S.apart _ _ _ e hc
      subst this
      refine ⟨a1, a2, a3, some u, hn, fun j w e1 e2 e3 => ?_⟩
      have : j = i := X.inj _ _ _ e2 hx
      subst this
      rw [lget_lset_eq _ _ _ _ e1]
      exact ⟨u, rfl, hv⟩
    · refine ⟨a1, a2, a3, cv, ⟨oc, hs _ _ q a4, a5⟩, fun j w e1 e2 e3 => ?_⟩
      have : j ≠ i := fun q' => by rw [q', hx] at e2; cases e2; rw [hc] at e; exact q (Option.some.inj e).symm
      rw [lget_lset_ne _ _ _ _ this] at e1
      exact a6 j w e1 e2 e3
  apart := S.apart
  trk a o e := by
    obtain ⟨q1, q2⟩ := S.trk a o e
    have ne : ∀ {b mo}, H b = some mo → b ≠ c := fun e q => by rw [q, (S.cel x c hc).2.1] at e; cases e
    refine ⟨q1, ?_⟩
    cases o with
    | lst vs => obtain ⟨us, n, e', r⟩ := q2; exact ⟨us, n, hs _ _ (ne e) e', r⟩
    | barr b' => exact ⟨hs _ _ (ne e) q2.1, q2.2⟩
    | ob dx fs => obtain ⟨p0, p1, es, n, p2, p3⟩ := q2; exact ⟨hs _ _ (ne e) p0, p1, es, n, hs _ _ (ne p1) p2, p3⟩
    | hid b' => obtain ⟨p0, p1⟩ := q2; exact ⟨p0, hs _ _ (ne e) p1⟩
  fz a o e := by
    obtain ⟨q1, q2, q3, q4⟩ := S.fz a o e
    exact ⟨hs _ _ (fun q => q4 x (by rw [q]; exact hc)) q1, q2, q3, q4⟩
  base b o e := by
    obtain ⟨q1, q2⟩ := S.base b o e
    exact ⟨hs _ _ (fun q => by rw [q, (S.cel x c hc).2.2.1] at e; cases e) q1, q2⟩
  bl := S.bl

theorem store_sound {i : Nat} {x : Str} {v : V} {u : Value} {Q : Unit → Shared → Prop} (X : Cx prog w K mg mb C bs sc nm env F k A) (S : Sim C bs env nm z l H s.heap) (hx : nm[i]? = some x) (hv : VR z v u)
    (kk : ∀ s', SX env H s z H s' z → Sim C bs env nm z (lset l i v) H s'.heap → Q () s') : wpAny (model prog w) A (storeName env x u) Q E s := by
  rcases (X.nmok i x hx).1 with hk | hk
  · rw [← X.kindOf] at hk
    obtain ⟨m, n, r⟩ := S.loc
    refine wpAny_storeName_local hk n (fun h' hn hs => ?_) (by rw [X.ok.kind]; rfl)
    have hk' : ∀ b o, b ≠ env.locals → s.heap.get? b = some o → h'.get? b = some o := fun b o hb e => hs.extBut b o hb e
    refine kk _ ⟨⟨_, _, rfl⟩, fun b o e _ hb _ => hk' b o hb e, fun b o e => ?_, fun b mo e => .inl ⟨mo, e⟩, fun _ _ e => e, fun _ _ e => .inl e⟩ (S.setLoc X hx hv hk r hn hk')
    by_cases q : b = env.locals
    · obtain ⟨o', _, _, e', _⟩ := hn; exact ⟨o', by rw [q]; exact e'⟩
    · exact ⟨o, hk' b o q e⟩
  · have hk0 := hk
    rw [← X.kindOf] at hk
    obtain ⟨c, hc⟩ := X.cells x hk0
    obtain ⟨_, _, _, cv, hcv, _⟩ := S.cel x c hc
    refine wpAny_storeName_cell X.ok.kind hk hc hcv fun h' hn hs => ?_
    have hk' : ∀ b o, b ≠ c → s.heap.get? b = some o → h'.get? b = some o := fun b o hb e => hs.extBut b o hb e
    refine kk _ ⟨⟨_, s.toks, rfl⟩, fun b o e _ _ hb => hk' b o (fun q => hb x (by rw [q]; exact hc)) e, fun b o e => ?_, fun b mo e => .inl ⟨mo, e⟩, fun _ _ e => e, fun _ _ e => .inl e⟩ (S.setCel X hx hv hk hc hn hk')
    by_cases q : b = c
    · obtain ⟨o', e', _⟩ := hn; exact ⟨o', by rw [q]; exact e'⟩
    · exact ⟨o, hk' b o q e⟩
end
end Mine
end

section
set_option genInjectivity false
open PySem PySem.W PyProof.Rows PySem.Calls PySem.Builtin
set_option Elab.async false
set_option autoImplicit false
set_option maxRecDepth 100000
namespace Mine

set_option genCtorIdx false in
/-- tests -/
inductive MT where
  | p (e : ME) | nt (a : MT) | an (a b : MT) | or (a b : MT)
  | mne (o m : Nat) (e : ME) | mnn (o m : Nat) | dc (f : Nat) (a b c : ME)

set_option genCtorIdx false in
/-- blocks: each statement bears what follows it -/
inductive MS where
  | nop
  | bad
  | asg (i : Nat) (e : ME) (r : MS)
  | newl (i : Nat) (r : MS)
  | newr (i : Nat) (e n : ME) (r : MS)
  | nb0 (i : Nat) (r : MS)
  | nb1 (i : Nat) (e : ME) (r : MS)
  | newo (i : Nat) (a b c : ME) (r : MS)
  | seti (x : Nat) (i e : ME) (r : MS)
  | app (x : Nat) (e : ME) (r : MS)
  | appf (o f : Nat) (e : ME) (r : MS)
  | ext (x : Nat) (e : ME) (r : MS)
  | mc0 (o m : Nat) (r : MS)
  | mc2 (o m : Nat) (a b : ME) (r : MS)
  | ma0 (i o m : Nat) (r : MS)
  | mu0 (i j o m : Nat) (r : MS)
  | un2 (i j : Nat) (e : ME) (r : MS)
  | un4 (i j p q : Nat) (e : ME) (r : MS)
  | seta (o f : Nat) (e : ME) (r : MS)
  | auga (o f : Nat) (op : Op) (e : ME) (r : MS)
  | aug (i : Nat) (op : Op) (e : ME) (r : MS)
  | ite (t : MT) (a b r : MS)
  | whl (t : MT) (b r : MS)
  | forB (i : Nat) (e : ME) (b r : MS)
  | forN (i : Nat) (n : ME) (b r : MS)
  | forR (i : Nat) (a b c : ME) (d r : MS)
  | ret (e : ME)
  | retl (x : Nat)
  | ret2 (x : Nat) (e : ME)
  | retd (f : Nat) (a b c e : ME)
  | exc (f : Nat) (a : ME) (r : MS)
  | setl (o f : Nat) (r : MS)
  | cfil (i : Nat) (n : ME) (x y : Nat) (r : MS)

inductive Out where
  | next
  | ret (v : V)

noncomputable abbrev Fs := List (Nat × V)
noncomputable abbrev MTab := Nat → Fs → List V → List V → (V → Fs → List V → Prop) → Prop

/-- a method of a tracked reader is called -/
noncomputable def mcS (M : MTab) (H : HM) (l : Loc) (o m : Nat) (vs : List V) (Q : V → HM → Prop) : Prop := match lget l o with
  | some (.ref a) => match H a with
    | some (.ob dx fs) => match fget fs 7 with
      | some (.ref rl) => match H rl with
        | some (.lst rs) => M m fs rs vs fun v fs' rs' => Q v (up (up H a (.ob dx fs')) rl (.lst rs'))
        | _ => False
      | _ => False
    | _ => False
  | _ => False

noncomputable def obS (H : HM) (l : Loc) (o : Nat) : Prop := ∃ a dx fs, lget l o = some (.ref a) ∧ H a = some (.ob dx fs)

noncomputable def WT (F D : FT) (M : MTab) (l : Loc) : MT → HM → (Bool → HM → Prop) → Prop
  | .p e, H, Q => Pe F H l e fun v => trS v fun c => Q c H
  | .nt a, H, Q => WT F D M l a H fun c H' => Q (!c) H'
  | .an a b, H, Q => WT F D M l a H fun c H' => (c = true → WT F D M l b H' Q) ∧ (c = false → Q false H')
  | .or a b, H, Q => WT F D M l a H fun c H' => (c = true → Q true H') ∧ (c = false → WT F D M l b H' Q)
  | .mne o m e, H, Q => mcS M H l o m [] fun v H' => Pe F H' l e fun u => match v, u with
    | .bytes x, .bytes y => Q (decide (x ≠ y)) H'
    | _, _ => False
  | .mnn o m, H, Q => mcS M H l o m [] fun v H' => isNS v fun c => Q (!c) H'
  | .dc f a b c, H, Q => Pe F H l a fun va => Pe F H l b fun vb => Pe F H l c fun vc => callS D f [va, vb, vc] fun v => trS v fun t => Q t H

noncomputable def loopW (step : Loc → HM → (Bool → Loc → HM → Prop) → Prop) (body : Loc → HM → (Out → Loc → HM → Prop) → Prop) (fin : Loc → HM → Prop) (Q : Out → Loc → HM → Prop) : Nat → Loc → HM → Prop
  | 0, _, _ => False
  | n + 1, l, H => step l H fun c l H => (c = true → body l H fun o l' H' => match o with
      | .next => loopW step body fin Q n l' H'
      | .ret v => Q (.ret v) l' H') ∧ (c = false → fin l H)
noncomputable def eachW (i : Nat) (body : Loc → HM → (Out → Loc → HM → Prop) → Prop) (fin : Loc → HM → Prop) (Q : Out → Loc → HM → Prop) : List V → Loc → HM → Prop
  | [], l, H => fin l H
  | v :: vs, l, H => body (lset l i v) H fun o l' H' => match o with
      | .next => eachW i body fin Q vs l' H'
      | .ret v => Q (.ret v) l' H'

noncomputable def itemsS : V → (List V → Prop) → Prop
  | .bytes b, Q => Q (b.map fun c => .int c.toNat)
  | .lst vs, Q => Q vs
  | _, _ => False

noncomputable def augS (op : Op) (v u : V) (Q : V → Prop) : Prop := match op with
  | .add => II v u fun a b => Q (.int (a + b))
  | .bxor => II v u fun a b => (0 ≤ a ∧ 0 ≤ b) ∧ Q (.int ((a.toNat ^^^ b.toNat : Nat) : Int))
  | .shr => II v u fun a b => 0 ≤ b ∧ Q (.int (a / 2 ^ b.toNat))
  | _ => False

noncomputable def initFs (d : List UInt8) (b c : Int) (rl : Nat) : Fs := [(0, .bytes d), (1, .int b), (2, .int c), (3, .int 0), (4, .int 0), (5, .bool false), (6, .int 0), (7, .ref rl), (8, .bool false), (9, .int 0), (10, .int 0)]

noncomputable def W (F D : FT) (M : MTab) : MS → Loc → HM → (Out → Loc → HM → Prop) → Prop
  | .nop, l, H, Q => Q .next l H
  | .bad, _, _, _ => False
  | .asg i e r, l, H, Q => Pe F H l e fun v => W F D M r (lset l i v) H Q
  | .newl i r, l, H, Q => ∀ a, H a = none → W F D M r (lset l i (.ref a)) (up H a (.lst [])) Q
  | .newr i e n r, l, H, Q => Pe F H l e fun v => Pe F H l n fun vn => intS vn fun n => (0 ≤ n ∧ n ≤ 1000) ∧ ∀ a, H a = none → W F D M r (lset l i (.ref a)) (up H a (.lst (List.replicate n.toNat v))) Q
  | .nb0 i r, l, H, Q => ∀ a, H a = none → W F D M r (lset l i (.ref a)) (up H a (.barr [])) Q
  | .nb1 i e r, l, H, Q => Pe F H l e fun v => bysS v fun b => ∀ a, H a = none → W F D M r (lset l i (.ref a)) (up H a (.barr b)) Q
  | .newo i a b c r, l, H, Q => Pe F H l a fun va => Pe F H l b fun vb => Pe F H l c fun vc => bysS va fun d => intS vb fun bl => intS vc fun ch => (8 ≤ bl ∧ bl ≤ 65542 ∧ (ch = 1 ∨ ch = 2)) ∧
      ∀ a dx rl, H a = none → H dx = none → H rl = none → a ≠ dx → a ≠ rl → dx ≠ rl → W F D M r (lset l i (.ref a)) (up (up (up H rl (.lst [])) dx (.hid a)) a (.ob dx (initFs d bl ch rl))) Q
  | .seti x i e r, l, H, Q => match lget l x with
      | some (.ref a) => match H a with
        | some (.lst vs) => Pe F H l e fun v => Pe F H l i fun vi => intS vi fun i => (0 ≤ i ∧ i < vs.length) ∧ W F D M r l (up H a (.lst (vs.set i.toNat v))) Q
        | _ => False
      | _ => False
  | .app x e r, l, H, Q => match lget l x with
      | some (.ref a) => match H a with
        | some (.lst vs) => Pe F H l e fun v => vs.length < 1000000 ∧ W F D M r l (up H a (.lst (vs ++ [v]))) Q
        | _ => False
      | _ => False
  | .appf o f e r, l, H, Q => match lget l o with
      | some (.ref a) => match H a with
        | some (.ob _ fs) => match fget fs f with
          | some (.ref rl) => match H rl with
            | some (.lst vs) => Pe F H l e fun v => vs.length < 1000000 ∧ W F D M r l (up H rl (.lst (vs ++ [v]))) Q
            | _ => False
          | _ => False
        | _ => False
      | _ => False
  | .ext x e r, l, H, Q => match lget l x with
      | some (.ref a) => match H a with
        | some (.barr c) => Pe F H l e fun v => bysS v fun b => c.length + b.length ≤ 1000000 ∧ W F D M r l (up H a (.barr (c ++ b))) Q
        | _ => False
      | _ => False
  | .mc0 o m r, l, H, Q => mcS M H l o m [] fun v H' => v = .none ∧ W F D M r l H' Q
  | .mc2 o m a b r, l, H, Q => obS H l o ∧ Pe F H l a fun va => Pe F H l b fun vb => mcS M H l o m [va, vb] fun v H' => v = .none ∧ W F D M r l H' Q
  | .ma0 i o m r, l, H, Q => mcS M H l o m [] fun v H' => W F D M r (lset l i v) H' Q
  | .mu0 i j o m r, l, H, Q => mcS M H l o m [] fun v H' => match v with
      | .t2 a b => W F D M r (lset (lset l i a) j b) H' Q
      | _ => False
  | .un2 i j e r, l, H, Q => Pe F H l e fun v => match v with
      | .t2 a b => W F D M r (lset (lset l i a) j b) H Q
      | _ => False
  | .un4 i j p q e r, l, H, Q => Pe F H l e fun v => match v with
      | .t4 a b c d => W F D M r (lset (lset (lset (lset l i a) j b) p c) q d) H Q
      | _ => False
  | .seta o f e r, l, H, Q => Pe F H l e fun v => match lget l o with
      | some (.ref a) => match H a with
        | some (.ob dx fs) => fs.length ≤ 50 ∧ W F D M r l (up H a (.ob dx (fput fs f v))) Q
        | _ => False
      | _ => False
  | .auga o f op e r, l, H, Q => match lget l o with
      | some (.ref a) => match H a with
        | some (.ob dx fs) => match fget fs f with
          | some old => Pe F H l e fun v => augS op old v fun u => fs.length ≤ 50 ∧ W F D M r l (up H a (.ob dx (fput fs f u))) Q
          | _ => False
        | _ => False
      | _ => False
  | .aug i op e r, l, H, Q => locS l i fun old => Pe F H l e fun v => augS op old v fun u => W F D M r (lset l i u) H Q
  | .ite t a b r, l, H, Q => WT F D M l t H fun c H' => (c = true → W F D M a l H' fun o l' H' => match o with
        | .next => W F D M r l' H' Q
        | .ret v => Q (.ret v) l' H') ∧ (c = false → W F D M b l H' fun o l' H' => match o with
        | .next => W F D M r l' H' Q
        | .ret v => Q (.ret v) l' H')
  | .whl t b r, l, H, Q => ∃ n, loopW (fun l H k => WT F D M l t H fun c H' => k c l H') (W F D M b) (fun l H => W F D M r l H Q) Q n l H
  | .forB i e b r, l, H, Q => Pe F H l e fun v => itemsS v fun vs => eachW i (W F D M b) (fun l H => W F D M r l H Q) Q vs l H
  | .forN i n b r, l, H, Q => Pe F H l n fun v => intS v fun n => (0 ≤ n ∧ n ≤ 1000000) ∧ eachW i (W F D M b) (fun l H => W F D M r l H Q) Q ((List.range n.toNat).map fun (j : Nat) => .int j) l H
  | .forR i a b c d r, l, H, Q => Pe F H l a fun va => Pe F H l b fun vb => Pe F H l c fun vc => intS va fun x => intS vb fun y => intS vc fun st => (x = 0 ∧ 0 ≤ y ∧ y ≤ 1000000 ∧ 0 < st ∧ st ≤ 1000000) ∧
      eachW i (W F D M d) (fun l H => W F D M r l H Q) Q ((List.range ((y + st - 1) / st).toNat).map fun (j : Nat) => .int (j * st)) l H
  | .ret e, l, H, Q => Pe F H l e fun v => Q (.ret v) l H
  | .retl x, l, H, Q => match lget l x with
      | some (.ref a) => match H a with
        | some (.lst vs) => Q (.ret (.lst vs)) l (fun b => if b = a then none else H b)
        | _ => False
      | _ => False
  | .ret2 x e, l, H, Q => match lget l x with
      | some (.ref a) => match H a with
        | some (.lst vs) => Pe F H l e fun v => Q (.ret (.t2 (.lst vs) v)) l (fun b => if b = a then none else H b)
        | _ => False
      | _ => False
  | .retd f a b c e, l, H, Q => Pe F H l a fun va => Pe F H l b fun vb => Pe F H l c fun vc => callS D f [va, vb, vc] fun v => Pe F H l e fun u => eqtS v u ∧ Q (.ret (.bool true)) l H
  | .exc f a r, l, H, Q => Pe F H l a fun va => callS F f [va] fun v => v = .none ∧ W F D M r l H Q
  | .setl o f r, l, H, Q => match lget l o with
      | some (.ref a) => match H a with
        | some (.ob dx fs) => fs.length ≤ 50 ∧ ∀ b, H b = none → W F D M r l (up (up H b (.lst [])) a (.ob dx (fput fs f (.ref b)))) Q
        | _ => False
      | _ => False
  | .cfil i n x y r, l, H, Q => locS l x fun vx => lstS H vx fun xs => locS l y fun vy => intS vy fun lim => ∃ ks : List Int, xs = ks.map .int ∧ Pe F H l n fun vn => intS vn fun n => (0 ≤ n ∧ n.toNat ≤ ks.length) ∧
      W F D M r (lset l i (.lst (((List.range n.toNat).filter fun (j : Nat) => decide (ks.getD j 0 < lim)).map fun (j : Nat) => .int j))) H Q
end Mine
end

section
open PySem PySem.W
set_option Elab.async false
set_option autoImplicit false
set_option maxRecDepth 100000
namespace Mine
theorem pq1 {F : FT} {l H i Q} : Pe F H l (.int i) Q = (Q (.int i)) := rfl
theorem pq2 {F : FT} {l H b Q} : Pe F H l (.bool b) Q = (Q (.bool b)) := rfl
theorem pq3 {F : FT} {l H Q} : Pe F H l .none Q = (Q .none) := rfl
theorem pq4 {F : FT} {l H b Q} : Pe F H l (.bys b) Q = (Q (.bytes b)) := rfl
theorem pq5 {F : FT} {l H n Q} : Pe F H l (.str n) Q = (Q (.str n)) := rfl
theorem pq6 {F : FT} {l H i Q} : Pe F H l (.loc i) Q = (locS l i Q) := rfl
theorem pq7 {F : FT} {l H op a b Q} : Pe F H l (.bin op a b) Q = (Pe F H l a fun va => Pe F H l b fun vb => binS op va vb Q) := rfl
theorem pq8 {F : FT} {l H op a b Q} : Pe F H l (.cmp op a b) Q = (Pe F H l a fun va => Pe F H l b fun vb => cmpS op va vb fun c => Q (.bool c)) := rfl
theorem pq9 {F : FT} {l H a Q} : Pe F H l (.isN a) Q = (Pe F H l a fun va => isNS va fun c => Q (.bool c)) := rfl
theorem pq10 {F : FT} {l H a Q} : Pe F H l (.notN a) Q = (Pe F H l a fun va => isNS va fun c => Q (.bool (!c))) := rfl
theorem pq11 {F : FT} {l H a b Q} : Pe F H l (.and a b) Q = (Pe F H l a fun va => trS va fun c => (c = true → Pe F H l b Q) ∧ (c = false → Q va)) := rfl
theorem pq12 {F : FT} {l H a b Q} : Pe F H l (.or a b) Q = (Pe F H l a fun va => trS va fun c => (c = true → Q va) ∧ (c = false → Pe F H l b Q)) := rfl
theorem pq13 {F : FT} {l H c a b Q} : Pe F H l (.ite c a b) Q = (Pe F H l c fun vc => trS vc fun c => (c = true → Pe F H l a Q) ∧ (c = false → Pe F H l b Q)) := rfl
theorem pq14 {F : FT} {l H a i Q} : Pe F H l (.idx a i) Q = (Pe F H l a fun va => Pe F H l i fun vi => idxS H va vi Q) := rfl
theorem pq15 {F : FT} {l H a b Q} : Pe F H l (.sl0 a b) Q = (Pe F H l a fun va => Pe F H l b fun vb => bysS va fun x => intS vb fun j => 0 ≤ j ∧ Q (.bytes (x.take j.toNat))) := rfl
theorem pq16 {F : FT} {l H a b Q} : Pe F H l (.sl1 a b) Q = (Pe F H l a fun va => Pe F H l b fun vb => bysS va fun x => intS vb fun i => 0 ≤ i ∧ Q (.bytes (x.drop i.toNat))) := rfl
theorem pq17 {F : FT} {l H a b c Q} : Pe F H l (.sl2 a b c) Q = (Pe F H l a fun va => Pe F H l b fun vb => Pe F H l c fun vc => bysS va fun x => intS vb fun i => intS vc fun j => (0 ≤ i ∧ 0 ≤ j) ∧ Q (.bytes ((x.drop i.toNat).take (j.toNat - i.toNat)))) := rfl
theorem pq18 {F : FT} {l H a Q} : Pe F H l (.len a) Q = (Pe F H l a fun va => lenS H va Q) := rfl
theorem pq19 {F : FT} {l H a Q} : Pe F H l (.sum a) Q = (Pe F H l a fun va => bysS va fun x => Q (.int (x.map fun c => (c.toNat : Int)).sum)) := rfl
theorem pq20 {F : FT} {l H a b Q} : Pe F H l (.min a b) Q = (Pe F H l a fun va => Pe F H l b fun vb => intS va fun i => intS vb fun j => Q (.int (if j < i then j else i))) := rfl
theorem pq21 {F : FT} {l H a Q} : Pe F H l (.strI a) Q = (Pe F H l a fun va => intS va fun i => (0 ≤ i ∧ i < 1000) ∧ Q (.str 4)) := rfl
theorem pq22 {F : FT} {l H a Q} : Pe F H l (.bytB a) Q = (Pe F H l a fun va => bytS H va Q) := rfl
theorem pq23 {F : FT} {l H a Q} : Pe F H l (.by1 a) Q = (Pe F H l a fun va => intS va fun i => By i ∧ Q (.bytes [toB i])) := rfl
theorem pq24 {F : FT} {l H a b Q} : Pe F H l (.by2 a b) Q = (Pe F H l a fun va => Pe F H l b fun vb => intS va fun i => intS vb fun j => (By i ∧ By j) ∧ Q (.bytes [toB i, toB j])) := rfl
theorem pq25 {F : FT} {l H a b c d Q} : Pe F H l (.by4 a b c d) Q = (Pe F H l a fun va => Pe F H l b fun vb => Pe F H l c fun vc => Pe F H l d fun vd => intS va fun i => intS vb fun j => intS vc fun m => intS vd fun n =>
      (By i ∧ By j ∧ By m ∧ By n) ∧ Q (.bytes [toB i, toB j, toB m, toB n])) := rfl
theorem pq26 {F : FT} {l H a n Q} : Pe F H l (.byr a n) Q = (Pe F H l a fun va => Pe F H l n fun vn => intS va fun i => intS vn fun n => (By i ∧ 0 ≤ n ∧ n ≤ 1000) ∧ Q (.bytes (List.replicate n.toNat (toB i)))) := rfl
theorem pq27 {F : FT} {l H y n Q} : Pe F H l (.byc y n) Q = (locS l y fun vy => intS vy fun y => Pe F H l n fun vn => intS vn fun n => (0 ≤ n ∧ n ≤ 1000) ∧ Q (.bytes ((List.range n.toNat).map fun (j : Nat) => toB ((y + 3 * (j : Int)) % 256)))) := rfl
theorem pq28 {F : FT} {l H o f Q} : Pe F H l (.att o f) Q = (Pe F H l o fun vo => attS H f vo Q) := rfl
theorem pq29 {F : FT} {l H a b Q} : Pe F H l (.tu2 a b) Q = (Pe F H l a fun va => Pe F H l b fun vb => Q (.t2 va vb)) := rfl
theorem pq30 {F : FT} {l H a b c d Q} : Pe F H l (.tu4 a b c d) Q = (Pe F H l a fun va => Pe F H l b fun vb => Pe F H l c fun vc => Pe F H l d fun vd => Q (.t4 va vb vc vd)) := rfl
theorem pq31 {F : FT} {l H a Q} : Pe F H l (.ls1 a) Q = (Pe F H l a fun va => Q (.lst [va])) := rfl
theorem pq32 {F : FT} {l H a b c d Q} : Pe F H l (.ls4 a b c d) Q = (Pe F H l a fun va => Pe F H l b fun vb => Pe F H l c fun vc => Pe F H l d fun vd => Q (.lst [va, vb, vc, vd])) := rfl
theorem pq33 {F : FT} {l H f Q} : Pe F H l (.ca0 f) Q = (callS F f [] Q) := rfl
theorem pq34 {F : FT} {l H f a Q} : Pe F H l (.ca1 f a) Q = (Pe F H l a fun va => callS F f [va] Q) := rfl
theorem pq35 {F : FT} {l H f a b Q} : Pe F H l (.ca2 f a b) Q = (Pe F H l a fun va => Pe F H l b fun vb => callS F f [va, vb] Q) := rfl
theorem pq36 {F : FT} {l H f a b c Q} : Pe F H l (.ca3 f a b c) Q = (Pe F H l a fun va => Pe F H l b fun vb => Pe F H l c fun vc => callS F f [va, vb, vc] Q) := rfl
theorem pq37 {F : FT} {l H r w Q} : Pe F H l (.cmr r w) Q = (locS l r fun vr => locS l w fun vw => lstS H vr fun rs => lstS H vw fun ws => match pickAll rs ws with
    | some us => Q (.lst us)
    | none => False) := rfl
theorem wq1 {F D : FT} {M : MTab} {l H Q} : W F D M .nop l H Q = (Q .next l H) := rfl
theorem wq2 {F D : FT} {M : MTab} {l H Q} : W F D M .bad l H Q = (False) := rfl
theorem wq3 {F D : FT} {M : MTab} {i e r l H Q} : W F D M (.asg i e r) l H Q = (Pe F H l e fun v => W F D M r (lset l i v) H Q) := rfl
theorem wq4 {F D : FT} {M : MTab} {i r l H Q} : W F D M (.newl i r) l H Q = (∀ a, H a = none → W F D M r (lset l i (.ref a)) (up H a (.lst [])) Q) := rfl
theorem wq5 {F D : FT} {M : MTab} {i e n r l H Q} : W F D M (.newr i e n r) l H Q = (Pe F H l e fun v => Pe F H l n fun vn => intS vn fun n => (0 ≤ n ∧ n ≤ 1000) ∧ ∀ a, H a = none → W F D M r (lset l i (.ref a)) (up H a (.lst (List.replicate n.toNat v))) Q) := rfl
theorem wq6 {F D : FT} {M : MTab} {i r l H Q} : W F D M (.nb0 i r) l H Q = (∀ a, H a = none → W F D M r (lset l i (.ref a)) (up H a (.barr [])) Q) := rfl
theorem wq7 {F D : FT} {M : MTab} {i e r l H Q} : W F D M (.nb1 i e r) l H Q = (Pe F H l e fun v => bysS v fun b => ∀ a, H a = none → W F D M r (lset l i (.ref a)) (up H a (.barr b)) Q) := rfl
theorem wq8 {F D : FT} {M : MTab} {i a b c r l H Q} : W F D M (.newo i a b c r) l H Q = (Pe F H l a fun va => Pe F H l b fun vb => Pe F H l c fun vc => bysS va fun d => intS vb fun bl => intS vc fun ch => (8 ≤ bl ∧ bl ≤ 65542 ∧ (ch = 1 ∨ ch = 2)) ∧
      ∀ a dx rl, H a = none → H dx = none → H rl = none → a ≠ dx → a ≠ rl → dx ≠ rl → W F D M r (lset l i (.ref a)) (up (up (up H rl (.lst [])) dx (.hid a)) a (.ob dx (initFs d bl ch rl))) Q) := rfl
theorem wq9 {F D : FT} {M : MTab} {x i e r l H Q} : W F D M (.seti x i e r) l H Q = (match lget l x with
      | some (.ref a) => match H a with
        | some (.lst vs) => Pe F H l e fun v => Pe F H l i fun vi => intS vi fun i => (0 ≤ i ∧ i < vs.length) ∧ W F D M r l (up H a (.lst (vs.set i.toNat v))) Q
        | _ => False
      | _ => False) := rfl
theorem wq10 {F D : FT} {M : MTab} {x e r l H Q} : W F D M (.app x e r) l H Q = (match lget l x with
      | some (.ref a) => match H a with
        | some (.lst vs) => Pe F H l e fun v => vs.length < 1000000 ∧ W F D M r l (up H a (.lst (vs ++ [v]))) Q
        | _ => False
      | _ => False) := rfl
theorem wq11 {F D : FT} {M : MTab} {o f e r l H Q} : W F D M (.appf o f e r) l H Q = (match lget l o with
      | some (.ref a) => match H a with
        | some (.ob _ fs) => match fget fs f with
          | some (.ref rl) => match H rl with
            | some (.lst vs) => Pe F H l e fun v => vs.length < 1000000 ∧ W F D M r l (up H rl (.lst (vs ++ [v]))) Q
            | _ => False
          | _ => False
        | _ => False
      | _ => False) := rfl
theorem wq12 {F D : FT} {M : MTab} {x e r l H Q} : W F D M (.ext x e r) l H Q = (match lget l x with
      | some (.ref a) => match H a with
        | some (.barr c) => Pe F H l e fun v => bysS v fun b => c.length + b.length ≤ 1000000 ∧ W F D M r l (up H a (.barr (c ++ b))) Q
        | _ => False
      | _ => False) := rfl
theorem wq13 {F D : FT} {M : MTab} {o m r l H Q} : W F D M (.mc0 o m r) l H Q = (mcS M H l o m [] fun v H' => v = .none ∧ W F D M r l H' Q) := rfl
theorem wq14 {F D : FT} {M : MTab} {o m a b r l H Q} : W F D M (.mc2 o m a b r) l H Q = (obS H l o ∧ Pe F H l a fun va => Pe F H l b fun vb => mcS M H l o m [va, vb] fun v H' => v = .none ∧ W F D M r l H' Q) := rfl
theorem wq15 {F D : FT} {M : MTab} {i o m r l H Q} : W F D M (.ma0 i o m r) l H Q = (mcS M H l o m [] fun v H' => W F D M r (lset l i v) H' Q) := rfl
theorem wq16 {F D : FT} {M : MTab} {i j o m r l H Q} : W F D M (.mu0 i j o m r) l H Q = (mcS M H l o m [] fun v H' => match v with
      | .t2 a b => W F D M r (lset (lset l i a) j b) H' Q
      | _ => False) := rfl
theorem wq17 {F D : FT} {M : MTab} {i j e r l H Q} : W F D M (.un2 i j e r) l H Q = (Pe F H l e fun v => match v with
      | .t2 a b => W F D M r (lset (lset l i a) j b) H Q
      | _ => False) := rfl
theorem wq18 {F D : FT} {M : MTab} {i j p q e r l H Q} : W F D M (.un4 i j p q e r) l H Q = (Pe F H l e fun v => match v with
      | .t4 a b c d => W F D M r (lset (lset (lset (lset l i a) j b) p c) q d) H Q
      | _ => False) := rfl
theorem wq19 {F D : FT} {M : MTab} {o f e r l H Q} : W F D M (.seta o f e r) l H Q = (Pe F H l e fun v => match lget l o with
      | some (.ref a) => match H a with
        | some (.ob dx fs) => fs.length ≤ 50 ∧ W F D M r l (up H a (.ob dx (fput fs f v))) Q
        | _ => False
      | _ => False) := rfl
theorem wq20 {F D : FT} {M : MTab} {o f op e r l H Q} : W F D M (.auga o f op e r) l H Q = (match lget l o with
      | some (.ref a) => match H a with
        | some (.ob dx fs) => match fget fs f with
          | some old => Pe F H l e fun v => augS op old v fun u => fs.length ≤ 50 ∧ W F D M r l (up H a (.ob dx (fput fs f u))) Q
          | _ => False
        | _ => False
      | _ => False) := rfl
theorem wq21 {F D : FT} {M : MTab} {i op e r l H Q} : W F D M (.aug i op e r) l H Q = (locS l i fun old => Pe F H l e fun v => augS op old v fun u => W F D M r (lset l i u) H Q) := rfl
theorem wq22 {F D : FT} {M : MTab} {t a b r l H Q} : W F D M (.ite t a b r) l H Q = (WT F D M l t H fun c H' => (c = true → W F D M a l H' fun o l' H' => match o with
        | .next => W F D M r l' H' Q
        | .ret v => Q (.ret v) l' H') ∧ (c = false → W F D M b l H' fun o l' H' => match o with
        | .next => W F D M r l' H' Q
        | .ret v => Q (.ret v) l' H')) := rfl
theorem wq23 {F D : FT} {M : MTab} {t b r l H Q} : W F D M (.whl t b r) l H Q = (∃ n, loopW (fun l H k => WT F D M l t H fun c H' => k c l H') (W F D M b) (fun l H => W F D M r l H Q) Q n l H) := rfl
theorem wq24 {F D : FT} {M : MTab} {i e b r l H Q} : W F D M (.forB i e b r) l H Q = (Pe F H l e fun v => itemsS v fun vs => eachW i (W F D M b) (fun l H => W F D M r l H Q) Q vs l H) := rfl
theorem wq25 {F D : FT} {M : MTab} {i n b r l H Q} : W F D M (.forN i n b r) l H Q = (Pe F H l n fun v => intS v fun n => (0 ≤ n ∧ n ≤ 1000000) ∧ eachW i (W F D M b) (fun l H => W F D M r l H Q) Q ((List.range n.toNat).map fun (j : Nat) => .int j) l H) := rfl
theorem wq26 {F D : FT} {M : MTab} {i a b c d r l H Q} : W F D M (.forR i a b c d r) l H Q = (Pe F H l a fun va => Pe F H l b fun vb => Pe F H l c fun vc => intS va fun x => intS vb fun y => intS vc fun st => (x = 0 ∧ 0 ≤ y ∧ y ≤ 1000000 ∧ 0 < st ∧ st ≤ 1000000) ∧
      eachW i (W F D M d) (fun l H => W F D M r l H Q) Q ((List.range ((y + st - 1) / st).toNat).map fun (j : Nat) => .int (j * st)) l H) := rfl
theorem wq27 {F D : FT} {M : MTab} {e l H Q} : W F D M (.ret e) l H Q = (Pe F H l e fun v => Q (.ret v) l H) := rfl
theorem wq28 {F D : FT} {M : MTab} {x l H Q} : W F D M (.retl x) l H Q = (match lget l x with
      | some (.ref a) => match H a with
        | some (.lst vs) => Q (.ret (.lst vs)) l (fun b => if b = a then none else H b)
        | _ => False
      | _ => False) := rfl
theorem wq29 {F D : FT} {M : MTab} {x e l H Q} : W F D M (.ret2 x e) l H Q = (match lget l x with
      | some (.ref a) => match H a with
        | some (.lst vs) => Pe F H l e fun v => Q (.ret (.t2 (.lst vs) v)) l (fun b => if b = a then none else H b)
        | _ => False
      | _ => False) := rfl
theorem wq30 {F D : FT} {M : MTab} {f a b c e l H Q} : W F D M (.retd f a b c e) l H Q = (Pe F H l a fun va => Pe F H l b fun vb => Pe F H l c fun vc => callS D f [va, vb, vc] fun v => Pe F H l e fun u => eqtS v u ∧ Q (.ret (.bool true)) l H) := rfl
theorem wq31 {F D : FT} {M : MTab} {f a r l H Q} : W F D M (.exc f a r) l H Q = (Pe F H l a fun va => callS F f [va] fun v => v = .none ∧ W F D M r l H Q) := rfl
theorem wq32 {F D : FT} {M : MTab} {o f r l H Q} : W F D M (.setl o f r) l H Q = (match lget l o with
      | some (.ref a) => match H a with
        | some (.ob dx fs) => fs.length ≤ 50 ∧ ∀ b, H b = none → W F D M r l (up (up H b (.lst [])) a (.ob dx (fput fs f (.ref b)))) Q
        | _ => False
      | _ => False) := rfl
theorem wq33 {F D : FT} {M : MTab} {i n x y r l H Q} : W F D M (.cfil i n x y r) l H Q = (locS l x fun vx => lstS H vx fun xs => locS l y fun vy => intS vy fun lim => ∃ ks : List Int, xs = ks.map .int ∧ Pe F H l n fun vn => intS vn fun n => (0 ≤ n ∧ n.toNat ≤ ks.length) ∧
      W F D M r (lset l i (.lst (((List.range n.toNat).filter fun (j : Nat) => decide (ks.getD j 0 < lim)).map fun (j : Nat) => .int j))) H Q) := rfl
theorem tq1 {F D : FT} {M : MTab} {l e H Q} : WT F D M l (.p e) H Q = (Pe F H l e fun v => trS v fun c => Q c H) := rfl
theorem tq2 {F D : FT} {M : MTab} {l a H Q} : WT F D M l (.nt a) H Q = (WT F D M l a H fun c H' => Q (!c) H') := rfl
theorem tq3 {F D : FT} {M : MTab} {l a b H Q} : WT F D M l (.an a b) H Q = (WT F D M l a H fun c H' => (c = true → WT F D M l b H' Q) ∧ (c = false → Q false H')) := rfl
theorem tq4 {F D : FT} {M : MTab} {l a b H Q} : WT F D M l (.or a b) H Q = (WT F D M l a H fun c H' => (c = true → Q true H') ∧ (c = false → WT F D M l b H' Q)) := rfl
theorem tq5 {F D : FT} {M : MTab} {l o m e H Q} : WT F D M l (.mne o m e) H Q = (mcS M H l o m [] fun v H' => Pe F H' l e fun u => match v, u with
    | .bytes x, .bytes y => Q (decide (x ≠ y)) H'
    | _, _ => False) := rfl
theorem tq6 {F D : FT} {M : MTab} {l o m H Q} : WT F D M l (.mnn o m) H Q = (mcS M H l o m [] fun v H' => isNS v fun c => Q (!c) H') := rfl
theorem tq7 {F D : FT} {M : MTab} {l f a b c H Q} : WT F D M l (.dc f a b c) H Q = (Pe F H l a fun va => Pe F H l b fun vb => Pe F H l c fun vc => callS D f [va, vb, vc] fun v => trS v fun t => Q t H) := rfl
end Mine
end

section
set_option genInjectivity false
open PySem PySem.W PyProof.Rows PySem.Calls PySem.Builtin
set_option Elab.async false
set_option autoImplicit false
set_option maxRecDepth 100000
namespace Mine

structure IsMeth (K : Frag) (C : Addr) (mn : Str) (m : Addr) : Prop where
  fnd : findIn K (.ref C) mn = some (some (.ref m))
  fn : typeIn K (.ref m) = some (.type "function")
  nof : ∀ x ∈ fnm, x ≠ mn
  is : IsFn K m

noncomputable abbrev Same (ap q : Pos) : Prop := (ap.endLine == q.line) = true
noncomputable abbrev NoSwap (pv t : Expr) (q : Pos) : Prop := ∀ env, swapsWith pv (some t) q.line env = pure false
noncomputable abbrev Plain (pe : Expr) : Prop := ∀ env whole, isTrue pe env whole = (do let v ← whole; standAt pe.pos; holding [v] (truthy v))

structure CScope2 (csc : Scope) (i x y : Str) : Prop where
  kind : csc.kind = .function
  free : ∀ env cx cy, env.cells.lookup x = some cx → env.cells.lookup y = some cy → ∃ cl : List (Str × Addr), closureFor csc env = pure cl ∧ cl.lookup x = some cx ∧ cl.lookup y = some cy
  nocell : ∀ z ∈ csc.names, z.2 ≠ .cell
  loc : ∀ z ∈ csc.names, z.2 = .local → csc.names.lookup z.1 = some .local
  hi : csc.names.lookup i = some .local
  hx : csc.names.lookup x = some .free
  hy : csc.names.lookup y = some .free
  di : (i == ("__debug__" : Str)) = false
  dx : (x == ("__debug__" : Str)) = false
  dy : (y == ("__debug__" : Str)) = false
structure CScope0 (csc : Scope) (i : Str) : Prop where
  kind : csc.kind = .function
  free : ∀ env, closureFor csc env = pure []
  nocell : ∀ z ∈ csc.names, z.2 ≠ .cell
  loc : ∀ z ∈ csc.names, z.2 = .local → csc.names.lookup z.1 = some .local
  hi : csc.names.lookup i = some .local
  di : (i == ("__debug__" : Str)) = false
noncomputable abbrev Swaps (sc : Scope) (pv t : Expr) (q : Pos) : Prop := ∀ env : Env, env.scope = sc → swapsWith pv (some t) q.line env = pure true
end Mine
end

section
set_option genInjectivity false
open PySem PySem.W PyProof.Rows PySem.Calls PySem.Builtin
set_option Elab.async false
set_option autoImplicit false
set_option maxRecDepth 100000
namespace Mine

structure RDat (C : Addr) (bs : Heap) (z : FZ) (h : Heap) (a dx rl : Nat) (fs : Fs) (rs : List V) : Prop where
  ob : h.get? a = some (instObj C dx)
  dc : ∃ es n, h.get? dx = some (dictOf es n) ∧ es.length ≤ 100 ∧ ER z fs es
  rf : fget fs 7 = some (.ref rl)
  li : ∃ us n, h.get? rl = some (lisO (List.toArray us) n) ∧ VRs z rs us ∧ rs.length ≤ 1000000
  fr : ∀ x, x = a ∨ x = dx ∨ x = rl → (∀ o, z x ≠ some o) ∧ bs.get? x = none

structure MX (dx rl : Nat) (s : Shared) (z : FZ) (s' : Shared) (z' : FZ) : Prop where
  sh : ∃ h t, s' = { s with heap := h, toks := t }
  kp : ∀ b o, b ≠ dx → b ≠ rl → s.heap.get? b = some o → s'.heap.get? b = some o
  old : ∀ a o, z a = some o → z' a = some o
  new : ∀ a o, z' a = some o → s'.heap.get? a = some o ∧ (z a = some o ∨ s.heap.get? a = none)

noncomputable def MOk (prog : Program) (w : World) (C : Addr) (bs : Heap) (k : Nat) (M : MTab) : Prop :=
  ∀ m fs rs vs Kp, M m fs rs vs Kp → ∀ A s z a dx rl us, AOk k A → BsIn bs s → (∀ a o, z a = some o → s.heap.get? a = some o) → RDat C bs z s.heap a dx rl fs rs → VRs z vs us →
    ∀ (Q E : Value → Shared → Prop), (∀ v fs' rs' u s' z', Kp v fs' rs' → RDat C bs z' s'.heap a dx rl fs' rs' → MX dx rl s z s' z' → VR z' v u → Q u s') →
    wpD true (model prog w) A (call (.ref m) (.ref a :: us)) Q E s
noncomputable def DcOk (prog : Program) (w : World) (bs : Heap) (k : Nat) (D : FT) : Prop :=
  ∀ f vs P, D f vs P → ∀ A s z us, AOk k A → BsIn bs s → (∀ a o, z a = some o → s.heap.get? a = some o) → VRs z vs us →
    ∀ (Q E : Value → Shared → Prop), (∀ v u s' z', P v → PX s z s' z' → VR z' v u → Q u s') → wpD true (model prog w) A (call (.ref f) us) Q E s

section
variable {prog : Program} {w : World} {K : Frag} {mg mb : Str → Option Value} {C : Addr} {bs : Heap} {sc : Scope} {nm : List Str} {env : Env} {F D : FT} {M : MTab} {k : Nat} {A : Around} {s s₀ : Shared} {z z₀ : FZ} {l : Loc} {H : HM} {dm : Bool}
variable {Q : Value → Shared → Prop} {E : Value → Shared → Prop}

/-! calls among clean stacks -/
theorem callWith_D {N : Model} {P : Heap → Prop} {pos : Pos} {f : Value} {first : List Value} {args : List (Bool × Sem Value)} {keywords : List (Option Str × Sem Value)} (hplain : (args.any (·.1) || keywords.any (·.1.isNone)) = false)
    (hk : ∀ h, P h → ∃ k, (k = Keeper.frame ∨ k = Keeper.machine ∨ k = Keeper.boundFrame) ∧ Looks N h (keeperOf f) k)
    (h : wpAny N A (evalArgs f true args keywords) (fun a s₁ => P s₁.heap ∧ wpD dm N A (call f (first ++ a.pos) a.kw) Q E s₁) E s) : wpD dm N A (callWith pos f first args keywords) Q E s := by
  unfold callWith
  refine wpD_bind (wpD_holding (wpD_mono (wpD_of h) (fun a s₁ h₁ => wpD_bind (wpD_standAt ?_)) fun _ _ x => x))
  obtain ⟨k, hk', L⟩ := hk _ h₁.1
  rw [hplain]
  refine wpD_then (L.here ?_)
  have tail : ∀ {t : Sem Value}, wpD dm N A t Q E s₁ → wpD dm N A (t >>= fun r => holding [r] point >>= fun _ => pure r) Q E s₁ :=
    fun ht => wpD_bind (wpD_mono ht (fun r s₂ hr => wpD_bind (wpD_holding (wpD_point (wpD_pure hr)))) fun _ _ x => x)
  have marked (mk : Value) : wpD dm N A (callMarked mk f (first ++ a.pos) a.kw) Q E s₁ := by unfold callMarked; exact wpD_keep h₁.2
  rcases hk' with rfl | rfl | rfl <;> dsimp only <;> first | exact tail h₁.2 | (split <;> first | exact tail h₁.2 | exact tail (marked _))

theorem callD0 {q q' : Pos} {f : Value} {first : List Value} (hk : KpOk prog w bs f) (hb : BsIn bs s) (h : wpD dm (model prog w) A (call f (first ++ [])) Q E s) :
    wpD dm (model prog w) A (callWith q f first (backTo q' (starEach [] env)) (backToKw q' (keywordEach [] env))) Q E s :=
  callWith_D (P := fun h => ∀ b o, bs.get? b = some o → h.get? b = some o) rfl hk (evalArgs_nil3 ⟨hb, h⟩)
theorem callD1 {q q' : Pos} {f : Value} {first : List Value} {pa : Expr} (ha : StarOk pa) (hk : KpOk prog w bs f)
    (h : wpAny (model prog w) A (eval pa env) (fun u s₁ => BsIn bs s₁ ∧ wpD dm (model prog w) A (call f (first ++ [u])) Q E s₁) E s) :
    wpD dm (model prog w) A (callWith q f first (backTo q' (starEach [pa] env)) (backToKw q' (keywordEach [] env))) Q E s := by
  rw [ha]
  refine callWith_D (P := fun h => ∀ b o, bs.get? b = some o → h.get? b = some o) rfl hk (evalArgs_plain (x := eval pa env) (rest := []) ?_)
  exact spliced_cons (wpAny_mono h (fun u s₁ h₁ => spliced_nil h₁) fun _ _ e => e)
theorem callD2 {q q' : Pos} {f : Value} {first : List Value} {pa pb : Expr} (ha : StarOk pa) (hb : StarOk pb) (hk : KpOk prog w bs f)
    (h : wpAny (model prog w) A (eval pa env) (fun u s₁ => wpAny (model prog w) A (eval pb env) (fun u₂ s₂ => BsIn bs s₂ ∧ wpD dm (model prog w) A (call f (first ++ [u, u₂])) Q E s₂) E s₁) E s) :
    wpD dm (model prog w) A (callWith q f first (backTo q' (starEach [pa, pb] env)) (backToKw q' (keywordEach [] env))) Q E s := by
  rw [ha, hb]
  refine callWith_D (P := fun h => ∀ b o, bs.get? b = some o → h.get? b = some o) rfl hk (evalArgs_plain (x := eval pa env) (rest := [(false, eval pb env)]) ?_)
  exact spliced_cons (wpAny_mono h (fun u s₁ h₁ => spliced_cons (wpAny_mono h₁ (fun u s₁ h₁ => spliced_nil h₁) fun _ _ e => e)) fun _ _ e => e)
theorem callD3 {q q' : Pos} {f : Value} {first : List Value} {pa pb pc : Expr} (ha : StarOk pa) (hb : StarOk pb) (hc : StarOk pc) (hk : KpOk prog w bs f)
    (h : wpAny (model prog w) A (eval pa env) (fun u s₁ => wpAny (model prog w) A (eval pb env) (fun u₂ s₂ => wpAny (model prog w) A (eval pc env) (fun u₃ s₃ => BsIn bs s₃ ∧ wpD dm (model prog w) A (call f (first ++ [u, u₂, u₃])) Q E s₃) E s₂) E s₁) E s) :
    wpD dm (model prog w) A (callWith q f first (backTo q' (starEach [pa, pb, pc] env)) (backToKw q' (keywordEach [] env))) Q E s := by
  rw [ha, hb, hc]
  refine callWith_D (P := fun h => ∀ b o, bs.get? b = some o → h.get? b = some o) rfl hk (evalArgs_plain (x := eval pa env) (rest := [(false, eval pb env), (false, eval pc env)]) ?_)
  exact spliced_cons (wpAny_mono h (fun u s₁ h₁ => spliced_cons (wpAny_mono h₁ (fun u s₁ h₁ => spliced_cons (wpAny_mono h₁ (fun u s₁ h₁ => spliced_nil h₁) fun _ _ e => e)) fun _ _ e => e)) fun _ _ e => e)
theorem CallD_N {x : Str} {p q : Pos} {args : List Expr} (h : wpAny (model prog w) A (eval (.Name x p) env) (fun f s₁ => wpD dm (model prog w) A (callWith q f [] (backTo q (starEach args env)) (backToKw q (keywordEach [] env))) Q E s₁) E s) :
    wpD dm (model prog w) A (eval (.Call (.Name x p) args [] q) env) Q E s := by
  show wpD _ _ A (do callWith q (← eval (.Name x p) env) [] (backTo q (starEach args env)) (backToKw q (keywordEach [] env))) Q E s
  exact wpD_then h
/-- o.m(args), o a name -/
theorem CallD_M {x mn : Str} {p ap q : Pos} {args : List Expr} (hl : Same ap q) (hfew : methodCallForm (args.length + ([] : List Keyword).length) (backTo q (starEach args env)) (backToKw q (keywordEach [] env)) = true)
    (h : wpAny (model prog w) A (eval (.Name x p) env) (fun ov s₁ => wpAny (model prog w) A (getMethod ov mn (do return (← importBound (.Name x p) env).getD true)) (fun fx s₂ => wpD dm (model prog w) A (callWith q fx.1 fx.2 (backTo q (starEach args env)) (backToKw q (keywordEach [] env))) Q E s₂) E s₁) E s) :
    wpD dm (model prog w) A (eval (.Call (.Attribute (.Name x p) mn ap) args [] q) env) Q E s := by
  rw [arm_eval_Call]
  have hpos : methodCallPos true (.Name x p) env ap q = pure q := by unfold methodCallPos; simp [hl]
  show wpD _ _ A (eval (.Name x p) env >>= fun ov => standAt ap.atName >>= fun _ => methodCall (.Name x p) mn ap q env ov (args.length + ([] : List Keyword).length) (backTo q (starEach args env)) (backToKw q (keywordEach [] env))) Q E s
  refine wpD_then (wpAny_mono h (fun ov s₁ h₁ => wpD_bind (wpD_standAt ?_)) fun _ _ e => e)
  unfold methodCall
  rw [hfew]
  refine wpD_then (wpAny_holding (wpAny_mono h₁ (fun fx s₂ h₂ => ?_) fun _ _ e => e))
  show wpD _ _ A (methodCallPos true (.Name x p) env ap q >>= fun c => callWith c fx.1 fx.2 _ _) Q E s₂
  exact wpD_bind (wpD_eq hpos h₂)

/-! tests among clean stacks -/
theorem isTrueD_not {x pos whole} {Q : Bool → Shared → Prop} (h : wpD dm (model prog w) A (isTrue x env (eval x env)) (fun c s' => Q (!c) s') E s) : wpD dm (model prog w) A (isTrue (.UnaryOp .Not x pos) env whole) Q E s := by
  show wpD dm _ A (do return !(← isTrue x env (eval x env))) Q E s
  exact wpD_bind (wpD_mono h (fun c s' h' => wpD_pure h') fun _ _ x => x)
theorem isTrueD_and {x rest pos whole} {Q : Bool → Shared → Prop}
    (h : wpD dm (model prog w) A (isTrue x env (eval x env)) (fun c s' => (c = true → wpD dm (model prog w) A (allTrue .And rest env) Q E s') ∧ (c = false → Q false s')) E s) :
    wpD dm (model prog w) A (isTrue (.BoolOp .And (x :: rest) pos) env whole) Q E s := by
  show wpD dm _ A (do
    match BoolOp.And, ← isTrue x env (eval x env) with
    | .And, false => pure false
    | .Or, true => pure true
    | _, _ => allTrue .And rest env) Q E s
  refine wpD_bind (wpD_mono h (fun c s' h' => ?_) fun _ _ x => x)
  cases c with
  | false => exact wpD_pure (h'.2 rfl)
  | true => exact h'.1 rfl
theorem isTrueD_or {x rest pos whole} {Q : Bool → Shared → Prop}
    (h : wpD dm (model prog w) A (isTrue x env (eval x env)) (fun c s' => (c = true → Q true s') ∧ (c = false → wpD dm (model prog w) A (allTrue .Or rest env) Q E s')) E s) :
    wpD dm (model prog w) A (isTrue (.BoolOp .Or (x :: rest) pos) env whole) Q E s := by
  show wpD dm _ A (do
    match BoolOp.Or, ← isTrue x env (eval x env) with
    | .And, false => pure false
    | .Or, true => pure true
    | _, _ => allTrue .Or rest env) Q E s
  refine wpD_bind (wpD_mono h (fun c s' h' => ?_) fun _ _ x => x)
  cases c with
  | false => exact h'.2 rfl
  | true => exact wpD_pure (h'.1 rfl)
theorem isTrueD_cmp {l op r pos whole} {Q : Bool → Shared → Prop}
    (h : wpD dm (model prog w) A (eval l env) (fun a s₁ => wpAny (model prog w) A (eval r env) (fun b s₂ => wpAny (model prog w) A (compareOp op a b)
      (fun c s₃ => wpAny (model prog w) A (truthy c) Q E s₃) E s₂) E s₁) E s) (hm : behindInMarks op r = false) : wpD dm (model prog w) A (isTrue (.Compare l [op] [r] pos) env whole) Q E s := by
  rw [isTrue_Compare1, markedBehindIn_of_false hm]
  exact wpD_bind (wpD_mono h (fun a s₁ h₁ => wpD_bind (wpD_holding (wpD_of (wpAny_mono h₁ (fun b s₂ h₂ => wpD_bind (wpD_standAt (wpD_bind (wpD_operate (wpD_of (wpAny_mono h₂ (fun c s₃ h₃ => wpD_of (wpAny_holding h₃)) fun _ _ x => x)))))) fun _ _ x => x)))) fun _ _ x => x)
theorem isTrueD_plain {e : Expr} {whole : Sem Value} {Q : Bool → Shared → Prop} (h : wpD dm (model prog w) A whole (fun v s₁ => wpAny (model prog w) A (truthy v) Q E s₁) E s)
    (he : isTrue e env whole = (do let v ← whole; standAt e.pos; holding [v] (truthy v))) : wpD dm (model prog w) A (isTrue e env whole) Q E s := by
  rw [he]
  exact wpD_bind (wpD_mono h (fun v s₁ h₁ => wpD_bind (wpD_standAt (wpD_of (wpAny_holding h₁)))) fun _ _ x => x)
end
end Mine
end

section
set_option genInjectivity false
open PySem PySem.W PyProof.Rows PySem.Calls PySem.Builtin
set_option Elab.async false
set_option autoImplicit false
set_option maxRecDepth 100000
namespace Mine

section
variable {prog : Program} {w : World} {K : Frag} {mg mb : Str → Option Value} {C : Addr} {bs : Heap} {sc : Scope} {nm : List Str} {env : Env} {F D : FT} {M : MTab} {k : Nat} {A : Around} {s s₀ : Shared} {z z₀ : FZ} {l : Loc} {H : HM} {dm : Bool}
variable {Q : Value → Shared → Prop} {E : Value → Shared → Prop}

theorem ER.noname {mn : Str} (hn : ∀ x ∈ fnm, x ≠ mn) {fs : Fs} {es : List DictEntry} (h : ER z fs es) : getL mn es = Option.some Option.none := by
  induction h with
  | nil => rfl
  | @cons _ y _ _ _ _ _ _ hy _ _ ih =>
    unfold getL at ih ⊢
    have hne : y ≠ mn := hn y (List.mem_of_getElem? hy)
    rw [List.find?_cons_of_neg (by rw [isStr_iff]; simp [hne]), List.any_cons]
    exact ih

theorem rdat_of {a dx rl : Nat} {fs : Fs} {rs : List V} (S : Sim C bs env nm z l H s.heap) (h1 : H a = some (.ob dx fs)) (h2 : fget fs 7 = some (.ref rl)) (h3 : H rl = some (.lst rs)) : RDat C bs z s.heap a dx rl fs rs := by
  obtain ⟨_, q1, q2, es, n, q3, q4, q5⟩ := S.trk _ _ h1
  obtain ⟨us, n', q6, q7, q8⟩ := (S.trk _ _ h3).2
  refine ⟨q1, ⟨es, n, q3, q4, q5⟩, h2, ⟨us, n', q6, q7, q8⟩, fun x hx => ?_⟩
  have : ∃ mo, H x = some mo := by rcases hx with rfl | rfl | rfl <;> exact ⟨_, by assumption⟩
  obtain ⟨mo, e⟩ := this
  constructor
  · intro o e'
    rw [(S.fz x o e').2.1] at e; cases e
  · cases q : bs.get? x with
    | none => rfl
    | some o => rw [(S.base x o q).2] at e; cases e

/-- after a method of the reader -/
theorem Sim.turn2 {a dx rl : Nat} {fs fs' : Fs} {rs rs' : List V} {s' : Shared} {z' : FZ} (S : Sim C bs env nm z l H s.heap) (h1 : H a = some (.ob dx fs)) (h3 : H rl = some (.lst rs)) (R : RDat C bs z' s'.heap a dx rl fs' rs') (X : MX dx rl s z s' z') :
    Sim C bs env nm z' l (up (up H a (.ob dx fs')) rl (.lst rs')) s'.heap := by
  have h2 : H dx = some (.hid a) := (S.trk _ _ h1).2.2.1
  have nar : rl ≠ a := fun q => by rw [q, h1] at h3; cases h3
  have ndr : dx ≠ rl := fun q => by rw [q, h3] at h2; cases h2
  have nda : dx ≠ a := fun q => by rw [q, h1] at h2; cases h2
  refine S.chg (T := fun b => b = a ∨ b = dx ∨ b = rl) (fun b t => ?_) (fun b t => by rw [up_ne fun q => t (.inr (.inr q)), up_ne fun q => t (.inl q)]) (fun b x t => X.kp b x (fun q => t (.inr (.inl q))) fun q => t (.inr (.inr q))) (fun b x t e => ?_) X.old fun b o e => (X.new b o e).2.imp id fun q => ⟨(X.new b o e).1, ?_, .inl q⟩
  · rcases t with rfl | rfl | rfl
    · exact ⟨S.out (.inr ⟨_, h1⟩), fun c e => by rw [h1] at e; cases e⟩
    · exact ⟨S.out (.inr ⟨_, h2⟩), fun c e => by rw [h2] at e; cases e; exact .inl rfl⟩
    · exact ⟨S.out (.inr ⟨_, h3⟩), fun c e => by rw [h3] at e; cases e⟩
  · rcases t with rfl | rfl | rfl
    · rw [up_ne (Ne.symm nar), up_self] at e; cases e
      exact ⟨R.ob, by rw [up_ne ndr, up_ne nda]; exact h2, R.dc⟩
    · rw [up_ne ndr, up_ne nda, h2] at e; cases e
      exact ⟨_, R.dc.choose_spec.choose_spec.1⟩
    · rw [up_self] at e; cases e
      exact R.li
  · have q' := S.none_of q
    exact (up_ne fun r => (by rw [r, h3] at q'; cases q')).trans ((up_ne fun r => (by rw [r, h1] at q'; cases q')).trans q')

theorem SX.of_mx {a dx rl : Nat} {fs fs' : Fs} {rs rs' : List V} {s' : Shared} {z' : FZ} (S : Sim C bs env nm z l H s.heap) (h1 : H a = some (.ob dx fs)) (h3 : H rl = some (.lst rs)) (R : RDat C bs z' s'.heap a dx rl fs' rs') (X : MX dx rl s z s' z') :
    SX env H s z (up (up H a (.ob dx fs')) rl (.lst rs')) s' z' where
  sh := X.sh
  kp b o e hb _ _ := X.kp b o (fun q => by rw [q, (S.trk _ _ h1).2.2.1] at hb; cases hb) (fun q => by rw [q, h3] at hb; cases hb) e
  ex b o e := by
    by_cases q : b = dx
    · obtain ⟨es, n, r1, _⟩ := R.dc; exact ⟨_, by rw [q]; exact r1⟩
    by_cases q' : b = rl
    · obtain ⟨us, n, r1, _⟩ := R.li; exact ⟨_, by rw [q']; exact r1⟩
    exact ⟨o, X.kp b o q q' e⟩
  trk b mo e := by
    by_cases q : b = rl
    · exact .inl ⟨_, by rw [q]; exact h3⟩
    rw [up_ne q] at e
    by_cases q' : b = a
    · exact .inl ⟨_, by rw [q']; exact h1⟩
    rw [up_ne q'] at e
    exact .inl ⟨_, e⟩
  old := X.old
  new a o e := by
    rcases (X.new a o e).2 with q | q
    · exact .inl q
    · exact .inr (.inl q)

theorem mcS_inv {o m : Nat} {vs : List V} {P : V → HM → Prop} (h : mcS M H l o m vs P) : ∃ a dx fs rl rs, lget l o = some (.ref a) ∧ H a = some (.ob dx fs) ∧ fget fs 7 = some (.ref rl) ∧ H rl = some (.lst rs) ∧
    M m fs rs vs fun v fs' rs' => P v (up (up H a (.ob dx fs')) rl (.lst rs')) := by
  obtain ⟨a, e1, h⟩ := ref_inv h
  obtain ⟨dx, fs, e2, h⟩ := obH_inv h
  obtain ⟨rl, e3, h⟩ := ref_inv h
  obtain ⟨rs, e4, h⟩ := lstH_inv h
  exact ⟨a, dx, fs, rl, rs, e1, e2, e3, e4, h⟩

/-- the name of a tracked object -/
theorem Name_obj {o a : Nat} {x : Str} {p : Pos} {Q : Value → Shared → Prop} (X : Cx prog w K mg mb C bs sc nm env F k A) (S : Sim C bs env nm z l H s.heap) (hx : nm[o]? = some x) (h : lget l o = some (.ref a)) (kk : ∀ s', Keeps s s' → Sim C bs env nm z l H s'.heap → Q (.ref a) s') :
    wpAny (model prog w) A (eval (.Name x p) env) Q E s := by
  refine Name_loc (P := fun v => v = .ref a) X S hx (by unfold locS; rw [h]) _ _ fun v u s' z' hv px hr => ?_
  subst hv
  cases hr
  exact kk s' px.1 (S.step (Keeps.keep px.1) (.refl fun b o e => Keeps.keep px.1 _ _ (S.zk b o e)))

theorem meth_get {o a dx : Nat} {fs : Fs} {m : Addr} {mn : Str} {pl : Sem Bool} {Q : Value × List Value → Shared → Prop} (X : Cx prog w K mg mb C bs sc nm env F k A) (S : Sim C bs env nm z l H s.heap) (hm : IsMeth K C mn m) (h : H a = some (.ob dx fs))
    (kk : Q (.ref m, [.ref a]) s) : wpAny (model prog w) A (getMethod (.ref a) mn pl) Q E s := by
  obtain ⟨_, q1, q2, es, n, q3, q4, q5⟩ := S.trk _ _ h
  exact method_fn (getItem_in X S) (instAt q1 q3) (plainGet_of X.ck.pg).1 (plainGet_of X.ck.pg).2 hm.fnd hm.fn (by show (lookIn mn (dictOf es n)).map _ = _; rw [lookIn_dict, q5.noname hm.nof]; rfl) kk

/-- o.m() -/
theorem mc0_eval {o m : Nat} {x mn : Str} {p ap q : Pos} {P : V → HM → Prop} (X : Cx prog w K mg mb C bs sc nm env F k A) (mok : MOk prog w C bs k M) (S : Sim C bs env nm z l H s.heap) (hx : nm[o]? = some x) (hm : IsMeth K C mn m) (hl : Same ap q)
    (h : mcS M H l o m [] P) (kk : ∀ v u H' s' z', P v H' → SX env H s z H' s' z' → Sim C bs env nm z' l H' s'.heap → VR z' v u → Q u s') :
    wpD true (model prog w) A (eval (.Call (.Attribute (.Name x p) mn ap) [] [] q) env) Q E s := by
  obtain ⟨a, dx, fs, rl, rs, e1, e2, e3, e4, h⟩ := mcS_inv h
  refine CallD_M hl rfl (Name_obj X S hx e1 fun s₁ kp S₁ => meth_get (o := o) X S₁ hm e2 (callD0 (fn_kp X hm.is) S₁.bsIn ?_))
  refine mok _ _ _ _ _ h A s₁ z a dx rl [] X.aok S₁.bsIn S₁.zk (rdat_of S₁ e2 e3 e4) .nil Q E fun v fs' rs' u s' z' hp R mx hv => ?_
  exact kk v u _ s' z' hp ((SX.of_px (.grow kp S.zk)).trans S₁ (SX.of_mx S₁ e2 e4 R mx)) (S₁.turn2 e2 e4 R mx) hv
/-- o.m(a, b) -/
theorem mc2_eval {o m : Nat} {x mn : Str} {p ap q : Pos} {ea eb : ME} {pa pb : Expr} {P : V → HM → Prop} (X : Cx prog w K mg mb C bs sc nm env F k A) (mok : MOk prog w C bs k M) (S : Sim C bs env nm z l H s.heap) (hx : nm[o]? = some x) (hm : IsMeth K C mn m) (hl : Same ap q)
    (ia : IsE K sc nm ea pa) (ib : IsE K sc nm eb pb)
    (h : Pe F H l ea fun va => Pe F H l eb fun vb => mcS M H l o m [va, vb] P) (hobj : obS H l o)
    (kk : ∀ v u H' s' z', P v H' → SX env H s z H' s' z' → Sim C bs env nm z' l H' s'.heap → VR z' v u → Q u s') :
    wpD true (model prog w) A (eval (.Call (.Attribute (.Name x p) mn ap) [pa, pb] [] q) env) Q E s := by
  obtain ⟨a₀, dx₀, fs₀, e1₀, e2₀⟩ := hobj
  refine CallD_M hl (by rw [ia.star, ib.star]; rfl) (Name_obj X S hx e1₀ fun s₁ kp S₁ => meth_get (o := o) X S₁ hm e2₀ (callD2 ia.star ib.star (fn_kp X hm.is) ?_))
  have p₁ : PX s z s₁ z := .grow kp S.zk
  refine (ia.sound X S₁ h).on p₁ fun va ua s₂ z₂ h px hva => (ib.sound X (S.px px) h).go px fun vb ub s₃ z₃ h p px₃ hvb => ?_
  have S₃ := S.px px₃
  obtain ⟨a, dx, fs, rl, rs, e1, e2, e3, e4, h⟩ := mcS_inv h
  rw [e1₀] at e1; cases e1
  refine ⟨S₃.bsIn, mok _ _ _ _ _ h A s₃ z₃ a₀ dx rl [ua, ub] X.aok S₃.bsIn S₃.zk (rdat_of S₃ e2 e3 e4) (.cons (hva.mono p.old) (.cons hvb .nil)) Q E fun v fs' rs' u s' z' hp R mx hv => ?_⟩
  exact kk v u _ s' z' hp ((SX.of_px px₃).trans S₃ (SX.of_mx S₃ e2 e4 R mx)) (S₃.turn2 e2 e4 R mx) hv
end
end Mine
end

section
set_option genInjectivity false
open PySem PySem.W PyProof.Rows PySem.Calls PySem.Builtin
set_option Elab.async false
set_option autoImplicit false
set_option maxRecDepth 100000
namespace Mine

section
variable {prog : Program} {w : World} {K : Frag} {mg mb : Str → Option Value} {C : Addr} {bs : Heap} {sc : Scope} {nm : List Str} {env : Env} {F D : FT} {M : MTab} {k : Nat} {A : Around} {s s₀ : Shared} {z z₀ : FZ} {l : Loc} {H : HM} {dm : Bool}
variable {Q : Value → Shared → Prop} {E : Value → Shared → Prop}

theorem truthy_go {v : V} {u : Value} {P : Bool → Prop} {Q : Bool → Shared → Prop} (zk : ∀ a o, z a = some o → s.heap.get? a = some o) (hv : VR z v u) (h : trS v P) (kk : ∀ b s' z', P b → PX s z s' z' → Q b s') : wpAny (model prog w) A (truthy u) Q E s :=
  tr_sound zk hv h Q E kk

theorem T_fin {s s₁ : Shared} {z z₁ : FZ} {H : HM} {P : Bool → HM → Prop} {v : V} {u : Value} {Q : Bool → Shared → Prop} {E : Value → Shared → Prop} (S : Sim C bs env nm z l H s.heap) (px : PX s z s₁ z₁) (hv : VR z₁ v u) (h : trS v (fun c => P c H))
      (kk : ∀ c s' z' H', P c H' → SX env H s z H' s' z' → Sim C bs env nm z' l H' s'.heap → Q c s') : wpAny (model prog w) A (truthy u) Q E s₁ :=
  truthy_go px.zk hv h fun b s' z' p px' => kk b s' z' _ p (SX.of_px (px.trans px')) (S.px (px.trans px'))
end

/-- the little test stands for the test -/
structure IsT (K : Frag) (C : Addr) (sc : Scope) (nm : List Str) (dm : Bool) (t : MT) (pt : Expr) : Prop where
  go : ∀ {prog : Program} {w : World} {mg mb : Str → Option Value} {bs : Heap} {env : Env} {F D : FT} {M : MTab} {k : Nat} {A : Around} {l : Loc}, Cx prog w K mg mb C bs sc nm env F k A → MOk prog w C bs k M → DcOk prog w bs k D →
    ∀ {s : Shared} {z : FZ} {H : HM} {P : Bool → HM → Prop}, Sim C bs env nm z l H s.heap → WT F D M l t H P →
    ∀ (Q : Bool → Shared → Prop) (E : Value → Shared → Prop), (∀ c s' z' H', P c H' → SX env H s z H' s' z' → Sim C bs env nm z' l H' s'.heap → Q c s') →
      ∀ whole, whole = eval pt env → wpD dm (model prog w) A (isTrue pt env whole) Q E s
variable {K : Frag} {C : Addr} {sc : Scope} {nm : List Str} {dm : Bool}
protected theorem IsT.p {e pe} (ie : IsE K sc nm e pe) (pl : Plain pe) : IsT K C sc nm dm (.p e) pe := ⟨fun {prog w mg mb bs env F D M k A l} X mok dok => by
  intro s z H P S h Q E kk whole hw
  subst hw
  exact isTrueD_plain (wpD_of ((ie.sound X S h).on (.self S.zk) fun v u s₁ z₁ h px hv => T_fin S px hv h kk)) (pl _ _)⟩
protected theorem IsT.cmp {op op' a b pa pb p} (ho : op.to = op') (ia : IsE K sc nm a pa) (ib : IsE K sc nm b pb) : IsT K C sc nm dm (.p (.cmp op a b)) (.Compare pa [op'] [pb] p) := ⟨fun {prog w mg mb bs env F D M k A l} X mok dok => by
  intro s z H P S h Q E kk whole hw
  subst ho
  refine isTrueD_cmp (wpD_of ((ia.sound X S h).on (.self S.zk) fun va ua s₁ z₁ h px hva => (ib.sound X (S.px px) h).go px fun vb ub s₂ z₂ h p px₂ hvb =>
    (cmp_sound px₂.zk (hva.mono p.old) hvb h).on px₂ fun v u s' z' hh px' hv => ?_)) (ib.mark _)
  obtain ⟨c, rfl, hp⟩ := hh
  exact T_fin S px' hv hp kk⟩
protected theorem IsT.isN {a pa k p q} (ia : IsE K sc nm a pa) : IsT K C sc nm dm (.p (.isN a)) (.Compare pa [.Is] [.Constant .none k p] q) := ⟨fun {prog w mg mb bs env F D M k A l} X mok dok => by
  intro s z H P S h Q E kk whole hw
  refine isTrueD_cmp (wpD_of ((ia.sound X S h).on (.self S.zk) fun va ua s₁ z₁ h px hva => Constant_none ((isN_sound px.zk hva h).on px fun v u s' z' hh px' hv => ?_))) rfl
  obtain ⟨c, rfl, hp⟩ := hh
  exact T_fin S px' hv hp kk⟩
protected theorem IsT.notN {a pa k p q} (ia : IsE K sc nm a pa) : IsT K C sc nm dm (.p (.notN a)) (.Compare pa [.IsNot] [.Constant .none k p] q) := ⟨fun {prog w mg mb bs env F D M k A l} X mok dok => by
  intro s z H P S h Q E kk whole hw
  refine isTrueD_cmp (wpD_of ((ia.sound X S h).on (.self S.zk) fun va ua s₁ z₁ h px hva => Constant_none ((notN_sound (P := fun c => P c H) px.zk hva h).on px fun v u s' z' hh px' hv => ?_))) rfl
  obtain ⟨c, rfl, hp⟩ := hh
  exact T_fin S px' hv hp kk⟩
protected theorem IsT.nt {a pa p} (ia : IsT K C sc nm dm a pa) : IsT K C sc nm dm (.nt a) (.UnaryOp .Not pa p) := ⟨fun {prog w mg mb bs env F D M k A l} X mok dok => by
  intro s z H P S h Q E kk whole hw
  exact isTrueD_not (ia.go X mok dok S h _ _ (fun c s' z' H' p x S' => kk _ s' z' H' p x S') _ rfl)⟩
protected theorem IsT.an1 {a pa p} (ia : IsT K C sc nm dm a pa) : IsT K C sc nm dm a (.BoolOp .And [pa] p) := ⟨fun {prog w mg mb bs env F D M k A l} X mok dok => by
  intro s z H P S h Q E kk whole hw
  refine isTrueD_and (ia.go X mok dok S h _ _ (fun c s' z' H' p x S' => ⟨fun hc => ?_, fun hc => ?_⟩) _ rfl)
  · subst hc; exact wpD_pure (kk _ _ _ _ p x S')
  · subst hc; exact kk _ _ _ _ p x S'⟩
protected theorem IsT.an {a b pa pb pr p} (ia : IsT K C sc nm dm a pa) (ib : IsT K C sc nm dm b (.BoolOp .And (pb :: pr) p)) : IsT K C sc nm dm (.an a b) (.BoolOp .And (pa :: pb :: pr) p) := ⟨fun {prog w mg mb bs env F D M k A l} X mok dok => by
  intro s z H P S h Q E kk whole hw
  refine isTrueD_and (ia.go X mok dok S h _ _ (fun c s' z' H' p x S' => ⟨fun hc => ?_, fun hc => kk _ _ _ _ (p.2 hc) x S'⟩) _ rfl)
  exact ib.go X mok dok S' (p.1 hc) _ _ (fun c s₂ z₂ H₂ p₂ x₂ S₂ => kk _ _ _ _ p₂ (x.trans S' x₂) S₂) _ rfl⟩
protected theorem IsT.or1 {a pa p} (ia : IsT K C sc nm dm a pa) : IsT K C sc nm dm a (.BoolOp .Or [pa] p) := ⟨fun {prog w mg mb bs env F D M k A l} X mok dok => by
  intro s z H P S h Q E kk whole hw
  refine isTrueD_or (ia.go X mok dok S h _ _ (fun c s' z' H' p x S' => ⟨fun hc => ?_, fun hc => ?_⟩) _ rfl)
  · subst hc; exact kk _ _ _ _ p x S'
  · subst hc; exact wpD_pure (kk _ _ _ _ p x S')⟩
protected theorem IsT.or {a b pa pb pr p} (ia : IsT K C sc nm dm a pa) (ib : IsT K C sc nm dm b (.BoolOp .Or (pb :: pr) p)) : IsT K C sc nm dm (.or a b) (.BoolOp .Or (pa :: pb :: pr) p) := ⟨fun {prog w mg mb bs env F D M k A l} X mok dok => by
  intro s z H P S h Q E kk whole hw
  refine isTrueD_or (ia.go X mok dok S h _ _ (fun c s' z' H' p x S' => ⟨fun hc => kk _ _ _ _ (p.1 hc) x S', fun hc => ?_⟩) _ rfl)
  exact ib.go X mok dok S' (p.2 hc) _ _ (fun c s₂ z₂ H₂ p₂ x₂ S₂ => kk _ _ _ _ p₂ (x.trans S' x₂) S₂) _ rfl⟩
protected theorem IsT.mne {o x px ap m mn e pe p q} (hd : dm = true) (hx : nm[o]? = some x) (hm : IsMeth K C mn m) (ie : IsE K sc nm e pe) (hl : Same ap q) : IsT K C sc nm dm (.mne o m e) (.Compare (.Call (.Attribute (.Name x px) mn ap) [] [] q) [.NotEq] [pe] p) := ⟨fun {prog w mg mb bs env F D M k A l} X mok dok => by
  intro s z H P S h Q E kk whole hw
  subst hd
  refine isTrueD_cmp (mc0_eval X mok S hx hm hl h fun v u H' s₁ z₁ h x₁ S₁ hv => (ie.sound X S₁ h).on (.self S₁.zk) fun v2 u2 s₂ z₂ h px hv2 => ?_) (ie.mark _)
  obtain ⟨a, b, rfl, rfl, h⟩ := bb_inv h
  · obtain ⟨t1, rfl, _⟩ := hv.bytes_i
    obtain ⟨t2, rfl, _⟩ := hv2.bytes_i
    refine ne_bytes (truthy_go px.zk (.bool _) (P := fun c => c = decide (a ≠ b)) ?_ fun c s' z' hc px' => ?_)
    · show _ = _
      rw [Bool.eq_iff_iff]; simp
    · subst hc
      exact kk _ _ _ _ h (x₁.trans S₁ (SX.of_px (px.trans px'))) (S₁.px (px.trans px'))⟩
protected theorem IsT.mnn {o x px ap m mn k r p q} (hd : dm = true) (hx : nm[o]? = some x) (hm : IsMeth K C mn m) (hl : Same ap q) : IsT K C sc nm dm (.mnn o m) (.Compare (.Call (.Attribute (.Name x px) mn ap) [] [] q) [.IsNot] [.Constant .none k r] p) := ⟨fun {prog w mg mb bs env F D M k A l} X mok dok => by
  intro s z H P S h Q E kk whole hw
  subst hd
  refine isTrueD_cmp (mc0_eval X mok S hx hm hl h fun v u H' s₁ z₁ h x₁ S₁ hv => Constant_none ((notN_sound (P := fun c => P c H') S₁.zk hv h).on (.self S₁.zk) fun v' u' s' z' hh px' hv' => ?_)) rfl
  obtain ⟨c, rfl, hp⟩ := hh
  exact T_fin S₁ px' hv' hp fun c s₂ z₂ H₂ p₂ x₂ S₂ => kk _ _ _ _ p₂ (x₁.trans S₁ x₂) S₂⟩
protected theorem IsT.dc {f x a b c pa pb pc p q} (hd : dm = true) (g : IsG K sc x (.ref f)) (hf : IsFn K f) (ia : IsE K sc nm a pa) (ib : IsE K sc nm b pb) (ic : IsE K sc nm c pc) : IsT K C sc nm dm (.dc f a b c) (.Call (.Name x p) [pa, pb, pc] [] q) := ⟨fun {prog w mg mb bs env F D M k A l} X mok dok => by
  intro s z H P S h Q E kk whole hw
  subst hd hw
  refine isTrueD_plain (CallD_N (Name_glob X S.bsIn g (callD3 (bs := bs) ia.star ib.star ic.star (fn_kp X hf) ((ia.sound X S h).on (.self S.zk) fun va ua s₁ z₁ h px hva => (ib.sound X (S.px px) h).go px fun vb ub s₂ z₂ h p px₂ hvb =>
    (ic.sound X (S.px px₂) h).go px₂ fun vc uc s₃ z₃ h p₃ px₃ hvc => ⟨(S.px px₃).bsIn, ?_⟩)))) rfl
  exact dok _ _ _ h A s₃ z₃ _ X.aok (S.px px₃).bsIn px₃.zk (.cons ((hva.mono p.old).mono p₃.old) (.cons (hvb.mono p₃.old) (.cons hvc .nil))) _ _ fun v u s' z' h px' hv => T_fin S (px₃.trans px') hv h kk⟩
end Mine
end

section
set_option genInjectivity false
open PySem PySem.W PyProof.Rows PySem.Calls PySem.Builtin
set_option Elab.async false
set_option autoImplicit false
set_option maxRecDepth 100000
namespace Mine

section
variable {prog : Program} {w : World} {K : Frag} {mg mb : Str → Option Value} {C : Addr} {bs : Heap} {sc : Scope} {nm : List Str} {env : Env} {F D : FT} {M : MTab} {k : Nat} {A : Around} {s s₀ : Shared} {z z₀ : FZ} {l : Loc} {H : HM} {dm : Bool}
variable {Q : Value → Shared → Prop} {E : Value → Shared → Prop}

theorem aug_sound {op : Op} {a b : V} {ua ub : Value} {P : V → Prop} (zk : ∀ a o, z a = some o → s.heap.get? a = some o) (ha : VR z a ua) (hb : VR z b ub) (h : augS op a b P) : Ge prog w A (inplaceOp op.to ua ub) P z s := by
  intro Q E k
  have T := fun n => PX.toks (s := s) n zk
  refine pvar fun G g => ?_
  cases op <;> (try exact h.elim)
  all_goals
    obtain ⟨a, b, t, t', rfl, rfl, h⟩ := II_go h ha hb
  · exact g <| iadd_int (k _ _ _ _ h (T _) (.int _ _))
  · obtain ⟨⟨h1, h2⟩, h3⟩ := h
    refine g <| ixor_int (k _ _ _ _ h3 (T _) ?_)
    rw [bxor_pp h1 h2]; exact .int _ _
  · obtain ⟨h1, h3⟩ := h
    refine g <| irshift_int h1 (k _ _ _ _ h3 (T _) ?_)
    rw [Int.fdiv_eq_ediv_of_nonneg _ (Int.le_of_lt (Int.pow_pos (by decide)))]; exact .int _ _

/-- lists that are changed -/
theorem lst_set {a : Addr} {items : Array Value} {n : Nat} {i : Int} {t : Tok} {v : Value} {Q : Unit → Shared → Prop} (h : s.heap.get? a = some (lisO items n)) (h0 : 0 ≤ i) (h1 : i < items.size) (hb : items.size ≤ 1000000)
    (k : ∀ h' n', (∀ c o, c ≠ a → s.heap.get? c = some o → h'.get? c = some o) → h'.get? a = some (lisO (items.setIfInBounds i.toNat v) n') → Q () { s with heap := h' }) : wpAny (model prog w) A (setItem (.ref a) (.int i t) v) Q E s := by
  refine ki_setAt (n := n) h h0 (by omega) h1 ?_
  exact k _ _ (fun c o hc e => (Heap.get?_update_other _ _ (Ne.symm hc)).trans e) (PySem.IsL.update h (·.setIfInBounds i.toNat v))
theorem lst_append {a : Addr} {items : Array Value} {n : Nat} {x : Value} {Q : Value → Shared → Prop} (h : s.heap.get? a = some (lisO items n)) (hb : items.size ≤ 1000000)
    (k : ∀ h' n', (∀ c o, c ≠ a → s.heap.get? c = some o → h'.get? c = some o) → h'.get? a = some (lisO (items.push x) n') → Q .none { s with heap := h' }) : wpAny (model prog w) A (call (.builtin "list.append") [.ref a, x]) Q E s := by
  have hl : s.heap.IsList a items := ⟨_, h, rfl, _, rfl⟩
  refine wpAny_call_entry slot_list_append hl.typeIs entry_list_append ?_ (args_list_append _ _)
  show wpAny _ _ (updateSeq a (·.push x) >>= fun _ => ret .none) _ _ s
  refine wpAny_bind ?_
  refine wpAny_updateSeq h rfl (wpAny_pure ⟨.none, rfl, ?_⟩) (by rw [sizeLine_eq]; omega)
  exact k _ _ (fun c o hc e => (Heap.get?_update_other _ _ (Ne.symm hc)).trans e) (PySem.IsL.update h (·.push x))

/-- a tracked thing is turned -/
theorem SX.of_turn {a : Nat} {mo mo' : MO} {h' : Heap} {t' : Nat} (ha : H a = some mo) (k : ∀ b x, b ≠ a → s.heap.get? b = some x → h'.get? b = some x) (hb : ∃ o, h'.get? a = some o) : SX env H s z (up H a mo') { s with heap := h', toks := t' } z where
  sh := ⟨_, _, rfl⟩
  kp b o e hb _ _ := k b o (fun q => by rw [q, ha] at hb; cases hb) e
  ex b o e := by
    by_cases q : b = a
    · rw [q]; exact hb
    · exact ⟨o, k b o q e⟩
  trk b m e := by
    by_cases q : b = a
    · rw [q]; exact .inl ⟨_, ha⟩
    · rw [up_ne q] at e; exact .inl ⟨_, e⟩
  old _ _ e := e
  new _ _ e := .inl e
theorem SX.of_turnOb {a dx : Nat} {fs fs' : Fs} {h' : Heap} {t' : Nat} (ha : H a = some (.ob dx fs)) (hd : H dx = some (.hid a)) (k : ∀ b x, b ≠ dx → s.heap.get? b = some x → h'.get? b = some x) (hb : ∃ o, h'.get? dx = some o) :
    SX env H s z (up H a (.ob dx fs')) { s with heap := h', toks := t' } z where
  sh := ⟨_, _, rfl⟩
  kp b o e hb _ _ := k b o (fun q => by rw [q, hd] at hb; cases hb) e
  ex b o e := by
    by_cases q : b = dx
    · rw [q]; exact hb
    · exact ⟨o, k b o q e⟩
  trk b m e := by
    by_cases q : b = a
    · rw [q]; exact .inl ⟨_, ha⟩
    · rw [up_ne q] at e; exact .inl ⟨_, e⟩
  old _ _ e := e
  new _ _ e := .inl e
theorem SX.of_new {a : Nat} {mo : MO} {h' : Heap} {t' : Nat} (ha : s.heap.get? a = none) (k : ∀ b x, s.heap.get? b = some x → h'.get? b = some x) : SX env H s z (up H a mo) { s with heap := h', toks := t' } z where
  sh := ⟨_, _, rfl⟩
  kp b o e _ _ _ := k b o e
  ex b o e := ⟨o, k b o e⟩
  trk b m e := by
    by_cases q : b = a
    · rw [q]; exact .inr ha
    · rw [up_ne q] at e; exact .inl ⟨_, e⟩
  old _ _ e := e
  new _ _ e := .inl e
/-- a finished list is frozen -/
noncomputable def less (H : HM) (a : Nat) : HM := fun b => if b = a then none else H b
theorem less_none {a b : Nat} (h : H b = none) : less H a b = none := by
  unfold less
  split
  · rfl
  · exact h
theorem freeze {a : Nat} {vs : List V} (S : Sim C bs env nm z l H s.heap) (ha : H a = some (.lst vs)) : ∃ z', Sim C bs env nm z' l (less H a) s.heap ∧ SX env H s z (less H a) s z' ∧ VR z' (.lst vs) (.ref a) := by
  obtain ⟨h1, us, n, h2, h3, h4⟩ := S.trk _ _ ha
  have hza : ∀ o, z a ≠ some o := (S.out (.inr ⟨_, ha⟩)).2.2.1
  have old : ∀ b o, z b = some o → (if b = a then some (lisO us.toArray n) else z b) = some o := fun b o e => by
    have hn : b ≠ a := fun q => hza o (q ▸ e)
    rw [if_neg hn]; exact e
  have la : less H a a = none := if_pos rfl
  refine ⟨fun b => if b = a then some (lisO us.toArray n) else z b, S.chg (T := (· = a)) (fun b t => ⟨S.out (.inr ⟨_, t ▸ ha⟩), fun c e => by rw [t, ha] at e; cases e⟩) (fun b t => if_neg t) (fun _ _ _ e => e) (fun b x t e => by rw [t, la] at e; cases e) old (fun b o e => ?_), ⟨⟨s.heap, s.toks, rfl⟩, fun b o e _ _ _ => e, fun b o e => ⟨o, e⟩, fun b mo e => ?_, old, fun b o e => ?_⟩, ?_⟩
  · by_cases hn : b = a
    · rw [if_pos hn] at e; cases e
      exact .inr ⟨hn ▸ h2, hn ▸ la, .inr hn⟩
    · rw [if_neg hn] at e; exact .inl e
  · unfold less at e
    split at e
    · cases e
    · exact .inl ⟨_, e⟩
  · skip
    by_cases hn : b = a
    · exact .inr (.inr ⟨_, hn ▸ ha⟩)
    · rw [if_neg hn] at e; exact .inl e
  · have : VR (fun b => if b = a then some (lisO us.toArray n) else z b) (.lst vs) (.ref a) := .lst h4 (if_pos rfl) (h3.mono old)
    exact this
end
end Mine
end

section
set_option genInjectivity false
open PySem PySem.W PyProof.Rows PySem.Calls PySem.Builtin
set_option Elab.async false
set_option autoImplicit false
set_option maxRecDepth 100000
namespace Mine

noncomputable def OutR (z : FZ) : Out → Flow → Prop
  | .next, .next => True
  | .ret v, .ret u => VR z v u
  | _, _ => False

section
variable {prog : Program} {w : World} {K : Frag} {mg mb : Str → Option Value} {C : Addr} {bs : Heap} {sc : Scope} {nm : List Str} {env : Env} {F D : FT} {M : MTab} {k : Nat} {A : Around} {s s₀ : Shared} {z z₀ : FZ} {l : Loc} {H : HM} {dm : Bool}
variable {E : Value → Shared → Prop}

theorem while_turn {test : Expr} {body : List Stmt} {R : Result → Shared → Prop}
    (h : wpD dm (model prog w) A (isTrue test env (eval test env)) (fun b s₂ => (b = true → wpD dm (model prog w) A (execs body env) (fun f s₃ => match f with
        | .next => codeD dm (model prog w) A (.whileLoop test body [] env) R s₃
        | .ret v => R (.ok (.ret v)) s₃
        | _ => False) (fun _ _ => False) s₂) ∧ (b = false → R (.ok .next) s₂)) (fun _ _ => False) s) :
    codeD dm (model prog w) A (.whileLoop test body [] env) R s := by
  refine codeD_of_tree (by cases dm <;> rfl) ?_
  show wpD dm _ A ((whileTurn test body [] env).onRaise (fun x => do noteFrame x env; theTreesLotGoes x)) _ _ s
  refine wpD_onRaise (wpD_mono (E := fun _ _ => False) ?_ (fun _ _ q => q) fun _ _ q => q.elim)
  unfold whileTurn
  refine wpD_bind (wpD_mono h (fun b s₂ h₂ => ?_) fun _ _ q => q)
  cases b with
  | false => exact wpD_bind (wpD_execs_nil (wpD_pure (h₂.2 rfl)))
  | true =>
    refine wpD_bind (wpD_mono (h₂.1 rfl) (fun f s₃ h₃ => ?_) fun _ _ q => q)
    cases f with
    | next => exact wpD_pure ⟨rfl, h₃⟩
    | ret v => exact wpD_pure h₃
    | _ => exact h₃.elim

theorem block_D {R : Result → Shared → Prop} (h : R (.ok .next) s) : codeD dm (model prog w) A (.block [] env) R s := by
  refine codeD_of_tree (by cases dm <;> rfl) ?_
  show wpD dm _ _ (do return Fin.done (← (execs [] env).onRaise (fun x => do noteFrame x env; theTreesLotGoes x))) _ _ s
  exact wpD_bind (wpD_onRaise (wpD_execs_nil (wpD_pure h)))

theorem for_turn {x : Str} {p : Pos} {it : Value} {body : List Stmt} {R : Result → Shared → Prop}
    (h : wpAny (model prog w) A (pyNext it) (fun r s₁ => match r with
      | none => R (.ok .next) s₁
      | some v => wpAny (model prog w) A (storeName env x v) (fun _ s₂ => wpD dm (model prog w) A (execs body env) (fun f s₃ => match f with
        | .next => codeD dm (model prog w) A (.forLoop (.Name x p) it body [] env) R s₃
        | .ret v => R (.ok (.ret v)) s₃
        | _ => False) (fun _ _ => False) s₂) (fun _ _ => False) s₁) (fun _ _ => False) s) :
    codeD dm (model prog w) A (.forLoop (.Name x p) it body [] env) R s := by
  refine codeD_of_tree (by cases dm <;> rfl) ?_
  show wpD dm _ A ((forTurn (.Name x p) it body [] env).onRaise (fun x => do noteFrame x env; theTreesLotGoes x)) _ _ s
  refine wpD_onRaise (wpD_mono (E := fun _ _ => False) ?_ (fun _ _ q => q) fun _ _ q => q.elim)
  unfold forTurn
  refine wpD_bind (wpD_standAt (wpD_bind (wpD_onRaise (wpD_mono (E := fun _ _ => False) (wpD_of h) (fun r s₁ h₁ => ?_) fun _ _ q => q.elim))))
  cases r with
  | none => exact wpD_pure ⟨rfl, block_D h₁⟩
  | some v =>
    refine wpD_bind (wpD_eq (a := ()) rfl (wpD_bind (wpD_of (wpAny_assign_Name (wpAny_mono h₁ (fun _ s₂ h₂ => wpD_bind (wpD_mono h₂ (fun f s₃ h₃ => ?_) fun _ _ q => q)) fun _ _ q => q)))))
    cases f with
    | next => exact wpD_pure ⟨rfl, h₃⟩
    | ret v => exact wpD_pure h₃
    | _ => exact h₃.elim

/-- changes at things that stand outside -/
theorem Sim.but {h h' : Heap} {wr : List Addr} (S : Sim C bs env nm z l H h) (k : ∀ b o, b ∉ wr → h.get? b = some o → h'.get? b = some o) (o : ∀ b ∈ wr, H b = none ∧ b ≠ env.locals ∧ (∀ x, env.cells.lookup x ≠ some b) ∧ (∀ o, z b ≠ some o) ∧ bs.get? b = none) :
    Sim C bs env nm z l H h' :=
  S.chg (T := (· ∈ wr)) (fun b t => ⟨(o b t).2, fun a e => by rw [(o b t).1] at e; cases e⟩) (fun _ _ => rfl) k (fun b x t e => by rw [(o b t).1] at e; cases e) (fun _ _ e => e) fun _ _ e => .inl e
theorem SX.but {H₁ : HM} {s₁ : Shared} {z₁ : FZ} {h' : Heap} {t' : Nat} {wr : List Addr} (x : SX env H s z H₁ s₁ z₁) (k : ∀ b o, b ∉ wr → s₁.heap.get? b = some o → h'.get? b = some o) (o : ∀ b ∈ wr, s.heap.get? b = none) :
    SX env H s z H₁ { s₁ with heap := h', toks := t' } z₁ where
  sh := by obtain ⟨h, t, rfl⟩ := x.sh; exact ⟨_, _, rfl⟩
  kp b v e e1 e2 e3 := k _ _ (fun q => by rw [o _ q] at e; cases e) (x.kp b v e e1 e2 e3)
  ex b v e := by obtain ⟨v', e'⟩ := x.ex b v e; exact ⟨v', k _ _ (fun q => by rw [o _ q] at e; cases e) e'⟩
  trk := x.trk
  old := x.old
  new := x.new

/-- a loop over the items of a walk -/
theorem for_sound {i : Nat} {x : Str} {p : Pos} {I : Addr} {fp wr : List Addr} {n : Nat} {Pi : Nat → Value → Prop} {St : Nat → Heap → Prop} {body : List Stmt} {bodyW : Loc → HM → (Out → Loc → HM → Prop) → Prop} {fin : Loc → HM → Prop} {P : Out → Loc → HM → Prop} {R : Result → Shared → Prop}
    (X : Cx prog w K mg mb C bs sc nm env F k A) (hx : nm[i]? = some x) (Wk : Walks prog w A I fp wr n Pi St) (hex : ∀ i h, St i h → ∀ b ∈ fp, ∃ o, h.get? b = some o)
    (hb : ∀ {s : Shared} {z : FZ} {l : Loc} {H : HM} {P : Out → Loc → HM → Prop}, Sim C bs env nm z l H s.heap → bodyW l H P → ∀ (Q : Flow → Shared → Prop) (E : Value → Shared → Prop), (∀ o f s' z' l' H', P o l' H' → SX env H s z H' s' z' → Sim C bs env nm z' l' H' s'.heap → OutR z' o f → Q f s') → wpD dm (model prog w) A (execs body env) Q E s)
    (hfin : ∀ s' z' l' H', fin l' H' → SX env H s₀ z₀ H' s' z' → Sim C bs env nm z' l' H' s'.heap → R (.ok .next) s')
    (hret : ∀ v u s' z' l' H', P (.ret v) l' H' → SX env H s₀ z₀ H' s' z' → Sim C bs env nm z' l' H' s'.heap → VR z' v u → R (.ok (.ret u)) s')
    (hw0 : ∀ b ∈ wr, s₀.heap.get? b = none) :
    ∀ (vs : List V) (j : Nat) {s : Shared} {z : FZ} {l : Loc} {H' : HM}, vs.length + j = n → Sim C bs env nm z l H' s.heap → SX env H s₀ z₀ H' s z → St j s.heap →
      (∀ b ∈ fp, H' b = none ∧ b ≠ env.locals ∧ ∀ x, env.cells.lookup x ≠ some b) → (∀ b ∈ wr, (∀ o, z b ≠ some o) ∧ bs.get? b = none) →
      (∀ (m : Nat) v u, vs[m]? = some v → Pi (j + m) u → ∀ z', (∀ a o, z a = some o → z' a = some o) → VR z' v u) → eachW i bodyW fin P vs l H' →
      codeD dm (model prog w) A (.forLoop (.Name x p) (.ref I) body [] env) R s := by
  intro vs
  induction vs with
  | nil =>
    intro j s z l H' hj S x0 st hf hwr hv h
    have hj : j = n := by simpa using hj
    subst hj
    refine for_turn (Wk.done s _ _ st fun h' tk hk => ?_)
    exact hfin _ z l H' h (x0.but hk hw0) (S.but hk fun b hb => ⟨(hf b (Wk.sub b hb)).1, (hf b (Wk.sub b hb)).2.1, (hf b (Wk.sub b hb)).2.2, hwr b hb⟩)
  | cons v vs ih =>
    intro j s z l H' hj S x0 st hf hwr hv h
    have hlt : j < n := by simp at hj; omega
    refine for_turn (Wk.item j s _ _ hlt st fun u h' tk hP st' hk => ?_)
    have S₁ : Sim C bs env nm z l H' h' := S.but hk fun b hb => ⟨(hf b (Wk.sub b hb)).1, (hf b (Wk.sub b hb)).2.1, (hf b (Wk.sub b hb)).2.2, hwr b hb⟩
    have x₁ : SX env H s₀ z₀ H' { s with heap := h', toks := tk } z := x0.but hk hw0
    have hvu : VR z v u := hv 0 v u rfl hP z fun _ _ e => e
    refine store_sound (s := { s with heap := h', toks := tk }) X S₁ hx hvu fun s₂ x₂ S₂ => ?_
    have x₂' := x₁.trans S₁ x₂
    refine hb S₂ h _ _ fun o f s₃ z₃ l₃ H₃ hp x₃ S₃ ho => ?_
    have x₃' := x₂'.trans S₂ x₃
    cases o with
    | ret v' =>
      cases f <;> (try exact ho.elim)
      exact hret _ _ _ _ _ _ hp x₃' S₃ ho
    | next =>
      cases f <;> (try exact ho.elim)
      have ex1 := hex _ _ st'
      have kept : ∀ b ∈ fp, ∀ o, h'.get? b = some o → s₃.heap.get? b = some o := fun b hb o e =>
        x₃.kp b o (x₂.kp b o e (hf b hb).1 (hf b hb).2.1 (hf b hb).2.2) (hf b hb).1 (hf b hb).2.1 (hf b hb).2.2
      have hnone : ∀ b ∈ fp, H₃ b = none := fun b hb => by
        cases q : H₃ b with
        | none => rfl
        | some mo =>
          obtain ⟨o, e⟩ := ex1 b hb
          rcases x₃.trk b mo q with ⟨mo', q'⟩ | q'
          · rw [(hf b hb).1] at q'; cases q'
          · rw [x₂.kp b o e (hf b hb).1 (hf b hb).2.1 (hf b hb).2.2] at q'; cases q'
      refine ih (j + 1) (by simp at hj ⊢; omega) S₃ x₃' (Wk.frame _ _ _ st' kept) (fun b hb => ⟨hnone b hb, (hf b hb).2⟩) (fun b hb => ⟨fun o e => ?_, (hwr b hb).2⟩) (fun m v' u' e hP' z' hz' => ?_) hp
      · have hbf := Wk.sub b hb
        obtain ⟨o', e'⟩ := ex1 b hbf
        rcases x₃.new b o e with q | q | ⟨mo, q⟩
        · exact (hwr b hb).1 _ q
        · rw [x₂.kp b o' e' (hf b hbf).1 (hf b hbf).2.1 (hf b hbf).2.2] at q; cases q
        · rw [(hf b hbf).1] at q; cases q
      · refine hv (m + 1) v' u' e (by rw [show j + (m + 1) = j + 1 + m from by omega]; exact hP') z' fun a o e' => hz' a o (x₃.old a o e')
end
end Mine
end

section
set_option genInjectivity false
open PySem PySem.W PyProof.Rows PySem.Calls PySem.Builtin
set_option Elab.async false
set_option autoImplicit false
set_option maxRecDepth 100000
namespace Mine

/-- a reader is made -/
noncomputable def NOk (prog : Program) (w : World) (C : Addr) (bs : Heap) (k : Nat) : Prop :=
  ∀ A s (z : FZ) (d : List UInt8) (bl ch : Int) ud ub uc, AOk k A → BsIn bs s → (∀ a o, z a = some o → s.heap.get? a = some o) → VR z (.bytes d) ud → VR z (.int bl) ub → VR z (.int ch) uc → 8 ≤ bl → bl ≤ 65542 → (ch = 1 ∨ ch = 2) →
    ∀ (Q E : Value → Shared → Prop), (∀ a dx rl s', s.heap.get? a = none → s.heap.get? dx = none → s.heap.get? rl = none → a ≠ dx → a ≠ rl → dx ≠ rl → Keeps s s' → s'.heap.get? a = some (instObj C dx) →
      (∃ es n, s'.heap.get? dx = some (dictOf es n) ∧ es.length ≤ 100 ∧ ER z (initFs d bl ch rl) es) → (∃ n, s'.heap.get? rl = some (lisO #[] n)) → Q (.ref a) s') →
    wpD true (model prog w) A (call (.ref C) [ud, ub, uc]) Q E s

section
variable {prog : Program} {w : World} {K : Frag} {mg mb : Str → Option Value} {C : Addr} {bs : Heap} {sc : Scope} {nm : List Str} {env : Env} {F D : FT} {M : MTab} {k : Nat} {A : Around} {s s₀ : Shared} {z z₀ : FZ} {l : Loc} {H : HM} {dm : Bool}
variable {E : Value → Shared → Prop}

theorem While_D {test : Expr} {body : List Stmt} {pos : Pos} {Q : Flow → Shared → Prop} (h : codeD dm (model prog w) A (.whileLoop test body [] env) (fun r s' => match r with | .ok f => Q f s' | .error _ => False) s) : wpD dm (model prog w) A (exec (.While test body [] pos) env) Q E s := by
  rw [exec_While]; exact wpD_bind (wpD_standAt (wpD_runOwn h))
theorem For_D {x : Str} {p : Pos} {iter : Expr} {body : List Stmt} {pos : Pos} {Q : Flow → Shared → Prop}
    (h : wpAny (model prog w) A (eval iter env) (fun xv s₁ => wpAny (model prog w) A (pyIter xv) (fun it s₂ => codeD dm (model prog w) A (.forLoop (.Name x p) it body [] env) (fun r s' => match r with | .ok f => Q f s' | .error _ => False) s₂) E s₁) E s)
    (hs : ∀ v, foldedSetIterable iter env v = pure v) : wpD dm (model prog w) A (exec (.For (.Name x p) iter body [] pos) env) Q E s := by
  rw [exec_For]
  refine wpD_bind (wpD_standAt (wpD_bind (wpD_of (wpAny_mono h (fun xv s₁ h₁ => wpD_bind (wpD_eq (hs xv) (wpD_bind (wpD_standAt (wpD_bind (wpD_of (wpAny_holding (wpAny_mono h₁ (fun it s₂ h₂ => wpD_runOwn h₂) fun _ _ e => e)))))))) fun _ _ e => e))))
theorem AssignTup_D {elts : List Expr} {k' : Nat} {tpos pos : Pos} {value : Expr} {Q : Flow → Shared → Prop}
    (h : wpD dm (model prog w) A (eval value env) (fun v s₁ => wpAny (model prog w) A (assign (.Tuple elts k' tpos) env v) (fun _ => Q .next) E s₁) E s)
    (hs : swapsWith value (some (.Tuple elts k' tpos)) pos.line env = pure false) (hw : swappedStores [.Tuple elts k' tpos] value env = pure none) : wpD dm (model prog w) A (exec (.Assign [.Tuple elts k' tpos] value pos) env) Q E s := by
  rw [exec_Assign]
  refine wpD_bind (wpD_standAt ?_)
  show wpD dm _ A (swapsWith value (some (.Tuple elts k' tpos)) pos.line env >>= _) _ _ _
  rw [hs]
  refine wpD_bind (wpD_pure ?_)
  rw [if_neg (by decide)]
  refine wpD_bind (wpD_mono h (fun v s₁ h₁ => ?_) fun _ _ x => x)
  rw [hw]
  refine wpD_bind (wpD_pure ?_)
  show wpD dm _ A (do assignAll v [assign (.Tuple elts k' tpos) env]; pure .next) Q E s₁
  exact wpD_of (wpAny_bind (wpAny_mono h₁ (fun _ _ x => wpAny_pure x) fun _ _ x => x))
theorem cmp_D {l' r : Expr} {op : CmpOp} {pos : Pos} {Q : Value → Shared → Prop}
    (h : wpD dm (model prog w) A (eval l' env) (fun a s₁ => wpAny (model prog w) A (eval r env) (fun b s₂ => wpAny (model prog w) A (compareOp op a b) Q E s₂) E s₁) E s) (hm : behindInMarks op r = false) : wpD dm (model prog w) A (eval (.Compare l' [op] [r] pos) env) Q E s := by
  rw [eval_Compare1, markedBehindIn_of_false hm]
  exact wpD_bind (wpD_mono h (fun a s₁ h₁ => wpD_bind (wpD_holding (wpD_of (wpAny_mono h₁ (fun b s₂ h₂ => wpD_bind (wpD_standAt (wpD_operate (wpD_of h₂)))) fun _ _ x => x)))) fun _ _ x => x)

theorem unp2 {i j : Nat} {x x' : Str} {t t' w' : Pos} {k' : Nat} {v1 v2 : V} {u1 u2 : Value} {a n : Nat} {Q : Unit → Shared → Prop} (X : Cx prog w K mg mb C bs sc nm env F k A) (S : Sim C bs env nm z l H s.heap) (e : z a = some (tupO #[u1, u2] n)) (h1 : VR z v1 u1) (h2 : VR z v2 u2)
    (hx : nm[i]? = some x) (hx' : nm[j]? = some x') (kk : ∀ s', SX env H s z H s' z → Sim C bs env nm z (lset (lset l i v1) j v2) H s'.heap → Q () s') : wpAny (model prog w) A (assign (.Tuple [.Name x t, .Name x' t'] k' w') env (.ref a)) Q E s := by
  refine assign_Tuple_tuple X.aok.hd (items := #[u1, u2]) ⟨_, S.zk _ _ e, rfl, _, rfl⟩ rfl rfl fun h' he => ?_
  have kp : Keeps s { s with heap := h' } := ⟨h', s.toks, rfl, fun b o e => he b o (Nat.ne_of_lt (Heap.lt_size e)) e⟩
  have S₁ : Sim C bs env nm z l H h' := S.px (.grow kp S.zk)
  refine assignInOrder_cons (wpAny_assign_Name (store_sound (s := { s with heap := h' }) X S₁ hx h1 fun s₂ x₂ S₂ => ?_))
  refine assignInOrder_cons (wpAny_assign_Name (store_sound X S₂ hx' h2 fun s₃ x₃ S₃ => ?_))
  exact wpAny_pure (kk s₃ (((SX.of_px (.grow kp S.zk)).trans S₁ x₂).trans S₂ x₃) S₃)
theorem unp4 {i j i2 j2 : Nat} {x x' x2 x3 : Str} {t t' t2 t3 w' : Pos} {k' : Nat} {v1 v2 v3 v4 : V} {u1 u2 u3 u4 : Value} {a n : Nat} {Q : Unit → Shared → Prop} (X : Cx prog w K mg mb C bs sc nm env F k A) (S : Sim C bs env nm z l H s.heap) (e : z a = some (tupO #[u1, u2, u3, u4] n))
    (h1 : VR z v1 u1) (h2 : VR z v2 u2) (h3 : VR z v3 u3) (h4 : VR z v4 u4) (hx : nm[i]? = some x) (hx' : nm[j]? = some x') (hx2 : nm[i2]? = some x2) (hx3 : nm[j2]? = some x3)
    (kk : ∀ s', SX env H s z H s' z → Sim C bs env nm z (lset (lset (lset (lset l i v1) j v2) i2 v3) j2 v4) H s'.heap → Q () s') : wpAny (model prog w) A (assign (.Tuple [.Name x t, .Name x' t', .Name x2 t2, .Name x3 t3] k' w') env (.ref a)) Q E s := by
  refine assign_Tuple_tuple X.aok.hd (items := #[u1, u2, u3, u4]) ⟨_, S.zk _ _ e, rfl, _, rfl⟩ rfl rfl fun h' he => ?_
  have kp : Keeps s { s with heap := h' } := ⟨h', s.toks, rfl, fun b o e => he b o (Nat.ne_of_lt (Heap.lt_size e)) e⟩
  have S₁ : Sim C bs env nm z l H h' := S.px (.grow kp S.zk)
  refine assignInOrder_cons (wpAny_assign_Name (store_sound (s := { s with heap := h' }) X S₁ hx h1 fun s₂ x₂ S₂ => ?_))
  refine assignInOrder_cons (wpAny_assign_Name (store_sound X S₂ hx' h2 fun s₃ x₃ S₃ => ?_))
  refine assignInOrder_cons (wpAny_assign_Name (store_sound X S₃ hx2 h3 fun s₄ x₄ S₄ => ?_))
  refine assignInOrder_cons (wpAny_assign_Name (store_sound X S₄ hx3 h4 fun s₅ x₅ S₅ => ?_))
  exact wpAny_pure (kk s₅ (((((SX.of_px (.grow kp S.zk)).trans S₁ x₂).trans S₂ x₃).trans S₃ x₄).trans S₄ x₅) S₅)

/-- range(0, y, st) and its iterator -/
theorem range3_go {y st : Int} {t t' t'' : Tok} {Q : Value → Shared → Prop} (h0 : 0 ≤ y) (h1 : y ≤ 1000000) (h2 : 0 < st) (h3 : st ≤ 1000000)
    (h : ∀ s' I, Keeps s s' → s.heap.get? I = none → I < s'.heap.objs.size → IsRangeIter s'.heap I (0 + ((0 : Nat) : Int) * st) ((((y + st - 1) / st).toNat : Int) - ((0 : Nat) : Int)) st → Q (.ref I) s') :
    wpAny (model prog w) A (call (.type "range") [.int 0 t, .int y t', .int st t'']) (fun xv s₁ => wpAny (model prog w) A (pyIter xv) Q E s₁) E s := by
  have hsz : Builtin.Range.rangeSize 0 y st = (((y + st - 1) / st).toNat : Int) := by
    unfold Builtin.Range.rangeSize
    rw [if_pos h2]
    have hnn : 0 ≤ (y + st - 1) / st := Int.ediv_nonneg (by omega) (by omega)
    rw [Int.toNat_of_nonneg hnn]
    split
    · have : (y + st - 1) = (y - 0 - 1) + 1 * st := by omega
      rw [this, Int.add_mul_ediv_right _ _ (by omega)]
    · have : y = 0 := by omega
      subst this
      rw [Int.ediv_eq_zero_of_lt (by omega) (by omega)]
  refine call_range_3 (by omega) ?_ (.inl (nopylong_small ⟨by omega, by omega⟩))
  refine wpAny_pyIter_range (IsRange.new ..) ?_ ?_
  · unfold Builtin.Range.small
    have hq : (y + st - 1) / st ≤ 2000000 := by
      have := Int.ediv_le_self (a := y + st - 1) st (by omega)
      omega
    have hnn : 0 ≤ (y + st - 1) / st := Int.ediv_nonneg (by omega) (by omega)
    rw [hsz]
    simp only [Builtin.Range.rangeFitsLong]
    rw [if_pos h2]
    simp only [Bool.and_eq_true, Bool.or_eq_true, decide_eq_true_eq]
    omega
  refine h _ _ ⟨_, _, rfl, fun b o e => Heap.get?_push_of_some _ (Heap.get?_push_of_some _ e)⟩ (fresh_none (by simp [Heap.size_push])) (Heap.lt_size (Heap.get?_push_size _ rfl)) ?_
  have e1 : (0 + ((0 : Nat) : Int) * st) = 0 := by simp
  have e2 : ((((y + st - 1) / st).toNat : Int) - ((0 : Nat) : Int)) = Builtin.Range.rangeSize 0 y st := by rw [hsz]; simp
  rw [e1, e2]
  exact Heap.get?_push_size _ rfl
end
end Mine
end

section
set_option genInjectivity false
open PySem PySem.W PyProof.Rows PySem.Calls PySem.Builtin
set_option Elab.async false
set_option autoImplicit false
set_option maxRecDepth 100000
namespace Mine

section
variable {prog : Program} {w : World} {K : Frag} {mg mb : Str → Option Value} {C : Addr} {bs : Heap} {sc : Scope} {nm : List Str} {env : Env} {F D : FT} {M : MTab} {k : Nat} {A : Around} {s s₀ : Shared} {z z₀ : FZ} {l : Loc} {H : HM} {dm : Bool}
variable {E : Value → Shared → Prop}

theorem inter (X : Cx prog w K mg mb C bs sc nm env F k A) : interactive env = false := by unfold interactive; rw [X.ok.kind]; rfl

theorem Sim.new3 {h h' : Heap} (S : Sim C bs env nm z l H h) {a dx rl : Nat} {fs : Fs} (ha : h.get? a = none) (hd : h.get? dx = none) (hr : h.get? rl = none) (n1 : a ≠ dx) (n2 : a ≠ rl) (n3 : dx ≠ rl) (k : ∀ b x, h.get? b = some x → h'.get? b = some x)
    (e1 : h'.get? a = some (instObj C dx)) (e2 : ∃ es n, h'.get? dx = some (dictOf es n) ∧ es.length ≤ 100 ∧ ER z fs es) (e3 : ∃ n, h'.get? rl = some (lisO #[] n)) : Sim C bs env nm z l (up (up (up H rl (.lst [])) dx (.hid a)) a (.ob dx fs)) h' := by
  refine S.chg (T := fun b => b = a ∨ b = dx ∨ b = rl) (fun b t => ?_) (fun b t => by rw [up_ne fun q => t (.inl q), up_ne fun q => t (.inr (.inl q)), up_ne fun q => t (.inr (.inr q))]) (fun b x _ => k b x) (fun b x t e => ?_) (fun _ _ e => e) fun _ _ e => .inl e
  · have e : h.get? b = none := by rcases t with rfl | rfl | rfl <;> assumption
    exact ⟨S.out (.inl e), fun c q => by rw [S.none_of e] at q; cases q⟩
  · have u : up (up (up H rl (.lst [])) dx (.hid a)) a (.ob dx fs) dx = some (.hid a) := (up_ne (Ne.symm n1)).trans up_self
    rcases t with rfl | rfl | rfl
    · rw [up_self] at e; cases e
      exact ⟨e1, u, e2⟩
    · rw [u] at e; cases e
      exact ⟨_, e2.choose_spec.choose_spec.1⟩
    · rw [up_ne (Ne.symm n2), up_ne (Ne.symm n3), up_self] at e; cases e
      exact ⟨[], e3.choose, e3.choose_spec, .nil, Nat.zero_le _⟩
theorem SX.of_new3 {s' : Shared} {a dx rl : Nat} {m₁ m₂ m₃ : MO} (ha : s.heap.get? a = none) (hd : s.heap.get? dx = none) (hr : s.heap.get? rl = none) (kp : Keeps s s') : SX env H s z (up (up (up H rl m₁) dx m₂) a m₃) s' z where
  sh := by obtain ⟨h', t', rfl, _⟩ := kp; exact ⟨_, _, rfl⟩
  kp b o e _ _ _ := Keeps.keep kp b o e
  ex b o e := ⟨o, Keeps.keep kp b o e⟩
  trk b m e := by
    by_cases q : b = a
    · exact .inr (q ▸ ha)
    rw [up_ne q] at e
    by_cases q : b = dx
    · exact .inr (q ▸ hd)
    rw [up_ne q] at e
    by_cases q : b = rl
    · exact .inr (q ▸ hr)
    rw [up_ne q] at e; exact .inl ⟨_, e⟩
  old _ _ e := e
  new _ _ e := .inl e
theorem new_list0 {Q : Value → Shared → Prop} {H : HM} (S : Sim C bs env nm z l H s.heap) (kk : ∀ a s', H a = none → SX env H s z (up H a (.lst [])) s' z → Sim C bs env nm z l (up H a (.lst [])) s'.heap → Q (.ref a) s') {u : Pos} :
    wpAny (model prog w) A (eval (.List [] u) env) Q E s := by
  refine List_ (spliced_nil (wpAny_newObj_type ?_))
  have fr : s.heap.get? s.heap.objs.size = none := fresh_none (Nat.le_refl _)
  have kp : ∀ b x, s.heap.get? b = some x → (s.heap.push (lisO ([] : List Value).toArray 0)).get? b = some x := fun b x e => Heap.get?_push_of_some _ e
  exact kk _ _ (S.none_of fr) (SX.of_new fr kp) (S.new fr (fun _ _ => by simp) kp ⟨[], 0, get_push _, .nil, by simp⟩)

theorem Expr_D {e : Expr} {pos : Pos} {Q : Flow → Shared → Prop} (X : Cx prog w K mg mb C bs sc nm env F k A) (h : wpD dm (model prog w) A (eval e env) (fun v s' => v = .none ∧ Q .next s') E s) (hs : swapsWith e none pos.line env = pure false) :
    wpD dm (model prog w) A (exec (.Expr e pos) env) Q E s := wpD_Expr h (inter X) hs

/-- one statement, then the rest -/
theorem rest_D {st : Stmt} {pr : List Stmt} {Q : Flow → Shared → Prop} (h : wpD dm (model prog w) A (exec st env) (fun f s' => f = .next ∧ wpD dm (model prog w) A (execs pr env) Q E s') E s) : wpD dm (model prog w) A (execs (st :: pr) env) Q E s :=
  wpD_execs_cons (wpD_mono h (fun f s' q => by obtain ⟨rfl, q⟩ := q; exact q) fun _ _ e => e)
theorem restA {st : Stmt} {pr : List Stmt} {Q : Flow → Shared → Prop} (h : wpAny (model prog w) A (exec st env) (fun f s' => f = .next ∧ wpD dm (model prog w) A (execs pr env) Q E s') E s) : wpD dm (model prog w) A (execs (st :: pr) env) Q E s :=
  rest_D (wpD_of h)

noncomputable abbrev Kont (C : Addr) (bs : Heap) (env : Env) (nm : List Str) (H : HM) (s : Shared) (z : FZ) (P : Out → Loc → HM → Prop) (Q : Flow → Shared → Prop) : Prop :=
  ∀ o f s' z' l' H', P o l' H' → SX env H s z H' s' z' → Sim C bs env nm z' l' H' s'.heap → OutR z' o f → Q f s'
theorem Kont.after {H₁ : HM} {s₁ : Shared} {z₁ : FZ} {l₁ : Loc} {P : Out → Loc → HM → Prop} {Q : Flow → Shared → Prop} (kk : Kont C bs env nm H s z P Q) (S₁ : Sim C bs env nm z₁ l₁ H₁ s₁.heap) (x : SX env H s z H₁ s₁ z₁) : Kont C bs env nm H₁ s₁ z₁ P Q :=
  fun o f s' z' l' H' p y S r => kk o f s' z' l' H' p (x.trans S₁ y) S r

theorem paired_eq {α : Type} {l₁ l₂ : List α} (h : Paired (fun v y => v = y) l₁ l₂) : l₁ = l₂ := by
  induction h with
  | nil => rfl
  | cons e _ r => exact congr (congrArg List.cons e) r
theorem rng_filter {z : FZ} (q : Nat → Bool) : ∀ (vs : List Value) (k : Nat), (∀ (j : Nat) v, vs[j]? = some v → ∃ t, v = .int (((k + j : Nat) : Int)) t) →
    VRs z (((List.range' k vs.length).filter q).map fun (j : Nat) => V.int j) (vs.filter fun v => match v with | .int i _ => q i.toNat | _ => false)
  | [], _, _ => .nil
  | v :: vs, k, h => by
    obtain ⟨t, e⟩ := h 0 v rfl
    subst e
    have ih := rng_filter (z := z) q vs (k + 1) fun j v e => by
      obtain ⟨t, r⟩ := h (j + 1) v (by simpa using e)
      exact ⟨t, by rw [r]; congr 1; omega⟩
    simp only [List.length_cons, List.range'_succ, List.filter_cons, Nat.add_zero, Int.toNat_natCast]
    split
    · exact .cons (.int _ _) ih
    · exact ih
theorem mod_rel {z z' : FZ} {us ys : List Value} (h : Paired (fun v u => ∃ (k : Int) (t t' : Tok), v = .int k t ∧ u = .int (k % 999983) t') us ys) : ∀ (ks : List Int), VRs z (ks.map V.int) us → VRs z' (ks.map fun k => V.int (k % 999983)) ys := by
  induction h with
  | nil => intro ks h; cases ks <;> cases h; exact .nil
  | cons a _ ih =>
    intro ks h
    obtain ⟨k', t, t', rfl, rfl⟩ := a
    cases ks with
    | nil => cases h
    | cons k ks =>
      cases h with
      | cons a r => cases a; exact .cons (.int _ _) (ih ks r)
/-- a finished list is stored in a local -/
theorem frozen_loc {z₁ : FZ} {s₁ : Shared} {h' : Heap} {tk cap i : Nat} {D : Addr} {ys : Array Value} {vs : List V} {wn : Str} {m : Str → Option Value} (X : Cx prog w K mg mb C bs sc nm env F k A) (S : Sim C bs env nm z₁ l H s₁.heap) (hD : s₁.heap.get? D = none) (hm : s₁.heap.Ns env.locals m)
    (hmr : ∀ i v x, lget l i = some v → nm[i]? = some x → env.kindOf x = some .local → ∃ u, m x = some u ∧ VR z₁ v u)
    (hN : h'.Ns env.locals (fun y => if y = wn then some (.ref D) else m y)) (hpl : h'.get? D = some (lisO ys cap)) (hk : ∀ b o, b ≠ env.locals → s₁.heap.get? b = some o → h'.get? b = some o) (hx : nm[i]? = some wn) (hkd : env.kindOf wn = some .local) (hb : vs.length ≤ 1000000)
    (hv : VRs (fun a => if a = D then some (lisO ys cap) else z₁ a) vs ys.toList) :
    Sim C bs env nm (fun a => if a = D then some (lisO ys cap) else z₁ a) (lset l i (.lst vs)) H h' ∧ SX env H s₁ z₁ H { s₁ with heap := h', toks := tk } (fun a => if a = D then some (lisO ys cap) else z₁ a) := by
  have old : ∀ a o, z₁ a = some o → (if a = D then some (lisO ys cap) else z₁ a) = some o := fun a o e => by
    have hn : a ≠ D := fun q => by rw [q] at e; rw [S.zk _ _ e] at hD; cases hD
    rw [if_neg hn]; exact e
  have hv' : VR (fun a => if a = D then some (lisO ys cap) else z₁ a) (.lst vs) (.ref D) := .lst (us := ys.toList) (n := cap) hb (by simp) hv
  refine ⟨S.setLoc2 X hx hv' old (fun a o e => ?_) hkd hmr hN hk, ⟨⟨_, _, rfl⟩, fun b o e _ hb _ => hk b o hb e, fun b o e => ?_, fun b mo e => .inl ⟨mo, e⟩, old, fun a o e => ?_⟩⟩
  · by_cases hn : a = D
    · rw [if_pos hn] at e; cases e; subst hn
      exact .inr ⟨hpl, hD⟩
    · rw [if_neg hn] at e; exact .inl e
  · by_cases hn : b = env.locals
    · obtain ⟨o', _, _, e', _⟩ := hN; exact ⟨o', by rw [hn]; exact e'⟩
    · exact ⟨o, hk b o hn e⟩
  · by_cases hn : a = D
    · exact .inr (.inl (by rw [hn]; exact hD))
    · rw [if_neg hn] at e; exact .inl e
end

/-- the little block stands for the statements -/
structure IsS (K : Frag) (C : Addr) (sc : Scope) (nm : List Str) (dm : Bool) (m : MS) (ps : List Stmt) : Prop where
  go : ∀ {prog : Program} {w : World} {mg mb : Str → Option Value} {bs : Heap} {env : Env} {F D : FT} {M : MTab} {k : Nat} {A : Around}, Cx prog w K mg mb C bs sc nm env F k A → MOk prog w C bs k M → DcOk prog w bs k D → (dm = true → NOk prog w C bs k) → keepIn K (.ref C) = true →
    ∀ {s : Shared} {z : FZ} {l : Loc} {H : HM} {P : Out → Loc → HM → Prop}, Sim C bs env nm z l H s.heap → W F D M m l H P →
    ∀ (Q : Flow → Shared → Prop) (E : Value → Shared → Prop), Kont C bs env nm H s z P Q → wpD dm (model prog w) A (execs ps env) Q E s
variable {K : Frag} {C : Addr} {sc : Scope} {nm : List Str} {dm : Bool}
protected theorem IsS.nop   : IsS K C sc nm dm .nop [] := ⟨fun {prog w mg mb bs env F D M k A} X mok dok nok hC => by exact fun S h Q E kk => wpD_execs_nil (kk .next .next _ _ _ _ h (SX.of_px (.self S.zk)) S trivial)⟩
protected theorem IsS.bad {ps}  : IsS K C sc nm dm .bad ps := ⟨fun {prog w mg mb bs env F D M k A} X mok dok nok hC => by exact fun S h Q E kk => h.elim⟩
protected theorem IsS.asg {i e r x pv p q pr} (hx : nm[i]? = some x) (ie : IsE K sc nm e pv) (hs : NoSwap pv (.Name x p) q) (ir : IsS K C sc nm dm r pr) : IsS K C sc nm dm (.asg i e r) (.Assign [.Name x p] pv q :: pr) := ⟨fun {prog w mg mb bs env F D M k A} X mok dok nok hC => by
  refine fun S h Q E kk => restA (wpAny_Assign_Name ((ie.sound X S h).on (.self S.zk) fun v u s₁ z₁ h px hv => store_sound X (S.px px) hx hv fun s₂ x₂ S₂ => ⟨rfl, ?_⟩) (hs _))
  exact ir.go X mok dok nok hC S₂ h Q E (kk.after S₂ ((SX.of_px px).trans (S.px px) x₂))⟩
protected theorem IsS.newl {i r x p q u pr} (hx : nm[i]? = some x) (ir : IsS K C sc nm dm r pr) : IsS K C sc nm dm (.newl i r) (.Assign [.Name x p] (.List [] u) q :: pr) := ⟨fun {prog w mg mb bs env F D M k A} X mok dok nok hC => by
  refine fun S h Q E kk => restA (wpAny_Assign_Name (new_list0 S fun a s₁ ha x₁ S₁ => store_sound X S₁ hx (.ref a) fun s₂ x₂ S₂ => ⟨rfl, ?_⟩) rfl)
  exact ir.go X mok dok nok hC S₂ (h a ha) Q E (kk.after S₂ (x₁.trans S₁ x₂))⟩
protected theorem IsS.newr {i e n r x pe pn p q u v pr} (hx : nm[i]? = some x) (ie : IsE K sc nm e pe) (ine : IsE K sc nm n pn) (ir : IsS K C sc nm dm r pr) : IsS K C sc nm dm (.newr i e n r) (.Assign [.Name x p] (.BinOp (.List [pe] u) .Mult pn v) q :: pr) := ⟨fun {prog w mg mb bs env F D M k A} X mok dok nok hC => by
  intro s z l H P S h Q E kk
  refine restA (wpAny_Assign_Name (wpAny_BinOp (List_ (spl1 ie.star ((ie.sound X S h).on (.self S.zk) fun v u s₁ z₁ h px hv => wpAny_newObj_type ?_)))) rfl)
  have p₁ := px_push (s := s₁) { cls := .type "list", data := .seq [u].toArray } px.zk
  refine (ine.sound X (S.px (px.trans p₁)) h).go (px.trans p₁) fun vn un s₂ z₂ h p px₂ hvn => ?_
  obtain ⟨n, t, rfl, h⟩ := intS_inv h hvn
  refine mul_lst (u := u) (c := 0) (Keeps.keep p.1 _ _ (get_push _)) h.1.1 (by have := h.1.2; omega) ?_
  have S₂ := S.px px₂
  have fr : s₂.heap.get? s₂.heap.objs.size = none := fresh_none (Nat.le_refl _)
  have kp : ∀ b x, s₂.heap.get? b = some x → (s₂.heap.push (lisO (List.replicate n.toNat u).toArray 0)).get? b = some x := fun b x e => Heap.get?_push_of_some _ e
  have hr : VRs z₂ (List.replicate n.toNat v) (List.replicate n.toNat u) := VRs.of (by simp) fun i v' u' e e' => by
    rw [List.eq_of_mem_replicate (List.mem_of_getElem? e), List.eq_of_mem_replicate (List.mem_of_getElem? e')]
    exact hv.mono p.old
  have S₃ := S₂.new fr (o' := .lst (List.replicate n.toNat v)) (fun _ _ => by simp) kp ⟨_, 0, get_push _, hr, by simp; omega⟩
  have x₃ : SX env H s₂ z₂ (up H s₂.heap.objs.size (.lst (List.replicate n.toNat v))) { s₂ with heap := s₂.heap.push (lisO (List.replicate n.toNat u).toArray 0) } z₂ := SX.of_new fr kp
  refine store_sound (s := { s₂ with heap := _ }) X S₃ hx (.ref _) fun s₄ x₄ S₄ => ⟨rfl, ?_⟩
  exact ir.go X mok dok nok hC S₄ (h.2 _ (S₂.none_of fr)) Q E (kk.after S₄ (((SX.of_px px₂).trans S₂ x₃).trans S₃ x₄))⟩
protected theorem IsS.nb0 {i r x y p q u v pr} (hd : dm = true) (hx : nm[i]? = some x) (g : IsB K sc y (.type "bytearray")) (ir : IsS K C sc nm dm r pr) : IsS K C sc nm dm (.nb0 i r) (.Assign [.Name x p] (.Call (.Name y u) [] [] v) q :: pr) := ⟨fun {prog w mg mb bs env F D M k A} X mok dok nok hC => by
  subst hd
  refine fun S h Q E kk => rest_D (wpD_Assign_Name (CallD_N (Name_built X S.bsIn g (callD0 (bs := bs) (kp_type _) S.bsIn (bar_new0 fun h' hk hb => ?_)))) rfl)
  rename_i s z l H P
  have fr : s.heap.get? s.heap.objs.size = none := fresh_none (Nat.le_refl _)
  have S₁ := S.new fr (o' := .barr []) (fun _ _ => by simp) hk ⟨hb, by simp⟩
  refine store_sound (s := { s with heap := h' }) X S₁ hx (.ref _) fun s₂ x₂ S₂ => ⟨rfl, ?_⟩
  exact ir.go X mok dok nok hC S₂ (h _ (S.none_of fr)) Q E (kk.after S₂ ((SX.of_new (t' := s.toks) fr hk).trans S₁ x₂))⟩
protected theorem IsS.nb1 {i e r x y pe p q u v pr} (hd : dm = true) (hx : nm[i]? = some x) (g : IsB K sc y (.type "bytearray")) (ie : IsE K sc nm e pe) (ir : IsS K C sc nm dm r pr) : IsS K C sc nm dm (.nb1 i e r) (.Assign [.Name x p] (.Call (.Name y u) [pe] [] v) q :: pr) := ⟨fun {prog w mg mb bs env F D M k A} X mok dok nok hC => by
  subst hd
  refine fun S h Q E kk => rest_D (wpD_Assign_Name (CallD_N (Name_built X S.bsIn g (callD1 (bs := bs) ie.star (kp_type _) ((ie.sound X S h).on (.self S.zk) fun v u s₁ z₁ h px hv => ⟨(S.px px).bsIn, ?_⟩)))) rfl)
  obtain ⟨b, t, rfl, hb, h⟩ := bysS_inv h hv
  refine bar_new1 (by simpa using hb) fun h' hk hb' => ?_
  have S₁ := S.px px
  have fr : s₁.heap.get? s₁.heap.objs.size = none := fresh_none (Nat.le_refl _)
  have S₂ := S₁.new fr (o' := .barr b) (fun _ _ => by simp) hk ⟨hb', hb⟩
  refine store_sound (s := { s₁ with heap := h' }) X S₂ hx (.ref _) fun s₃ x₃ S₃ => ⟨rfl, ?_⟩
  exact ir.go X mok dok nok hC S₃ (h _ (S₁.none_of fr)) Q E (kk.after S₃ (((SX.of_px px).trans S₁ (SX.of_new (t' := s₁.toks) fr hk)).trans S₂ x₃))⟩
protected theorem IsS.newo {i a b c r x y pa pb pc p q u v pr} (hd : dm = true) (hx : nm[i]? = some x) (g : IsG K sc y (.ref C)) (ia : IsE K sc nm a pa) (ib : IsE K sc nm b pb) (ic : IsE K sc nm c pc) (ir : IsS K C sc nm dm r pr) : IsS K C sc nm dm (.newo i a b c r) (.Assign [.Name x p] (.Call (.Name y u) [pa, pb, pc] [] v) q :: pr) := ⟨fun {prog w mg mb bs env F D M k A} X mok dok nok hC => by
  subst hd
  intro s z l H P S h Q E kk
  have kpC : KpOk prog w bs (.ref C) := fun h' hk => keeps_K hC h' (X.G.X.keeps hk)
  refine rest_D (wpD_Assign_Name (CallD_N (Name_glob X S.bsIn g (callD3 (bs := bs) ia.star ib.star ic.star kpC ((ia.sound X S h).on (.self S.zk) fun va ua s₁ z₁ h px hva => (ib.sound X (S.px px) h).go px fun vb ub s₂ z₂ h p px₂ hvb =>
    (ic.sound X (S.px px₂) h).go px₂ fun vc uc s₃ z₃ h p₃ px₃ hvc => ⟨(S.px px₃).bsIn, ?_⟩)))) rfl)
  have hva' := (hva.mono p.old).mono p₃.old
  have hvb' := hvb.mono p₃.old
  obtain ⟨d, rfl, h⟩ := bysS_V h
  obtain ⟨bl, rfl, h⟩ := intS_V h
  obtain ⟨ch, rfl, h⟩ := intS_V h
  have S₃ := S.px px₃
  refine nok rfl A s₃ z₃ d bl ch ua ub uc X.aok S₃.bsIn S₃.zk hva' hvb' hvc h.1.1 h.1.2.1 h.1.2.2 _ _ fun a dx rl s₄ ha hdx hrl n1 n2 n3 kp e1 e2 e3 => ?_
  have px₄ : PX s z s₄ z₃ := px₃.trans (.grow kp S₃.zk)
  have S₅ := S₃.new3 ha hdx hrl n1 n2 n3 (Keeps.keep kp) e1 e2 e3
  have x₅ : SX env H s₃ z₃ _ s₄ z₃ := SX.of_new3 (m₁ := .lst []) (m₂ := .hid a) (m₃ := .ob dx (initFs d bl ch rl)) ha hdx hrl kp
  refine store_sound X S₅ hx (.ref a) fun s₆ x₆ S₆ => ⟨rfl, ?_⟩
  exact ir.go X mok dok nok hC S₆ (h.2 a dx rl (S₃.none_of ha) (S₃.none_of hdx) (S₃.none_of hrl) n1 n2 n3) Q E (kk.after S₆ (((SX.of_px px₃).trans S₃ x₅).trans S₅ x₆))⟩
protected theorem IsS.seti {x i e r y pi pe p q u pr} (hx : nm[x]? = some y) (ii : IsE K sc nm i pi) (ie : IsE K sc nm e pe) (hs : NoSwap pe (.Subscript (.Name y p) pi u) q) (ir : IsS K C sc nm dm r pr) : IsS K C sc nm dm (.seti x i e r) (.Assign [.Subscript (.Name y p) pi u] pe q :: pr) := ⟨fun {prog w mg mb bs env F D M k A} X mok dok nok hC => by
  intro s z l H P S h Q E kk
  obtain ⟨a, e1, h⟩ := ref_inv h
  obtain ⟨vs, e2, h⟩ := lstH_inv h
  refine restA (wpAny_Assign_Subscript ((ie.sound X S h).on (.self S.zk) fun v u s₁ z₁ h px hv => Name_obj X (S.px px) hx e1 fun s₂ kp S₂ => ?_) (hs _))
  have px₂ := px.trans (.grow kp (S.px px).zk)
  refine (ii.sound X S₂ h).go px₂ fun vi ui s₃ z₃ h p px₃ hvi => ?_
  obtain ⟨i, t, rfl, h⟩ := intS_inv h hvi
  have S₃ := S.px px₃
  obtain ⟨us, n, q1, q2, q3⟩ := (S₃.trk _ _ e2).2
  have hl := q2.length
  refine lst_set q1 h.1.1 (by simp; omega) (by simp; omega) fun h' n' k1 k2 => ⟨rfl, ?_⟩
  rw [List.setIfInBounds_toArray] at k2
  have S₄ := S₃.turn e2 (o' := .lst (vs.set i.toNat v)) (fun _ => by simp) (fun b x hb e => k1 b x hb e) ⟨_, n', k2, q2.set (hv.mono p.old), by simpa using q3⟩
  exact ir.go X mok dok nok hC (s := { s₃ with heap := h' }) S₄ h.2 Q E (kk.after (s₁ := { s₃ with heap := h' }) S₄ ((SX.of_px px₃).trans S₃ (SX.of_turn e2 (fun b x hb e => k1 b x hb e) ⟨_, k2⟩)))⟩
protected theorem IsS.app {x e r y pe p q u v pr} (hx : nm[x]? = some y) (ie : IsE K sc nm e pe) (hl : Same u q) (ir : IsS K C sc nm dm r pr) : IsS K C sc nm dm (.app x e r) (.Expr (.Call (.Attribute (.Name y p) "append" u) [pe] [] q) v :: pr) := ⟨fun {prog w mg mb bs env F D M k A} X mok dok nok hC => by
  intro s z l H P S h Q E kk
  obtain ⟨a, e1, h⟩ := ref_inv h
  obtain ⟨vs, e2, h⟩ := lstH_inv h
  refine rest_D (Expr_D X (wpD_of (wpAny_Call_append rfl (by rw [ie.star]; rfl) hl (by rw [ie.star]; rfl) (Name_obj X S hx e1 fun s₁ kp S₁ => ?_))) rfl)
  obtain ⟨us, n, q1, q2, q3⟩ := (S₁.trk _ _ e2).2
  refine ⟨a, us.toArray, rfl, ⟨_, n, q1, rfl, rfl, rfl⟩, ?_⟩
  have px₁ : PX s z s₁ z := .grow kp S.zk
  refine (ie.sound X S₁ h).on px₁ fun v u s₂ z₂ h px hv => ?_
  have S₂ := S.px px
  obtain ⟨us, n, q1, q2, q3⟩ := (S₂.trk _ _ e2).2
  have hl := q2.length
  refine lst_append q1 (by simp; omega) fun h' n' k1 k2 => ⟨rfl, rfl, ?_⟩
  rw [List.push_toArray] at k2
  have S₄ := S₂.turn e2 (o' := .lst (vs ++ [v])) (fun _ => by simp) (fun b x hb e => k1 b x hb e) ⟨_, n', k2, q2.append (.cons hv .nil), by have := h.1; simp; omega⟩
  exact ir.go X mok dok nok hC (s := { s₂ with heap := h' }) S₄ h.2 Q E (kk.after (s₁ := { s₂ with heap := h' }) S₄ ((SX.of_px px).trans S₂ (SX.of_turn e2 (fun b x hb e => k1 b x hb e) ⟨_, k2⟩)))⟩
protected theorem IsS.appf {o f e r y fn pe p q u v t pr} (hx : nm[o]? = some y) (hf : fnm[f]? = some fn) (ie : IsE K sc nm e pe) (hl : Same u q) (ir : IsS K C sc nm dm r pr) : IsS K C sc nm dm (.appf o f e r) (.Expr (.Call (.Attribute (.Attribute (.Name y p) fn t) "append" u) [pe] [] q) v :: pr) := ⟨fun {prog w mg mb bs env F D M k A} X mok dok nok hC => by
  intro s z l H P S h Q E kk
  obtain ⟨o, e1, h⟩ := ref_inv h
  obtain ⟨dx, fs, e2, h⟩ := obH_inv h
  obtain ⟨a, e3, h⟩ := ref_inv h
  obtain ⟨vs, e4, h⟩ := lstH_inv h
  refine rest_D (Expr_D X (wpD_of (wpAny_Call_append rfl (by rw [ie.star]; rfl) hl (by rw [ie.star]; rfl) (Attribute_name (Name_obj X S hx e1 fun s₁ kp S₁ => ?_)))) rfl)
  have px₁ : PX s z s₁ z := .grow kp S.zk
  refine (att_sound (P := fun v => v = .ref a) (ex := true) X.ck (getItem_in X S₁) S₁ hf (.ref o) (by unfold attS; simp only [e2, e3])).on px₁ fun v' u' s₂ z₂ hv' px₂ hr => ?_
  subst hv'
  cases hr
  have S₂ := S.px px₂
  obtain ⟨us, n, q1, q2, q3⟩ := (S₂.trk _ _ e4).2
  refine ⟨a, us.toArray, rfl, ⟨_, n, q1, rfl, rfl, rfl⟩, ?_⟩
  refine (ie.sound X S₂ h).on px₂ fun v u s₃ z₃ h px hv => ?_
  have S₃ := S.px px
  obtain ⟨us, n, q1, q2, q3⟩ := (S₃.trk _ _ e4).2
  have hl := q2.length
  refine lst_append q1 (by simp; omega) fun h' n' k1 k2 => ⟨rfl, rfl, ?_⟩
  rw [List.push_toArray] at k2
  have S₄ := S₃.turn e4 (o' := .lst (vs ++ [v])) (fun _ => by simp) (fun b x hb e => k1 b x hb e) ⟨_, n', k2, q2.append (.cons hv .nil), by have := h.1; simp; omega⟩
  exact ir.go X mok dok nok hC (s := { s₃ with heap := h' }) S₄ h.2 Q E (kk.after (s₁ := { s₃ with heap := h' }) S₄ ((SX.of_px px).trans S₃ (SX.of_turn e4 (fun b x hb e => k1 b x hb e) ⟨_, k2⟩)))⟩
protected theorem IsS.ext {x e r y pe p q u v pr} (hd : dm = true) (hx : nm[x]? = some y) (ie : IsE K sc nm e pe) (hl : Same u q) (ir : IsS K C sc nm dm r pr) : IsS K C sc nm dm (.ext x e r) (.Expr (.Call (.Attribute (.Name y p) "extend" u) [pe] [] q) v :: pr) := ⟨fun {prog w mg mb bs env F D M k A} X mok dok nok hC => by
  subst hd
  intro s z l H P S h Q E kk
  obtain ⟨a, e1, h⟩ := ref_inv h
  obtain ⟨c, e2, h⟩ := barH_inv h
  have hkp : KpOk prog w bs (.builtin "bytearray.extend") := kp_builtin _
  refine rest_D (Expr_D X (CallD_M hl (by rw [ie.star]; rfl) (Name_obj X S hx e1 fun s₁ kp S₁ => ?_)) rfl)
  refine bar_getMethod (S₁.trk _ _ e2).2.1 (callD1 (bs := bs) ie.star hkp ?_)
  have px₁ : PX s z s₁ z := .grow kp S.zk
  refine (ie.sound X S₁ h).on px₁ fun v u s₂ z₂ h px hv => ⟨(S.px px).bsIn, ?_⟩
  obtain ⟨b, t, rfl, hb, h⟩ := bysS_inv h hv
  have S₂ := S.px px
  obtain ⟨q1, q2⟩ := (S₂.trk _ _ e2).2
  refine bar_extend q1 (by have := h.1; simp; omega) fun h' k1 k2 => ⟨rfl, rfl, ?_⟩
  have S₄ := S₂.turn e2 (o' := .barr (c ++ b)) (fun _ => by simp) (fun b x hb e => k1 b x hb e) ⟨by rw [k2]; simp, by have := h.1; simp; omega⟩
  exact ir.go X mok dok nok hC (s := { s₂ with heap := h' }) S₄ h.2 Q E (kk.after (s₁ := { s₂ with heap := h' }) S₄ ((SX.of_px px).trans S₂ (SX.of_turn e2 (fun b x hb e => k1 b x hb e) ⟨_, k2⟩)))⟩
protected theorem IsS.mc0 {o m mn r y p q u v pr} (hd : dm = true) (hx : nm[o]? = some y) (hm : IsMeth K C mn m) (hl : Same u q) (ir : IsS K C sc nm dm r pr) : IsS K C sc nm dm (.mc0 o m r) (.Expr (.Call (.Attribute (.Name y p) mn u) [] [] q) v :: pr) := ⟨fun {prog w mg mb bs env F D M k A} X mok dok nok hC => by
  subst hd
  intro s z l H P S h Q E kk
  refine rest_D (Expr_D X (mc0_eval X mok S hx hm hl h fun v u H' s' z' h x₁ S₁ hv => ?_) rfl)
  obtain ⟨rfl, h⟩ := h
  cases hv
  exact ⟨rfl, rfl, ir.go X mok dok nok hC S₁ h Q E (kk.after S₁ x₁)⟩⟩
protected theorem IsS.mc2 {o m mn a b r y pa pb p q u v pr} (hd : dm = true) (hx : nm[o]? = some y) (hm : IsMeth K C mn m) (ia : IsE K sc nm a pa) (ib : IsE K sc nm b pb) (hl : Same u q) (ir : IsS K C sc nm dm r pr) : IsS K C sc nm dm (.mc2 o m a b r) (.Expr (.Call (.Attribute (.Name y p) mn u) [pa, pb] [] q) v :: pr) := ⟨fun {prog w mg mb bs env F D M k A} X mok dok nok hC => by
  subst hd
  intro s z l H P S h Q E kk
  refine rest_D (Expr_D X (mc2_eval X mok S hx hm hl ia ib h.2 h.1 fun v u H' s' z' h x₁ S₁ hv => ?_) rfl)
  obtain ⟨rfl, h⟩ := h
  cases hv
  exact ⟨rfl, rfl, ir.go X mok dok nok hC S₁ h Q E (kk.after S₁ x₁)⟩⟩
protected theorem IsS.ma0 {i o m mn r x y p q u v t pr} (hd : dm = true) (hx : nm[i]? = some x) (hy : nm[o]? = some y) (hm : IsMeth K C mn m) (hl : Same u q) (ir : IsS K C sc nm dm r pr) : IsS K C sc nm dm (.ma0 i o m r) (.Assign [.Name x t] (.Call (.Attribute (.Name y p) mn u) [] [] q) v :: pr) := ⟨fun {prog w mg mb bs env F D M k A} X mok dok nok hC => by
  subst hd
  intro s z l H P S h Q E kk
  refine rest_D (wpD_Assign_Name (mc0_eval X mok S hy hm hl h fun v u H' s' z' h x₁ S₁ hv => store_sound X S₁ hx hv fun s₂ x₂ S₂ => ⟨rfl, ?_⟩) rfl)
  exact ir.go X mok dok nok hC S₂ h Q E (kk.after S₂ (x₁.trans S₁ x₂))⟩
protected theorem IsS.mu0 {i j o m mn r x x' y p q u v t t' w k pr} (hd : dm = true) (hx : nm[i]? = some x) (hx' : nm[j]? = some x') (hy : nm[o]? = some y) (hm : IsMeth K C mn m) (hl : Same u q) (ir : IsS K C sc nm dm r pr) : IsS K C sc nm dm (.mu0 i j o m r) (.Assign [.Tuple [.Name x t, .Name x' t'] k w] (.Call (.Attribute (.Name y p) mn u) [] [] q) v :: pr) := ⟨fun {prog w mg mb bs env F D M k A} X mok dok nok hC => by
  subst hd
  intro s z l H P S h Q E kk
  refine rest_D (AssignTup_D (mc0_eval X mok S hy hm hl h fun v u H' s' z' h x₁ S₁ hv => ?_) rfl rfl)
  obtain ⟨a, b, rfl, h⟩ := t2_inv h
  cases hv with
  | t2 e v1 v2 =>
  refine unp2 X S₁ e v1 v2 hx hx' fun s₂ x₂ S₂ => ⟨rfl, ?_⟩
  exact ir.go X mok dok nok hC S₂ h Q E (kk.after S₂ (x₁.trans S₁ x₂))⟩
protected theorem IsS.un2 {i j e r x x' pe t t' k w v pr} (hx : nm[i]? = some x) (hx' : nm[j]? = some x') (ie : IsE K sc nm e pe) (hs : NoSwap pe (.Tuple [.Name x t, .Name x' t'] k w) v) (hw : (∀ env, swappedStores [.Tuple [.Name x t, .Name x' t'] k w] pe env = pure none)) (ir : IsS K C sc nm dm r pr) : IsS K C sc nm dm (.un2 i j e r) (.Assign [.Tuple [.Name x t, .Name x' t'] k w] pe v :: pr) := ⟨fun {prog w mg mb bs env F D M k A} X mok dok nok hC => by
  intro s z l H P S h Q E kk
  refine rest_D (AssignTup_D (wpD_of ((ie.sound X S h).on (.self S.zk) fun v u s₁ z₁ h px hv => ?_)) (hs _) (hw _))
  obtain ⟨a, b, rfl, h⟩ := t2_inv h
  cases hv with
  | t2 e v1 v2 =>
  refine unp2 X (S.px px) e v1 v2 hx hx' fun s₂ x₂ S₂ => ⟨rfl, ?_⟩
  exact ir.go X mok dok nok hC S₂ h Q E (kk.after S₂ ((SX.of_px px).trans (S.px px) x₂))⟩
protected theorem IsS.un4 {i j i2 j2 e r x x' x2 x3 pe t t' t2 t3 k w v pr} (hx : nm[i]? = some x) (hx' : nm[j]? = some x') (hx2 : nm[i2]? = some x2) (hx3 : nm[j2]? = some x3) (ie : IsE K sc nm e pe) (hs : NoSwap pe (.Tuple [.Name x t, .Name x' t', .Name x2 t2, .Name x3 t3] k w) v) (hw : (∀ env, swappedStores [.Tuple [.Name x t, .Name x' t', .Name x2 t2, .Name x3 t3] k w] pe env = pure none)) (ir : IsS K C sc nm dm r pr) : IsS K C sc nm dm (.un4 i j i2 j2 e r) (.Assign [.Tuple [.Name x t, .Name x' t', .Name x2 t2, .Name x3 t3] k w] pe v :: pr) := ⟨fun {prog w mg mb bs env F D M k A} X mok dok nok hC => by
  intro s z l H P S h Q E kk
  refine rest_D (AssignTup_D (wpD_of ((ie.sound X S h).on (.self S.zk) fun v u s₁ z₁ h px hv => ?_)) (hs _) (hw _))
  obtain ⟨a, b, c, d, rfl, h⟩ := t4_inv h
  cases hv with
  | t4 e v1 v2 v3 v4 =>
  refine unp4 X (S.px px) e v1 v2 v3 v4 hx hx' hx2 hx3 fun s₂ x₂ S₂ => ⟨rfl, ?_⟩
  exact ir.go X mok dok nok hC S₂ h Q E (kk.after S₂ ((SX.of_px px).trans (S.px px) x₂))⟩
protected theorem IsS.seta {o f e r y fn pe p q u pr} (hx : nm[o]? = some y) (hf : fnm[f]? = some fn) (ie : IsE K sc nm e pe) (hs : NoSwap pe (.Attribute (.Name y p) fn u) q) (ir : IsS K C sc nm dm r pr) : IsS K C sc nm dm (.seta o f e r) (.Assign [.Attribute (.Name y p) fn u] pe q :: pr) := ⟨fun {prog w mg mb bs env F D M k A} X mok dok nok hC => by
  intro s z l H P S h Q E kk
  refine restA (plainObj_wpAny_Assign_Attribute ((ie.sound X S h).on (.self S.zk) fun v u s₁ z₁ h px hv => ?_) (hs _))
  obtain ⟨a, e1, h⟩ := ref_inv h
  obtain ⟨dx, fs, e2, h⟩ := obH_inv h
  refine Name_obj X (S.px px) hx e1 fun s₂ kp S₂ => ?_
  have px₂ := px.trans (.grow kp (S.px px).zk)
  refine set_sound X.ck (getItem_in X S₂) S₂ hf e2 h.1 hv fun h' tk k1 S₃ => ⟨rfl, ?_⟩
  have hd := (S₂.trk _ _ e2).2.2.1
  have hx' : ∃ o, h'.get? dx = some o := by
    have := (S₃.trk _ _ up_self).2
    obtain ⟨_, _, es, n, q, _⟩ := this
    exact ⟨_, q⟩
  exact ir.go X mok dok nok hC (s := { s₂ with heap := h', toks := tk }) S₃ h.2 Q E (kk.after (s₁ := { s₂ with heap := h', toks := tk }) S₃ ((SX.of_px px₂).trans S₂ (SX.of_turnOb e2 hd k1 hx')))⟩
protected theorem IsS.auga {o f op op' e r y fn pe p q u pr} (hx : nm[o]? = some y) (hf : fnm[f]? = some fn) (ho : op.to = op') (ie : IsE K sc nm e pe) (ir : IsS K C sc nm dm r pr) : IsS K C sc nm dm (.auga o f op e r) (.AugAssign (.Attribute (.Name y p) fn u) op' pe q :: pr) := ⟨fun {prog w mg mb bs env F D M k A} X mok dok nok hC => by
  subst ho
  intro s z l H P S h Q E kk
  obtain ⟨a, e1, h⟩ := ref_inv h
  obtain ⟨dx, fs, e2, h⟩ := obH_inv h
  obtain ⟨old, e3, h⟩ := som_inv h
  refine restA (wpAny_AugAssign_AttributeAny (Name_obj X S hx e1 fun s₁ kp S₁ => ?_))
  have px₁ : PX s z s₁ z := .grow kp S.zk
  refine (att_sound (P := fun v => v = old) (ex := true) X.ck (getItem_in X S₁) S₁ hf (.ref a) (by unfold attS; simp only [e2, e3])).on px₁ fun v' u' s₂ z₂ hv' px₂ hr => ?_
  subst hv'
  have S₂ := S.px px₂
  refine (ie.sound X S₂ h).go px₂ fun v u s₃ z₃ h p px₃ hv => ?_
  refine (aug_sound px₃.zk (hr.mono p.old) hv h).on px₃ fun v2 u2 s₄ z₄ h px₄ hv2 => ?_
  have S₄ := S.px px₄
  refine set_sound X.ck (getItem_in X S₄) S₄ hf e2 h.1 hv2 fun h' tk k1 S₅ => ⟨rfl, ?_⟩
  have hd := (S₄.trk _ _ e2).2.2.1
  have hx' : ∃ o, h'.get? dx = some o := by
    have := (S₅.trk _ _ up_self).2
    obtain ⟨_, _, es, n, q, _⟩ := this
    exact ⟨_, q⟩
  exact ir.go X mok dok nok hC (s := { s₄ with heap := h', toks := tk }) S₅ h.2 Q E (kk.after (s₁ := { s₄ with heap := h', toks := tk }) S₅ ((SX.of_px px₄).trans S₄ (SX.of_turnOb e2 hd k1 hx')))⟩
protected theorem IsS.aug {i op op' e r x pe p q pr} (hx : nm[i]? = some x) (ho : op.to = op') (ie : IsE K sc nm e pe) (ir : IsS K C sc nm dm r pr) : IsS K C sc nm dm (.aug i op e r) (.AugAssign (.Name x p) op' pe q :: pr) := ⟨fun {prog w mg mb bs env F D M k A} X mok dok nok hC => by
  subst ho
  intro s z l H P S h Q E kk
  refine restA (wpAny_AugAssign_Name ((load_loc X S hx h).on (.self S.zk) fun v u s₁ z₁ h px hv => (ie.sound X (S.px px) h).go px fun v2 u2 s₂ z₂ h p px₂ hv2 => (aug_sound px₂.zk (hv.mono p.old) hv2 h).on px₂ fun v3 u3 s₃ z₃ h px₃ hv3 => ?_))
  refine store_sound X (S.px px₃) hx hv3 fun s₄ x₄ S₄ => ⟨rfl, ?_⟩
  exact ir.go X mok dok nok hC S₄ h Q E (kk.after S₄ ((SX.of_px px₃).trans (S.px px₃) x₄))⟩
protected theorem IsS.ite {t a b r pt pa pb q pr} (it : IsT K C sc nm dm t pt) (ia : IsS K C sc nm dm a pa) (ib : IsS K C sc nm dm b pb) (ir : IsS K C sc nm dm r pr) : IsS K C sc nm dm (.ite t a b r) (.If pt pa pb q :: pr) := ⟨fun {prog w mg mb bs env F D M k A} X mok dok nok hC => by
  intro s z l H P S h Q E kk
  refine wpD_execs_cons (wpD_If (it.go X mok dok S h _ _ (fun c s₁ z₁ H₁ p x₁ S₁ => ?_) _ rfl))
  cases c with
  | true =>
    rw [if_pos rfl]
    refine ia.go X mok dok nok hC S₁ (p.1 rfl) _ _ fun o f s' z' l' H' hp x S' ho => ?_
    cases o <;> cases f <;> (try exact ho.elim)
    · exact ir.go X mok dok nok hC S' hp Q E (kk.after S' (x₁.trans S₁ x))
    · exact kk _ _ _ _ _ _ hp (x₁.trans S₁ x) S' ho
  | false =>
    rw [if_neg (by decide)]
    refine ib.go X mok dok nok hC S₁ (p.2 rfl) _ _ fun o f s' z' l' H' hp x S' ho => ?_
    cases o <;> cases f <;> (try exact ho.elim)
    · exact ir.go X mok dok nok hC S' hp Q E (kk.after S' (x₁.trans S₁ x))
    · exact kk _ _ _ _ _ _ hp (x₁.trans S₁ x) S' ho⟩
protected theorem IsS.whl {t b r pt pb q pr} (it : IsT K C sc nm dm t pt) (ib : IsS K C sc nm dm b pb) (ir : IsS K C sc nm dm r pr) : IsS K C sc nm dm (.whl t b r) (.While pt pb [] q :: pr) := ⟨fun {prog w mg mb bs env F D M k A} X mok dok nok hC => by
  intro s z l H P S h Q E kk
  refine wpD_execs_cons (While_D ?_)
  have key : ∀ (n : Nat) {s₁ : Shared} {z₁ : FZ} {l₁ : Loc} {H₁ : HM}, Sim C bs env nm z₁ l₁ H₁ s₁.heap → SX env H s z H₁ s₁ z₁ →
      loopW (fun l H k => WT F D M l t H fun c H' => k c l H') (W F D M b) (fun l H => W F D M r l H P) P n l₁ H₁ →
      codeD dm (model prog w) A (.whileLoop pt pb [] env) (fun rr s' => match rr with | .ok f => (match f with | .next => wpD dm (model prog w) A (execs pr env) Q E s' | f => Q f s') | .error _ => False) s₁ := by
    intro n
    induction n with
    | zero => exact fun _ _ h => h.elim
    | succ n ih =>
      intro s₁ z₁ l₁ H₁ S₁ x₁ h₁
      refine while_turn (it.go X mok dok S₁ h₁ _ _ (fun c s₂ z₂ H₂ p x₂ S₂ => ⟨fun hc => ?_, fun hc => ?_⟩) _ rfl)
      · refine ib.go X mok dok nok hC S₂ (p.1 hc) _ _ fun o f s₃ z₃ l₃ H₃ hp x₃ S₃ ho => ?_
        have x' := (x₁.trans S₁ x₂).trans S₂ x₃
        cases o <;> cases f <;> (try exact ho.elim)
        · exact ih S₃ x' hp
        · exact kk _ _ _ _ _ _ hp x' S₃ ho
      · exact ir.go X mok dok nok hC S₂ (p.2 hc) Q E (kk.after S₂ (x₁.trans S₁ x₂))
  obtain ⟨n, hn⟩ := h
  exact key n S (SX.of_px (.self S.zk)) hn⟩
protected theorem IsS.forB {i e b r x pe pb p q pr} (hx : nm[i]? = some x) (ie : IsE K sc nm e pe) (hs : (∀ env v, foldedSetIterable pe env v = pure v)) (ib : IsS K C sc nm dm b pb) (ir : IsS K C sc nm dm r pr) : IsS K C sc nm dm (.forB i e b r) (.For (.Name x p) pe pb [] q :: pr) := ⟨fun {prog w mg mb bs env F D M k A} X mok dok nok hC => by
  intro s z l H P S h Q E kk
  refine wpD_execs_cons (For_D ((ie.sound X S h).on (.self S.zk) fun v u s₁ z₁ h px hv => ?_) (hs _))
  have S₁ := S.px px
  have fr : s₁.heap.get? s₁.heap.objs.size = none := fresh_none (Nat.le_refl _)
  have fr0 : s.heap.get? s₁.heap.objs.size = none := by
    cases q : s.heap.get? s₁.heap.objs.size with
    | none => rfl
    | some o => rw [Keeps.keep px.1 _ _ q] at fr; cases fr
  have outI : H s₁.heap.objs.size = none ∧ s₁.heap.objs.size ≠ env.locals ∧ ∀ x, env.cells.lookup x ≠ some s₁.heap.objs.size := ⟨S₁.none_of fr, S₁.fresh_loc fr, S₁.fresh_cel fr⟩
  have outw : (∀ o, z₁ s₁.heap.objs.size ≠ some o) ∧ bs.get? s₁.heap.objs.size = none := by
    refine ⟨fun o e => (by rw [S₁.zk _ _ e] at fr; cases fr), ?_⟩
    cases q : bs.get? s₁.heap.objs.size with
    | none => rfl
    | some o => rw [(S₁.base _ _ q).1] at fr; cases fr
  cases v <;> (try exact h.elim)
  · cases hv
    rename_i b t hb
    refine KBw.pyIter_bytes ?_
    have p₂ := px_push (s := s₁) { cls := .type "bytes_iterator", data := .fields #[.bytes b.toArray t, .int 0 0] } px.zk
    refine for_sound (P := P) (bodyW := W F D M _) (fin := fun l H => W F D M _ l H P) (s₀ := s) (z₀ := z) (H := H) X hx (KBw.walks X.aok.hd s₁.heap.objs.size b.toArray t) (fun i h' ⟨o, e, _⟩ b' hb' => by rw [List.mem_singleton.mp hb']; exact ⟨o, e⟩) (ib.go X mok dok nok hC)
      (fun s' z' l' H' hf x S' => ir.go X mok dok nok hC S' hf Q E (kk.after S' x)) (fun v u s' z' l' H' hp x S' hv => kk (.ret v) (.ret u) _ _ _ _ hp x S' hv) (fun b' hb' => by rw [List.mem_singleton.mp hb']; exact fr0)
      (b.map fun (c : UInt8) => V.int (c.toNat : Int)) 0 (by simp) (S.px (px.trans p₂)) (SX.of_px (px.trans p₂)) ⟨_, get_push _, rfl, rfl⟩ (fun b' hb' => by rw [List.mem_singleton.mp hb']; exact outI) (fun b' hb' => by rw [List.mem_singleton.mp hb']; exact outw) ?_ h
    rintro m v u hm ⟨c, tu, hc, rfl⟩ z' hz'
    have hc' : b[m]? = some c := by simpa using hc
    rw [List.getElem?_map, hc'] at hm
    cases hm
    exact .int _ _
  · cases hv
    rename_i vs a us n e hb hr
    refine wpAny_pyIter_list (items := us.toArray) ⟨_, S₁.zk _ _ e, rfl, _, rfl⟩ ?_
    have p₂ := px_push (s := s₁) { cls := .type "list_iterator", data := .fields #[.ref a, .int 0 0] } px.zk
    have hne : a ≠ s₁.heap.objs.size := fun q => by rw [← q, S₁.zk _ _ e] at fr; cases fr
    have hl := hr.length
    refine for_sound (P := P) (bodyW := W F D M _) (fin := fun l H => W F D M _ l H P) (s₀ := s) (z₀ := z) (H := H) X hx (Walks.list X.aok.hd s₁.heap.objs.size a hne us.toArray) (fun i h' st b' hb' => ?_) (ib.go X mok dok nok hC)
      (fun s' z' l' H' hf x S' => ir.go X mok dok nok hC S' hf Q E (kk.after S' x)) (fun v u s' z' l' H' hp x S' hv => kk (.ret v) (.ret u) _ _ _ _ hp x S' hv) (fun b' hb' => by rw [List.mem_singleton.mp hb']; exact fr0)
      vs 0 (by simp; omega) (S.px (px.trans p₂)) (SX.of_px (px.trans p₂)) ⟨⟨_, get_push _, rfl, rfl⟩, ⟨_, Heap.get?_push_of_some _ (S₁.zk _ _ e), rfl, _, rfl⟩⟩ (fun b' hb' => ?_) (fun b' hb' => by rw [List.mem_singleton.mp hb']; exact outw) ?_ h
    · rcases List.mem_cons.mp hb' with rfl | hb'
      · obtain ⟨o, q, _⟩ := st.1; exact ⟨o, q⟩
      · rw [List.mem_singleton.mp hb']
        obtain ⟨o, q, _⟩ := st.2; exact ⟨o, q⟩
    · rcases List.mem_cons.mp hb' with rfl | hb'
      · exact outI
      · rw [List.mem_singleton.mp hb']
        exact (S₁.fz _ _ e).2
    · intro m v u hm hu z' hz'
      obtain ⟨u', q1, q2⟩ := hr.get hm
      have : us[m]? = some u := by simpa using hu
      rw [this] at q1; cases q1
      exact q2.mono hz'⟩
protected theorem IsS.forN {i n b r x y pn pb p q u v pr} (hx : nm[i]? = some x) (g : IsB K sc y (.type "range")) (ie : IsE K sc nm n pn) (ib : IsS K C sc nm dm b pb) (ir : IsS K C sc nm dm r pr) : IsS K C sc nm dm (.forN i n b r) (.For (.Name x p) (.Call (.Name y u) [pn] [] v) pb [] q :: pr) := ⟨fun {prog w mg mb bs env F D M k A} X mok dok nok hC => by
  intro s z l H P S h Q E kk
  refine wpD_execs_cons (For_D (Call_N (Name_built X S.bsIn g (callW1 (bs := bs) ie.star (kp_type _) ((ie.sound X S h).on (.self S.zk) fun v u s₁ z₁ h px hv => ⟨(S.px px).bsIn, ?_⟩)))) (fun _ => rfl))
  obtain ⟨n, t, rfl, h⟩ := intS_inv h hv
  have S₁ := S.px px
  refine range_go h.1.1 h.1.2 fun s₂ I kp hI hlt hit => ?_
  have px₂ := px.trans (.grow kp S₁.zk)
  have S₂ := S.px px₂
  have fr0 : s.heap.get? I = none := by
    cases q : s.heap.get? I with
    | none => rfl
    | some o => rw [Keeps.keep px.1 _ _ q] at hI; cases hI
  have outI : H I = none ∧ I ≠ env.locals ∧ ∀ x, env.cells.lookup x ≠ some I := ⟨S₁.none_of hI, S₁.fresh_loc hI, S₁.fresh_cel hI⟩
  have outw : (∀ o, z₁ I ≠ some o) ∧ bs.get? I = none := by
    refine ⟨fun o e => (by rw [S₁.zk _ _ e] at hI; cases hI), ?_⟩
    cases q : bs.get? I with
    | none => rfl
    | some o => rw [(S₁.base _ _ q).1] at hI; cases hI
  refine for_sound (P := P) (bodyW := W F D M _) (fin := fun l H => W F D M _ l H P) (s₀ := s) (z₀ := z) (H := H) X hx (range_walk X.aok.hd n.toNat) (fun i h' st b' hb' => by rw [List.mem_singleton.mp hb']; exact ⟨_, st⟩) (ib.go X mok dok nok hC)
    (fun s' z' l' H' hf x S' => ir.go X mok dok nok hC S' hf Q E (kk.after S' x)) (fun v u s' z' l' H' hp x S' hv => kk (.ret v) (.ret u) _ _ _ _ hp x S' hv) (fun b' hb' => by rw [List.mem_singleton.mp hb']; exact fr0)
    _ 0 (by simp) S₂ (SX.of_px px₂) hit (fun b' hb' => by rw [List.mem_singleton.mp hb']; exact outI) (fun b' hb' => by rw [List.mem_singleton.mp hb']; exact outw) ?_ h.2
  rintro m v u hm ⟨tu, rfl⟩ z' hz'
  rw [List.getElem?_map] at hm
  obtain ⟨j, q1, rfl⟩ := Option.map_eq_some_iff.mp hm
  obtain ⟨q2, q3⟩ := List.getElem?_eq_some_iff.mp q1
  rw [List.getElem_range] at q3
  subst q3
  have : (0 + (((0 + m : Nat)) : Int)) = (m : Int) := by omega
  rw [this]
  exact .int _ _⟩
protected theorem IsS.forR {i a b c d r x y pa pb pc pd p q u v pr} (hx : nm[i]? = some x) (g : IsB K sc y (.type "range")) (ia : IsE K sc nm a pa) (ib : IsE K sc nm b pb) (ic : IsE K sc nm c pc) (id : IsS K C sc nm dm d pd) (ir : IsS K C sc nm dm r pr) : IsS K C sc nm dm (.forR i a b c d r) (.For (.Name x p) (.Call (.Name y u) [pa, pb, pc] [] v) pd [] q :: pr) := ⟨fun {prog w mg mb bs env F D M k A} X mok dok nok hC => by
  intro s z l H P S h Q E kk
  refine wpD_execs_cons (For_D (Call_N (Name_built X S.bsIn g (callW3 (bs := bs) ia.star ib.star ic.star (kp_type _) ((ia.sound X S h).on (.self S.zk) fun va ua s₁ z₁ h px hva => (ib.sound X (S.px px) h).go px fun vb ub s₂ z₂ h p px₂ hvb =>
    (ic.sound X (S.px px₂) h).go px₂ fun vc uc s₃ z₃ h p₃ px₃ hvc => ⟨(S.px px₃).bsIn, ?_⟩)))) (fun _ => rfl))
  obtain ⟨x, tx, rfl, h⟩ := intS_inv h ((hva.mono p.old).mono p₃.old)
  obtain ⟨y, ty, rfl, h⟩ := intS_inv h (hvb.mono p₃.old)
  obtain ⟨st, tst, rfl, hfin⟩ := intS_inv h hvc
  obtain ⟨⟨hx0, h0, h1, h2, h3⟩, hW⟩ := hfin
  rw [hx0]
  have S₃ := S.px px₃
  refine range3_go h0 h1 h2 h3 fun s₄ I kp hI hlt hit => ?_
  have px₄ := px₃.trans (.grow kp S₃.zk)
  have S₄ := S.px px₄
  have fr0 : s.heap.get? I = none := by
    cases q : s.heap.get? I with
    | none => rfl
    | some o => rw [Keeps.keep px₃.1 _ _ q] at hI; cases hI
  have outI : H I = none ∧ I ≠ env.locals ∧ ∀ x, env.cells.lookup x ≠ some I := ⟨S₃.none_of hI, S₃.fresh_loc hI, S₃.fresh_cel hI⟩
  have outw : (∀ o, z₃ I ≠ some o) ∧ bs.get? I = none := by
    refine ⟨fun o e => (by rw [S₃.zk _ _ e] at hI; cases hI), ?_⟩
    cases q : bs.get? I with
    | none => rfl
    | some o => rw [(S₃.base _ _ q).1] at hI; cases hI
  refine for_sound (P := P) (bodyW := W F D M _) (fin := fun l H => W F D M _ l H P) (s₀ := s) (z₀ := z) (H := H) X hx (Walks.range X.aok.hd I 0 st ((y + st - 1) / st).toNat) (fun i h' st' b' hb' => by rw [List.mem_singleton.mp hb']; exact ⟨_, st'⟩) (id.go X mok dok nok hC)
    (fun s' z' l' H' hf x S' => ir.go X mok dok nok hC S' hf Q E (kk.after S' x)) (fun v u s' z' l' H' hp x S' hv => kk (.ret v) (.ret u) _ _ _ _ hp x S' hv) (fun b' hb' => by rw [List.mem_singleton.mp hb']; exact fr0)
    _ 0 (by simp) S₄ (SX.of_px px₄) hit (fun b' hb' => by rw [List.mem_singleton.mp hb']; exact outI) (fun b' hb' => by rw [List.mem_singleton.mp hb']; exact outw) ?_ hW
  rintro m v u hm ⟨tu, rfl⟩ z' hz'
  rw [List.getElem?_map] at hm
  obtain ⟨j, q1, rfl⟩ := Option.map_eq_some_iff.mp hm
  obtain ⟨q2, q3⟩ := List.getElem?_eq_some_iff.mp q1
  rw [List.getElem_range] at q3
  subst q3
  have : (0 + (((0 + m : Nat)) : Int) * st) = (m : Int) * st := by simp
  rw [this]
  exact .int _ _⟩
protected theorem IsS.ret {e pe q pr} (ie : IsE K sc nm e pe) : IsS K C sc nm dm (.ret e) (.Return (some pe) q :: pr) := ⟨fun {prog w mg mb bs env F D M k A} X mok dok nok hC => by
  intro s z l H P S h Q E kk
  exact wpD_execs_cons (wpD_Return (wpD_of ((ie.sound X S h).on (.self S.zk) fun v u s' z' h px hv => kk (.ret v) (.ret u) _ _ _ _ h (SX.of_px px) (S.px px) hv)))⟩
protected theorem IsS.retl {x y p q pr} (hx : nm[x]? = some y) : IsS K C sc nm dm (.retl x) (.Return (some (.Name y p)) q :: pr) := ⟨fun {prog w mg mb bs env F D M k A} X mok dok nok hC => by
  intro s z l H P S h Q E kk
  obtain ⟨a, e1, h⟩ := ref_inv h
  obtain ⟨vs, e2, h⟩ := lstH_inv h
  refine wpD_execs_cons (wpD_Return (wpD_of (Name_obj X S hx e1 fun s₁ kp S₁ => ?_)))
  obtain ⟨z', S₂, x₂, hv⟩ := freeze S₁ e2
  exact kk (.ret _) (.ret _) _ _ _ _ h ((SX.of_px (.grow kp S.zk)).trans S₁ x₂) S₂ hv⟩
protected theorem IsS.ret2 {x e y pe p q k u pr} (hx : nm[x]? = some y) (ie : IsE K sc nm e pe) : IsS K C sc nm dm (.ret2 x e) (.Return (some (.Tuple [.Name y p, pe] k u)) q :: pr) := ⟨fun {prog w mg mb bs env F D M k A} X mok dok nok hC => by
  intro s z l H P S h Q E kk
  obtain ⟨a, e1, h⟩ := ref_inv h
  obtain ⟨vs, e2, h⟩ := lstH_inv h
  refine wpD_execs_cons (wpD_Return (wpD_of (Tuple_ (spl2 (fun _ _ => rfl) ie.star (Name_obj X S hx e1 fun s₁ kp S₁ => ?_)))))
  refine (ie.sound X S₁ h).on (.grow kp S.zk) fun v u s₂ z₂ h px hv => ?_
  have S₂ := S.px px
  obtain ⟨z', S₃, x₃, hl⟩ := freeze S₂ e2
  refine new_tup2 (P := fun v' => v' = .t2 (.lst vs) v) S₃.zk hl (hv.mono x₃.old) rfl _ _ fun v' u' s' z'' hv' px' hr => ?_
  subst hv'
  exact kk (.ret _) (.ret _) _ _ _ _ h (((SX.of_px px).trans S₂ x₃).trans S₃ (SX.of_px px')) (S₃.px px') hr⟩
protected theorem IsS.retd {f a b c e y pa pb pc pe p q u v pr} (hd : dm = true) (g : IsG K sc y (.ref f)) (hf : IsFn K f) (ia : IsE K sc nm a pa) (ib : IsE K sc nm b pb) (ic : IsE K sc nm c pc) (ie : IsE K sc nm e pe) : IsS K C sc nm dm (.retd f a b c e) (.Return (some (.Compare (.Call (.Name y p) [pa, pb, pc] [] u) [.Eq] [pe] v)) q :: pr) := ⟨fun {prog w mg mb bs env F D M k A} X mok dok nok hC => by
  subst hd
  intro s z l H P S h Q E kk
  refine wpD_execs_cons (wpD_Return (cmp_D (CallD_N (Name_glob X S.bsIn g (callD3 (bs := bs) ia.star ib.star ic.star (fn_kp X hf) ((ia.sound X S h).on (.self S.zk) fun va ua s₁ z₁ h px hva => (ib.sound X (S.px px) h).go px fun vb ub s₂ z₂ h p px₂ hvb =>
    (ic.sound X (S.px px₂) h).go px₂ fun vc uc s₃ z₃ h p₃ px₃ hvc => ⟨(S.px px₃).bsIn, ?_⟩)))) (ie.mark _)))
  refine dok _ _ _ h A s₃ z₃ _ X.aok (S.px px₃).bsIn px₃.zk (.cons ((hva.mono p.old).mono p₃.old) (.cons (hvb.mono p₃.old) (.cons hvc .nil))) _ _ fun v u s₄ z₄ h px' hv => ?_
  have px₄ := px₃.trans px'
  refine (ie.sound X (S.px px₄) h).go px₄ fun v2 u2 s₅ z₅ h p₅ px₅ hv2 => ?_
  refine (eqt_sound (P := fun v => v = .bool true) (by have := X.aok.un; omega) px₅.zk (hv.mono p₅.old) hv2 h.1 rfl).on px₅ fun v3 u3 s₆ z₆ h6 px₆ hv3 => ?_
  subst h6
  exact kk (.ret _) (.ret _) _ _ _ _ h.2 (SX.of_px px₆) (S.px px₆) hv3⟩
protected theorem IsS.exc {f x a r pa p q v pr} (g : IsG K sc x (.ref f)) (hf : IsFn K f) (ia : IsE K sc nm a pa) (ir : IsS K C sc nm dm r pr) : IsS K C sc nm dm (.exc f a r) (.Expr (.Call (.Name x p) [pa] [] q) v :: pr) := ⟨fun {prog w mg mb bs env F D M k A} X mok dok nok hC => by
  intro s z l H P S h Q E kk
  refine rest_D (Expr_D X (wpD_of (Call_N (Name_glob X S.bsIn g (callW1 (bs := bs) ia.star (fn_kp X hf) ((ia.sound X S h).on (.self S.zk) fun va ua s₁ z₁ h px hva => ⟨(S.px px).bsIn, (call_sound X (S.px px) h (.cons hva .nil)).on px fun v u s₂ z₂ h px₂ hv => ?_⟩))))) rfl)
  obtain ⟨rfl, h⟩ := h
  cases hv
  exact ⟨rfl, rfl, ir.go X mok dok nok hC (S.px px₂) h Q E (kk.after (S.px px₂) (SX.of_px px₂))⟩⟩
protected theorem IsS.setl {o f r y fn p q u w pr} (hx : nm[o]? = some y) (hf : fnm[f]? = some fn) (ir : IsS K C sc nm dm r pr) : IsS K C sc nm dm (.setl o f r) (.Assign [.Attribute (.Name y p) fn u] (.List [] w) q :: pr) := ⟨fun {prog w mg mb bs env F D M k A} X mok dok nok hC => by
  intro s z l H P S h Q E kk
  obtain ⟨a, e1, h⟩ := ref_inv h
  obtain ⟨dx, fs, e2, h⟩ := obH_inv h
  refine restA (plainObj_wpAny_Assign_Attribute (new_list0 S fun b s₁ hb x₁ S₁ => ?_) rfl)
  have hne : a ≠ b := fun q => by rw [q, hb] at e2; cases e2
  have e2' : up H b (.lst []) a = some (.ob dx fs) := by rw [up_ne hne]; exact e2
  refine Name_obj X S₁ hx e1 fun s₂ kp S₂ => ?_
  refine set_sound X.ck (getItem_in X S₂) S₂ hf e2' h.1 (.ref b) fun h' tk k1 S₃ => ⟨rfl, ?_⟩
  have hd := (S₂.trk _ _ e2').2.2.1
  have hx' : ∃ o, h'.get? dx = some o := by
    have := (S₃.trk _ _ up_self).2
    obtain ⟨_, _, es, n, q, _⟩ := this
    exact ⟨_, q⟩
  exact ir.go X mok dok nok hC (s := { s₂ with heap := h', toks := tk }) S₃ (h.2 b hb) Q E (kk.after (s₁ := { s₂ with heap := h', toks := tk }) S₃ ((x₁.trans S₁ (SX.of_px (.grow kp S₁.zk))).trans S₂ (SX.of_turnOb e2' hd k1 hx')))⟩
protected theorem IsS.cfil {i n x y r wn iv xs ys xr pn csc p p1 p2 p3 p4 p5 p6 p7 p8 p9 q q1 pr} (hx : nm[i]? = some wn) (hk : sc.names.lookup wn = some .local) (g : IsB K sc xr (.type "range")) (ie : IsE K sc nm n pn) (hxs : nm[x]? = some xs) (hys : nm[y]? = some ys) (kx : sc.names.lookup xs = some .cell) (ky : sc.names.lookup ys = some .cell) (csc' : CScope2 csc iv xs ys) (sw : Swaps sc (.ListComp (.Name iv p1) [⟨.Name iv p2, .Call (.Name xr p3) [pn] [] p4, [.Compare (.Subscript (.Name xs p5) (.Name iv p6) p7) [.Lt] [.Name ys p8] p9], 0⟩] csc q1) (.Name wn p) q) (ir : IsS K C sc nm dm r pr) : IsS K C sc nm dm (.cfil i n x y r) (.Assign [.Name wn p] (.ListComp (.Name iv p1) [⟨.Name iv p2, .Call (.Name xr p3) [pn] [] p4, [.Compare (.Subscript (.Name xs p5) (.Name iv p6) p7) [.Lt] [.Name ys p8] p9], 0⟩] csc q1) q :: pr) := ⟨fun {prog w mg mb bs env F D M k A} X mok dok nok hC => by
  intro s z l H P S h Q E kk
  obtain ⟨vx, hlx, h⟩ := locS_V h
  obtain ⟨cx, ux, hcx, hcvx, hvx⟩ := cell_of X S hxs kx hlx
  obtain ⟨ar, usr, nr, rs, rfl, er, rr', hbr, h⟩ := lst_at S hvx h
  obtain ⟨vy, hly, h⟩ := locS_V h
  obtain ⟨lim, rfl, h⟩ := intS_V h
  obtain ⟨cy, uy, hcy, hcvy, hvy⟩ := cell_of X S hys ky hly
  cases hvy
  rename_i ty
  obtain ⟨ks, hks, hP0⟩ := h
  subst hks
  obtain ⟨cl, hcl, clx, cly⟩ := csc'.free env cx cy hcx hcy
  refine restA (wpAny_Assign_ListComp_free (fun v => match v with | .int i _ => decide (ks.getD i.toNat 0 < lim) | _ => false) (fun v y => v = y) (sw env X.hsc) hcl csc'.nocell csc'.kind csc'.loc csc'.hi (by rw [X.kindOf]; exact hk) (by rw [X.ok.kind]; rfl) ?_)
  refine Call_N (Name_built X S.bsIn g (callW1 (bs := bs) ie.star (kp_type _) ((ie.sound X S hP0).on (.self S.zk) fun vn un s₁ z₁ h px hvn => ⟨(S.px px).bsIn, ?_⟩)))
  obtain ⟨n', t, rfl, h⟩ := intS_inv h hvn
  have S₁ := S.px px
  have hkl : ks.length ≤ 1000000 := by simpa using hbr
  have hrl := rr'.length
  refine range_go h.1.1 (by have := h.1.2; omega) fun s₂ I kp hI hlt hit => ?_
  obtain ⟨m, hm, hmr⟩ := S₁.loc
  have keep2 := Keeps.keep kp
  have nI : ∀ {b o}, s₁.heap.get? b = some o → b ≠ I := fun e q => by rw [q, hI] at e; cases e
  refine ⟨I, [I], [I], n'.toNat, _, _, m, rfl, (range_walk X.aok.hd n'.toNat).bound, by have := h.1.2; rw [sizeLine_eq]; omega, hit, fun b hb => by rw [List.mem_singleton.mp hb]; exact hlt, fun hb => S₁.fresh_loc hI (List.mem_singleton.mp hb).symm, hm.at' fun o e => keep2 _ _ e, ⟨?_, ?_⟩, ?_⟩
  · rintro Ca i' v s₃ m₃ E' _ ⟨hlt', ti, rfl⟩ hns hmx hkp _
    have keep3 : ∀ b o, s.heap.get? b = some o → s₃.heap.get? b = some o := fun b o e => by
      have e1 := Keeps.keep px.1 _ _ e
      exact hkp b o (by simpa using nI e1) (keep2 _ _ e1)
    have hik : i' < ks.length := Nat.lt_of_lt_of_le hlt' h.1.2
    obtain ⟨u', q1, q2⟩ := rr'.get (i := i') (v := .int ks[i']) (by rw [List.getElem?_map, List.getElem?_eq_getElem hik]; rfl)
    cases q2
    rename_i tu
    have hl3 : s₃.heap.IsList ar usr.toArray := ⟨_, keep3 _ _ er, rfl, _, rfl⟩
    obtain ⟨ocx, b1, b2⟩ := hcvx
    obtain ⟨ocy, b3, b4⟩ := hcvy
    rw [List.forIn_cons, if_pos rfl]
    refine wpAny_bind (wpAny_bind (wpAny_isTrue_Compare1 (Subscript_ (comp_cell csc'.kind csc'.hx csc'.dx X.ok.kind (by rw [X.kindOf]; exact kx) clx ⟨ocx, keep3 _ _ b1, b2⟩ (comp_local csc'.kind csc'.hi csc'.di hns hmx
      (tail_any hl3.typeIs slot_list_getitem.lookup (wpAny_getItem_list (x := .int ks[i'] tu) hl3 (by omega) (by omega) (by simpa using q1) (comp_cell csc'.kind csc'.hy csc'.dy X.ok.kind (by rw [X.kindOf]; exact ky) cly ⟨ocy, keep3 _ _ b3, b4⟩ (lt_int (wpAny_truthy_bool (wpAny_pure ?_))))) rfl)))) rfl))
    dsimp only
    rw [List.forIn_nil]
    refine wpAny_pure ⟨?_, Keeps.refl' _⟩
    have : (0 + (i' : Int)).toNat = i' := by omega
    simp only [this, List.getD_eq_getElem?_getD, List.getElem?_eq_getElem hik, Option.getD_some]
  · rintro Ca i' v s₃ m₃ E' _ ⟨hlt', ti, rfl⟩ _ hns hmx hkp _
    exact comp_local csc'.kind csc'.hi csc'.di hns hmx ⟨rfl, Keeps.refl' _⟩
  · intro D h' tk ys' vs hD _ hpl hlen hP hF hN hkp
    obtain ⟨cap, hpl⟩ := hpl
    refine ⟨rfl, ?_⟩
    have hys : vs.filter (fun v => match v with | .int i _ => decide (ks.getD i.toNat 0 < lim) | _ => false) = ys'.toList := paired_eq hF
    have hvr := rng_filter (z := fun a => if a = D then some (lisO ys' cap) else z₁ a) (fun i => decide (ks.getD i 0 < lim)) vs 0 (fun j v e => (hP j v e).2)
    have hD1 : s₁.heap.get? D = none := by
      cases q : s₁.heap.get? D with
      | none => rfl
      | some o => rw [keep2 _ _ q] at hD; cases hD
    have hlen2 : vs.length = n'.toNat := hlen
    rw [hlen2, ← List.range_eq_range', hys] at hvr
    have fl := frozen_loc (tk := tk) X S₁ hD1 hm hmr hN hpl (fun b o hb e => hkp b o hb (by simpa using nI e) (keep2 _ _ e)) hx (by rw [X.kindOf]; exact hk) (by
        rw [List.length_map]
        refine Nat.le_trans (List.length_filter_le _ _) ?_
        rw [List.length_range]; have := h.1.2; omega) hvr
    obtain ⟨h₂, t₂, rfl, _⟩ := kp
    exact ir.go X mok dok nok hC (s := { s₁ with heap := h', toks := tk }) fl.1 h.2 Q E (kk.after (s₁ := { s₁ with heap := h', toks := tk }) fl.1 ((SX.of_px px).trans S₁ fl.2))⟩
end Mine
end

section
set_option genInjectivity false
open PySem PySem.W PyProof.Rows PySem.Calls PySem.Builtin
set_option Elab.async false
set_option autoImplicit false
set_option maxRecDepth 100000
namespace Mine

structure FnAt (K : Frag) (f : Addr) (fd : FuncData) (body : List Stmt) : Prop where
  here : ∃ c od sl, K.lookup f = some ⟨c, od, .func fd, sl⟩
  code : codeIn K fd.code fd.qualname = true
  body : fd.body = .stmts body
  clo : fd.closure = []
  co : fd.scope.isCoroutine = false
  gen : fd.scope.isGenerator = false
  kind : fd.scope.kind = .function
  glob : fd.globals = mainGlobals
  built : fd.builtins = builtinsNs
structure ScOk (sc : Scope) (nm : List Str) : Prop where
  nd : nm.Nodup
  ok : ∀ x ∈ nm, (sc.names.lookup x = some .local ∨ sc.names.lookup x = some .cell) ∧ (x == ("__debug__" : Str)) = false
structure ArgOk (K : Frag) (fd : FuncData) (nm : List Str) (np : Nat) (ex : List (V × Value)) : Prop where
  bind : ∀ us : List Value, us.length = np → ∀ s : Shared, K.In s.heap → BindsTo s fd ⟨us, []⟩ (nm.zip (us ++ ex.map (·.2)))
  le : np + ex.length ≤ nm.length
  ex : ∀ z, VRs z (ex.map (·.1)) (ex.map (·.2))

noncomputable def argL (nm : List Str) (vs : List V) : Loc := vs.map some ++ List.replicate (nm.length - vs.length) none
theorem lget_get : ∀ (l : Loc) (i : Nat), lget l i = (l[i]?).getD none
  | [], _ => rfl
  | _ :: _, 0 => rfl
  | _ :: r, i + 1 => by simpa [lget] using lget_get r i
theorem argL_get {nm : List Str} {vs : List V} {i : Nat} {v : V} (h : lget (argL nm vs) i = some v) : vs[i]? = some v := by
  rw [lget_get] at h
  unfold argL at h
  rw [List.getElem?_append] at h
  split at h
  · rename_i hlt
    simp at hlt
    rw [List.getElem?_map] at h
    cases e : vs[i]? with
    | none => rw [e] at h; cases h
    | some w => rw [e] at h; simpa using h
  · cases e : (List.replicate (nm.length - vs.length) (none : Option V))[i - (vs.map some).length]? with
    | none => rw [e] at h; cases h
    | some w =>
      have := List.eq_of_mem_replicate (List.mem_of_getElem? e)
      subst this
      rw [e] at h; cases h

theorem bindL_out {kindOf : Str → Option NameKind} : ∀ (ns : List Str) (us : List Value) (m : Str → Option Value) (x : Str), x ∉ ns → bindL kindOf (ns.zip us) m x = m x
  | [], _, _, _, _ => rfl
  | _ :: _, [], _, _, _ => rfl
  | n :: ns, u :: us, m, x, h => by
    have h1 : x ≠ n := fun q => h (q ▸ List.mem_cons_self)
    have h2 : x ∉ ns := fun q => h (List.mem_cons_of_mem _ q)
    show bindL kindOf (ns.zip us) _ x = _
    rw [bindL_out ns us _ x h2]
    split
    · exact if_neg h1
    · rfl
theorem bindC_out {kindOf : Str → Option NameKind} : ∀ (ns : List Str) (us : List Value) (m : Str → Option Value) (x : Str), x ∉ ns → bindC kindOf (ns.zip us) m x = m x
  | [], _, _, _, _ => rfl
  | _ :: _, [], _, _, _ => rfl
  | n :: ns, u :: us, m, x, h => by
    have h1 : x ≠ n := fun q => h (q ▸ List.mem_cons_self)
    have h2 : x ∉ ns := fun q => h (List.mem_cons_of_mem _ q)
    show bindC kindOf (ns.zip us) _ x = _
    rw [bindC_out ns us _ x h2]
    split
    · rfl
    · exact if_neg h1
theorem bind_at {kindOf : Str → Option NameKind} : ∀ (ns : List Str) (us : List Value) (m cm : Str → Option Value), ns.Nodup → ∀ (i : Nat) x u, ns[i]? = some x → us[i]? = some u →
    (kindOf x = some .local → bindL kindOf (ns.zip us) m x = some u) ∧ (kindOf x ≠ some .local → bindC kindOf (ns.zip us) cm x = some u)
  | [], _, _, _, _, i, x, u, h, _ => by simp at h
  | _ :: _, [], _, _, _, i, x, u, _, h => by simp at h
  | n :: ns, u :: us, m, cm, hd, 0, x, u', h, h' => by
    simp at h h'
    subst h h'
    have hn := (List.nodup_cons.mp hd).1
    constructor
    · intro hk
      show bindL kindOf (ns.zip us) _ _ = _
      rw [bindL_out ns us _ _ hn, if_pos hk, if_pos rfl]
    · intro hk
      show bindC kindOf (ns.zip us) _ _ = _
      rw [bindC_out ns us _ _ hn, if_neg hk, if_pos rfl]
  | n :: ns, u :: us, m, cm, hd, i + 1, x, u', h, h' => bind_at ns us _ _ (List.nodup_cons.mp hd).2 i x u' (by simpa using h) (by simpa using h')

theorem cells_acc : ∀ (names : List (Str × NameKind)) (n : Nat) (acc : List (Str × Addr)) (x : Str), (acc.lookup x).isSome = true → ((cellsFrom n names acc).lookup x).isSome = true
  | [], _, _, _, h => h
  | (name, kind) :: r, n, acc, x, h => by
    unfold cellsFrom
    split
    · refine cells_acc r _ _ x ?_
      rw [List.lookup_cons]
      cases x == name <;> first | rfl | exact h
    · exact cells_acc r _ _ x h
theorem cells_some : ∀ (names : List (Str × NameKind)) (n : Nat) (acc : List (Str × Addr)) (x : Str), names.lookup x = some .cell → ((cellsFrom n names acc).lookup x).isSome = true
  | [], _, _, _, h => by cases h
  | (name, kind) :: r, n, acc, x, h => by
    rw [List.lookup_cons] at h
    unfold cellsFrom
    cases hx : x == name with
    | true =>
      rw [hx] at h
      cases h
      rw [if_pos (by decide)]
      refine cells_acc r _ _ x ?_
      rw [List.lookup_cons, hx]; rfl
    | false =>
      rw [hx] at h
      split
      · exact cells_some r _ _ x h
      · exact cells_some r _ _ x h

section
variable {prog : Program} {w : World} {K : Frag} {mg mb : Str → Option Value} {C : Addr} {bs : Heap} {nm : List Str} {F D : FT} {M : MTab} {k : Nat} {A : Around} {s : Shared} {z : FZ} {H : HM} {dm : Bool}

theorem func_D {body : List Stmt} {env : Env} {R : Result → Shared → Prop} (h : wpD dm (model prog w) (A.deeper env) (execs body env) (fun f s' => R (.ok (.ret (match f with | .ret v => v | _ => .none))) s') (fun _ _ => False) s) : codeD dm (model prog w) A (.func body env) R s := by
  refine codeD_of_tree (by cases dm <;> rfl) ?_
  show wpD _ _ (A.deeper env) (do point; match ← (execs body env).onRaise (leaving env) with | .ret v => ret v | _ => ret .none) _ _ s
  refine wpD_bind (wpD_point (wpD_bind (wpD_onRaise (wpD_mono h (fun f s' h' => ?_) fun _ _ h' => h'.elim))))
  cases f <;> exact wpD_pure h'

theorem call_fn {f : Addr} {fd : FuncData} {body : List Stmt} {us : List Value} {binds : List (Str × Value)} {R : Result → Shared → Prop} (Fn : FnAt K f fd body) (KX : K.In s.heap) (hroom : A.depth < recursionLimit) (hlim : s.heap.NoLimit)
    (hbind : BindsTo s fd ⟨us, []⟩ binds)
    (hkind : ∀ x ∈ binds, fd.scope.names.lookup x.1 = some .local ∨ (fd.scope.names.lookup x.1 = some .cell ∧ ((cellsFrom (s.heap.objs.size + 1) fd.scope.names []).lookup x.1).isSome = true))
    (h : ∀ s₁, InCallC s (callEnvC fd s.heap.objs.size f).locals (bindL (callEnvC fd s.heap.objs.size f).kindOf binds fun _ => none) (callEnvC fd s.heap.objs.size f).cells
        (bindC (callEnvC fd s.heap.objs.size f).kindOf binds fun _ => none) s₁ →
      wpD dm (model prog w) (A.deeper (callEnvC fd s.heap.objs.size f)) (execs body (callEnvC fd s.heap.objs.size f)) (fun f s' => R (.ok (.ret (match f with | .ret v => v | _ => .none))) s') (fun _ _ => False) s₁) :
    codeD dm (model prog w) A (.call (.ref f) ⟨us, []⟩) R s := by
  obtain ⟨c, od, sl, hk⟩ := Fn.here
  have ho := KX _ _ hk
  refine codeD_of_tree (by cases dm <;> rfl) (wpD_of ?_)
  show wpAny _ A.in1 (load f >>= _) _ _ s
  refine wpAny_bind (wpAny_load ho ?_)
  obtain ⟨c', oc, vs, tq, hc, hoc, hdc, hq⟩ := codeRec_of KX Fn.code
  show wpAny _ A.in1 (callFunction f fd ⟨us, []⟩) _ _ s
  unfold callFunction
  rw [Fn.co, Fn.gen, Fn.body, hc]
  refine wpAny_bind (m := field (.ref c') 1) (wpAny_field hoc hdc hq (wpAny_bind (wpAny_pure ?_)))
  refine wpAny_bind (hbind _ _ _ _ ?_)
  rw [Fn.clo]
  refine wpAny_bind (wpAny_newFunctionEnv_cells Fn.kind hkind fun env he s' x => ?_)
  rw [← hc] at he
  subst he
  exact wpAny_bind (wpAny_enterFrame (hlim.keeps x.toInCall.keep) hroom (wpAny_pure ⟨rfl, func_D (h s' x)⟩))
end
end Mine
end

section
set_option genInjectivity false
open PySem PySem.W PyProof.Rows PySem.Calls PySem.Builtin
set_option Elab.async false
set_option autoImplicit false
set_option maxRecDepth 100000
namespace Mine

theorem nodup_inj {α : Type} : ∀ {l : List α}, l.Nodup → ∀ {i j : Nat} (h1 : i < l.length) (h2 : j < l.length), l[i] = l[j] → i = j
  | [], _, _, _, h1, _, _ => absurd h1 (Nat.not_lt_zero _)
  | x :: l, hd, 0, 0, _, _, _ => rfl
  | x :: l, hd, 0, j + 1, _, h2, e => absurd (by rw [List.getElem_cons_zero, List.getElem_cons_succ] at e; rw [e]; exact List.getElem_mem _) (List.nodup_cons.mp hd).1
  | x :: l, hd, i + 1, 0, h1, _, e => absurd (by rw [List.getElem_cons_zero, List.getElem_cons_succ] at e; rw [← e]; exact List.getElem_mem _) (List.nodup_cons.mp hd).1
  | x :: l, hd, i + 1, j + 1, h1, h2, e => congrArg (· + 1) (nodup_inj (List.nodup_cons.mp hd).2 (by simpa using h1) (by simpa using h2) (by simpa using e))

theorem AOk.mono {k k' : Nat} {A : Around} (h : k ≤ k') (x : AOk k' A) : AOk k A := ⟨x.hd, by have := x.dp; omega, by have := x.un; omega⟩
theorem FOk.mono {prog : Program} {w : World} {bs : Heap} {F : FT} {k k' : Nat} (h : k ≤ k') (x : FOk prog w bs k F) : FOk prog w bs k' F := fun f vs P hf A s z us a => x f vs P hf A s z us (a.mono h)
theorem DcOk.mono {prog : Program} {w : World} {bs : Heap} {F : FT} {k k' : Nat} (h : k ≤ k') (x : DcOk prog w bs k F) : DcOk prog w bs k' F := fun f vs P hf A s z us a => x f vs P hf A s z us (a.mono h)
theorem MOk.mono {prog : Program} {w : World} {C : Addr} {bs : Heap} {M : MTab} {k k' : Nat} (h : k ≤ k') (x : MOk prog w C bs k M) : MOk prog w C bs k' M := fun m fs rs vs Kp hf A s z a dx rl us ao => x m fs rs vs Kp hf A s z a dx rl us (ao.mono h)
theorem NOk.mono {prog : Program} {w : World} {C : Addr} {bs : Heap} {k k' : Nat} (h : k ≤ k') (x : NOk prog w C bs k) : NOk prog w C bs k' := fun A s z d bl ch ud ub uc ao => x A s z d bl ch ud ub uc (ao.mono h)

noncomputable def plainV : V → Bool
  | .t2 _ _ => false
  | .t4 _ _ _ _ => false
  | .lst _ => false
  | _ => true
theorem VR.plain {z z' : FZ} {v : V} {u : Value} (h : VR z v u) (p : plainV v = true) : VR z' v u := by
  cases h with
  | none => exact .none
  | bool b => exact .bool b
  | int i t => exact .int i t
  | bytes b t => exact .bytes b t
  | str h => exact .str h
  | ref a => exact .ref a
  | t2 => cases p
  | t4 => cases p
  | lst => cases p
theorem ER.plain {z z' : FZ} {fs : Fs} {es : List DictEntry} (h : ER z fs es) : (fs.all fun p => plainV p.2) = true → ER z' fs es := by
  induction h with
  | nil => exact fun _ => .nil
  | cons a b _ ih => exact fun h => .cons a (b.plain (Bool.and_eq_true_iff.mp h).1) (ih (Bool.and_eq_true_iff.mp h).2)

/-- what stands around all calls -/
structure Wd (prog : Program) (w : World) (K : Frag) (mg mb : Str → Option Value) (C : Addr) (bs : Heap) : Prop where
  G : Gl K mg mb C bs
  ck : ClsOk K C
  kC : keepIn K (.ref C) = true

section
variable {prog : Program} {w : World} {K : Frag} {mg mb : Str → Option Value} {C : Addr} {bs : Heap} {nm : List Str} {F D : FT} {M : MTab} {k : Nat} {A : Around} {s : Shared} {z : FZ} {H : HM} {dm : Bool}

theorem fn_code {f : Addr} {fd : FuncData} {body : List Stmt} {np : Nat} {ex : List (V × Value)} {m : MS} {us : List Value} {vs : List V} {P : Out → Loc → HM → Prop} {E : Value → Shared → Prop} {Q : Value → Shared → Prop}
    (Y : Wd prog w K mg mb C bs) (Fn : FnAt K f fd body) (Sc : ScOk fd.scope nm) (Ar : ArgOk K fd nm np ex) (fok : FOk prog w bs k F) (mok : MOk prog w C bs k M) (dok : DcOk prog w bs k D) (nok : dm = true → NOk prog w C bs k)
    (is : IsS K C fd.scope nm dm m body) (ao : AOk (k + 1) A) (hb : BsIn bs s) (zk : ∀ a o, z a = some o → s.heap.get? a = some o) (hz : ∀ a o, z a = some o → H a = none) (hbH : ∀ b o, bs.get? b = some o → H b = none)
    (hH : ∀ a o, H a = some o → MR C z H s.heap a o) (hv : VRs z vs us) (hn : us.length = np) (h : W F D M m (argL nm (vs ++ ex.map (·.1))) H P)
    (kk : ∀ v u s' z' H' l' o, P o l' H' → (o = .ret v ∨ (o = .next ∧ v = .none)) → (∃ h t, s' = { s with heap := h, toks := t }) → (∀ b o, s.heap.get? b = some o → H b = none → s'.heap.get? b = some o) → (∀ a o, z a = some o → z' a = some o) →
      (∀ a o, z' a = some o → s'.heap.get? a = some o ∧ H' a = none ∧ (z a = some o ∨ s.heap.get? a = none ∨ ∃ mo, H a = some mo)) → (∀ a o, H' a = some o → MR C z' H' s'.heap a o) → (∀ b o, bs.get? b = some o → H' b = none) → (∀ b mo, H' b = some mo → (∃ mo', H b = some mo') ∨ s.heap.get? b = none) → VR z' v u → Q u s') :
    codeD dm (model prog w) A (.call (.ref f) ⟨us, []⟩) (fun r s' => match r with | .ok (.ret v) => Q v s' | .ok _ => False | .error e => E e s') s := by
  have KX : K.In s.heap := Y.G.X.keeps hb
  have hkd : ∀ i x, nm[i]? = some x → x ∈ nm := fun i x e => List.mem_of_getElem? e
  refine (call_fn Fn KX (by have := ao.dp; show A.depth < 1000; omega) (Y.G.lim.keeps hb) (Ar.bind us hn s KX) (fun x hx => ?_) fun s₁ ic => ?_)
  · have hm : x.1 ∈ nm := (List.of_mem_zip hx).1
    rcases (Sc.ok _ hm).1 with q | q
    · exact .inl q
    · exact .inr ⟨q, cells_some _ _ _ _ q⟩
  have hlen : us.length + ex.length ≤ nm.length := by rw [hn]; exact Ar.le
  let env := callEnvC fd s.heap.objs.size f
  have hk : ∀ x, env.kindOf x = fd.scope.names.lookup x := fun x => rfl
  have hL : env.locals = s.heap.objs.size := rfl
  obtain ⟨⟨hsame, hns, hkeep, _⟩, hcell, hapart, habove⟩ := ic
  have frL : s.heap.get? s.heap.objs.size = none := fresh_none (Nat.le_refl _)
  have frC : ∀ x c, env.cells.lookup x = some c → s.heap.get? c = none := fun x c e => fresh_none (Nat.le_of_lt (habove x c (mem_of_lookup e)))
  have Hnone : ∀ a, s.heap.get? a = none → H a = none := fun a ha => by
    cases q : H a with
    | none => rfl
    | some o => obtain ⟨ob, e⟩ := (hH a o q).ex; rw [ha] at e; cases e
  have bsnone : ∀ a, s.heap.get? a = none → bs.get? a = none := fun a ha => by
    cases q : bs.get? a with
    | none => rfl
    | some o => rw [hb _ _ q] at ha; cases ha
  have hvx : VRs z (vs ++ ex.map (·.1)) (us ++ ex.map (·.2)) := hv.append (Ar.ex z)
  have X : Cx prog w K mg mb C bs fd.scope nm env F k (A.deeper env) := {
    G := Y.G
    ck := Y.ck
    ok := ⟨Fn.kind, Fn.glob, Fn.built⟩
    hsc := rfl
    nmok := fun i x e => Sc.ok x (hkd i x e)
    inj := fun i j x e e' => by
      obtain ⟨h1, q1⟩ := List.getElem?_eq_some_iff.mp e
      obtain ⟨h2, q2⟩ := List.getElem?_eq_some_iff.mp e'
      exact nodup_inj Sc.nd h1 h2 (q1.trans q2.symm)
    cells := fun x e => Option.isSome_iff_exists.mp (cells_some _ _ _ _ e)
    fok := fok
    aok := ⟨ao.hd, by have := ao.dp; show A.depth + 1 + k < 900; omega, by have := ao.un; show A.units + 3 + 10 * k + 20 < cLine; omega⟩ }
  have S₁ : Sim C bs env nm z (argL nm (vs ++ ex.map (·.1))) H s₁.heap := {
    loc := ⟨_, hns, fun i v x e1 e2 e3 => by
      obtain ⟨u, q1, q2⟩ := hvx.get (argL_get e1)
      exact ⟨u, (bind_at (kindOf := env.kindOf) nm (us ++ ex.map (·.2)) (fun _ => none) (fun _ => none) Sc.nd i x u e2 q1).1 e3, q2⟩⟩
    cel := fun x c e => ⟨fun q => by have := habove x c (mem_of_lookup e); rw [q] at this; exact absurd this (Nat.lt_irrefl _), Hnone _ (frC x c e), bsnone _ (frC x c e), _, hcell x c e, fun i v e1 e2 e3 => by
      obtain ⟨u, q1, q2⟩ := hvx.get (argL_get e1)
      exact ⟨u, (bind_at (kindOf := env.kindOf) nm (us ++ ex.map (·.2)) (fun _ => none) (fun _ => none) Sc.nd i x u e2 q1).2 (by rw [e3]; decide), q2⟩⟩
    apart := fun x y c e e' => name_of_addr hapart (mem_of_lookup e) (mem_of_lookup e')
    trk := fun a o e => ⟨fun q => (by rw [q, hL, Hnone _ frL] at e; cases e), (hH a o e).keep (fun _ _ e => e) (hkeep a) fun dx _ => ⟨rfl, hkeep dx⟩⟩
    fz := fun a o e => ⟨hkeep _ _ (zk a o e), hz a o e, fun q => (by have := zk a o e; rw [q, hL, frL] at this; cases this), fun x q => (by have := zk a o e; rw [frC x a q] at this; cases this)⟩
    base := fun b o e => ⟨hkeep _ _ (hb b o e), hbH b o e⟩
    bl := bsnone _ frL }
  refine is.go X mok dok nok Y.kC S₁ h _ _ fun o f' s' z' l' H' hp x S' ho => ?_
  have out : ∀ v u, (o = .ret v ∨ (o = .next ∧ v = .none)) → VR z' v u → Q u s' := fun v u h1 h2 => by
    refine kk v u s' z' H' l' o hp h1 ?_ (fun b ob e hbn => ?_) x.old (fun a ob e => ?_) (fun a ob e => (S'.trk a ob e).2) (fun b ob e => (S'.base b ob e).2) (fun b mo e => ?_) h2
    · obtain ⟨h', t', rfl⟩ := x.sh
      obtain ⟨h'', t'', rfl⟩ := hsame
      exact ⟨_, _, rfl⟩
    · exact x.kp b ob (hkeep _ _ e) hbn (fun q => by rw [q, hL, frL] at e; cases e) fun y q => by rw [frC y b q] at e; cases e
    · obtain ⟨q1, q2, _⟩ := S'.fz a ob e
      refine ⟨q1, q2, ?_⟩
      rcases x.new a ob e with q | q | q
      · exact .inl q
      · right; left
        cases q' : s.heap.get? a with
        | none => rfl
        | some o' => rw [hkeep _ _ q'] at q; cases q
      · exact .inr (.inr q)
    · rcases x.trk b mo e with q | q
      · exact .inl q
      · right
        cases q' : s.heap.get? b with
        | none => rfl
        | some o' => rw [hkeep _ _ q'] at q; cases q
  cases o with
  | next => cases f' <;> (try exact ho.elim); exact out .none .none (.inr ⟨rfl, rfl⟩) .none
  | ret v => cases f' <;> (try exact ho.elim); exact out v _ (.inl rfl) ho
theorem fn_sound {f : Addr} {fd : FuncData} {body : List Stmt} {np : Nat} {ex : List (V × Value)} {m : MS} {us : List Value} {vs : List V} {P : Out → Loc → HM → Prop} {E : Value → Shared → Prop} {Q : Value → Shared → Prop}
    (Y : Wd prog w K mg mb C bs) (Fn : FnAt K f fd body) (Sc : ScOk fd.scope nm) (Ar : ArgOk K fd nm np ex) (fok : FOk prog w bs k F) (mok : MOk prog w C bs k M) (dok : DcOk prog w bs k D) (nok : dm = true → NOk prog w C bs k)
    (is : IsS K C fd.scope nm dm m body) (ao : AOk (k + 1) A) (hb : BsIn bs s) (zk : ∀ a o, z a = some o → s.heap.get? a = some o) (hz : ∀ a o, z a = some o → H a = none) (hbH : ∀ b o, bs.get? b = some o → H b = none)
    (hH : ∀ a o, H a = some o → MR C z H s.heap a o) (hv : VRs z vs us) (hn : us.length = np) (h : W F D M m (argL nm (vs ++ ex.map (·.1))) H P)
    (kk : ∀ v u s' z' H' l' o, P o l' H' → (o = .ret v ∨ (o = .next ∧ v = .none)) → (∃ h t, s' = { s with heap := h, toks := t }) → (∀ b o, s.heap.get? b = some o → H b = none → s'.heap.get? b = some o) → (∀ a o, z a = some o → z' a = some o) →
      (∀ a o, z' a = some o → s'.heap.get? a = some o ∧ H' a = none ∧ (z a = some o ∨ s.heap.get? a = none ∨ ∃ mo, H a = some mo)) → (∀ a o, H' a = some o → MR C z' H' s'.heap a o) → (∀ b o, bs.get? b = some o → H' b = none) → VR z' v u → Q u s') :
    wpD dm (model prog w) A (call (.ref f) us) Q E s :=
  wpD_call (fn_code Y Fn Sc Ar fok mok dok nok is ao hb zk hz hbH hH hv hn h fun v u s' z' H' l' o a b c d e f g i _ j => kk v u s' z' H' l' o a b c d e f g i j)

noncomputable def InitOut (a dx : Nat) (d : List UInt8) (bl ch : Int) (o : Out) (_ : Loc) (H : HM) : Prop := (o = .next ∨ o = .ret .none) ∧ ∃ rl, H a = some (.ob dx (initFs d bl ch rl)) ∧ H dx = some (.hid a) ∧ H rl = some (.lst []) ∧ rl ≠ a ∧ rl ≠ dx
theorem NOk.of {fI : Addr} {fd : FuncData} {body : List Stmt} {m : MS} (Y : Wd prog w K mg mb C bs) (hm : makesIn K C = true) (hi : findIn K (.ref C) "__init__" = some (some (.ref fI))) (hf : typeIn K (.ref fI) = some (.type "function"))
    (Fn : FnAt K fI fd body) (Sc : ScOk fd.scope nm) (Ar : ArgOk K fd nm 4 []) (is : IsS K C fd.scope nm false m body) (fok : FOk prog w bs k F)
    (hW : ∀ a dx d bl ch, a ≠ dx → 8 ≤ bl → bl ≤ 65542 → (ch = 1 ∨ ch = 2) → W F (fun _ _ _ => False) (fun _ _ _ _ _ => False) m (argL nm [.ref a, .bytes d, .int bl, .int ch]) (up (up (fun _ => none) dx (.hid a)) a (.ob dx [])) (InitOut a dx d bl ch)) : NOk prog w C bs (k + 2) := by
  intro A s z d bl ch ud ub uc ao hb zk hd hbl hch b1 b2 b3 Q E kk
  refine wpD_of (wpAny_call ?_)
  have KX : K.In s.heap := Y.G.X.keeps hb
  obtain ⟨hh, g, dr, t, os⟩ := s
  refine make_core (makes_of KX hm) (looks_findIn KX hi) (fun self => bind_fn KX self hf) (.inl rfl) ?_
  have f0 : hh.get? hh.objs.size = none := fresh_none (Nat.le_refl _)
  have f1 : hh.get? (hh.objs.size + 1) = none := fresh_none (Nat.le_succ _)
  have kp : ∀ b o, hh.get? b = some o → ((hh.push emptyDict).push (instObj C hh.objs.size)).get? b = some o := fun b o e => Heap.get?_push_of_some _ (Heap.get?_push_of_some _ e)
  have hx : ((hh.push emptyDict).push (instObj C hh.objs.size)).get? (hh.objs.size + 1) = some (instObj C hh.objs.size) := by
    have : ((hh.push emptyDict).push (instObj C hh.objs.size)).get? (hh.push emptyDict).objs.size = some (instObj C hh.objs.size) := Heap.get?_push_size _ rfl
    rwa [Heap.size_push] at this
  have hdx : ((hh.push emptyDict).push (instObj C hh.objs.size)).get? hh.objs.size = some emptyDict := Heap.get?_push_of_some _ (Heap.get?_push_size _ rfl)
  have hne : hh.objs.size + 1 ≠ hh.objs.size := Nat.succ_ne_self _
  have Hin : ∀ b mo, up (up (fun _ => none) hh.objs.size (.hid (hh.objs.size + 1))) (hh.objs.size + 1) (.ob hh.objs.size []) b = some mo → b = hh.objs.size + 1 ∨ b = hh.objs.size := fun b mo e => by
    by_cases q : b = hh.objs.size + 1
    · exact .inl q
    rw [up_ne q] at e
    by_cases q' : b = hh.objs.size
    · exact .inr q'
    rw [up_ne q'] at e; cases e
  have Hno : ∀ b o, hh.get? b = some o → up (up (fun _ => none) hh.objs.size (.hid (hh.objs.size + 1))) (hh.objs.size + 1) (.ob hh.objs.size []) b = none := fun b o e => by
    cases q : up (up (fun _ => none) hh.objs.size (MO.hid (hh.objs.size + 1))) (hh.objs.size + 1) (.ob hh.objs.size []) b with
    | none => rfl
    | some mo =>
      rcases Hin b mo q with rfl | rfl
      · rw [f1] at e; cases e
      · rw [f0] at e; cases e
  have ao' : AOk (k + 1) (A.under (.builtin "type.__call__" ⟨.ref C :: [ud, ub, uc], []⟩)) := by
    have hw : (Code.builtin "type.__call__" ⟨.ref C :: [ud, ub, uc], []⟩).weight = 1 := rfl
    have hu : (Code.builtin "type.__call__" ⟨.ref C :: [ud, ub, uc], []⟩).cUnits = 1 := rfl
    refine ⟨ao.hd, ?_, ?_⟩
    · show A.depth + (Code.builtin "type.__call__" ⟨.ref C :: [ud, ub, uc], []⟩).weight + (k + 1) < 900
      rw [hw]; have := ao.dp; omega
    · show A.units + (Code.builtin "type.__call__" ⟨.ref C :: [ud, ub, uc], []⟩).cUnits + 10 * (k + 1) + 20 < cLine
      rw [hu]; have := ao.un; omega
  have main := fn_code (A := A.under (.builtin "type.__call__" ⟨.ref C :: [ud, ub, uc], []⟩)) (s := ⟨(hh.push emptyDict).push (instObj C hh.objs.size), g, dr, t, os⟩) (E := fun _ _ => False) (Q := fun v s' => v = .none ∧ Q (.ref (hh.objs.size + 1)) s')
    (us := [.ref (hh.objs.size + 1), ud, ub, uc]) (vs := [.ref (hh.objs.size + 1), .bytes d, .int bl, .int ch]) (M := fun _ _ _ _ _ => False) (D := fun _ _ _ => False) Y Fn Sc Ar fok (fun _ _ _ _ _ h => h.elim) (fun _ _ _ h => h.elim) (fun e => by cases e) is ao' (fun b o e => kp b o (hb b o e)) (fun a o e => kp a o (zk a o e)) (fun a o e => Hno a o (zk a o e)) (fun b o e => Hno b o (hb b o e))
    (fun b mo e => ?_) (.cons (.ref _) (.cons hd (.cons hbl (.cons hch .nil)))) rfl (hW _ _ d bl ch hne b1 b2 b3) ?_
  · refine codeAny_mono (codeAny_of_D main) fun r s' hr => ?_
    match r, hr with
    | .ok (.ret v), hr => exact hr
    | .error e, hr => exact hr.elim
  · rcases Hin b mo e with rfl | rfl
    · rw [up_self] at e; cases e
      exact ⟨hx, by rw [up_ne (Ne.symm hne), up_self], [], 0, hdx, by decide, .nil⟩
    · rw [up_ne (Ne.symm hne), up_self] at e; cases e
      exact ⟨_, hdx⟩
  · intro v u s' z' H' l' o hp ho hs hk hold hnew htrk hbs htr hvu
    obtain ⟨ho', rl, h1, h2, h3, n1, n2⟩ := hp
    have hv : v = .none := by
      rcases ho with rfl | ⟨rfl, rfl⟩
      · rcases ho' with q | q
        · cases q
        · cases q; rfl
      · rfl
    subst hv
    cases hvu
    refine ⟨rfl, ?_⟩
    obtain ⟨e1, _, es, n, e2, e3, e4⟩ := htrk _ _ h1
    obtain ⟨us, n', e5, e6, _⟩ := htrk _ _ h3
    cases e6
    have frl : hh.get? rl = none := by
      rcases htr rl _ h3 with ⟨mo, q⟩ | q
      · rcases Hin rl mo q with q | q
        · exact absurd q n1
        · exact absurd q n2
      · cases q' : hh.get? rl with
        | none => rfl
        | some o' =>
          have q2 : ((hh.push emptyDict).push (instObj C hh.objs.size)).get? rl = none := q
          rw [kp _ _ q'] at q2; cases q2
    obtain ⟨h', t', rfl⟩ := hs
    exact kk _ _ rl _ f1 f0 frl hne (Ne.symm n1) (Ne.symm n2) ⟨h', t', rfl, fun b o e => hk b o (kp b o e) (Hno b o e)⟩ e1 ⟨es, n, e2, e3, e4.plain rfl⟩ ⟨n', e5⟩
end
end Mine
end

section
set_option genInjectivity false
open PySem PySem.W PyProof.Rows PySem.Calls PySem.Builtin
set_option Elab.async false
set_option autoImplicit false
set_option maxRecDepth 100000
namespace Mine

noncomputable def noF : FT := fun _ _ _ => False
noncomputable def noM : MTab := fun _ _ _ _ _ => False
noncomputable def noH : HM := fun _ => none
noncomputable def OutV (P : V → Prop) : Out → Loc → HM → Prop
  | .ret v, _, _ => P v
  | .next, _, _ => P .none
noncomputable def addF (F : FT) (f np : Nat) (nm : List Str) (ex : List (V × Value)) (m : MS) : FT := fun g vs P => F g vs P ∨ (g = f ∧ vs.length = np ∧ W F noF noM m (argL nm (vs ++ ex.map (·.1))) noH (OutV P))
noncomputable def addD (F D : FT) (M : MTab) (f np : Nat) (nm : List Str) (m : MS) : FT := fun g vs P => D g vs P ∨ (g = f ∧ vs.length = np ∧ W F D M m (argL nm vs) noH (OutV P))
noncomputable def rdH (a dx rl : Nat) (fs : Fs) (rs : List V) : HM := up (up (up noH rl (.lst rs)) dx (.hid a)) a (.ob dx fs)
noncomputable def OutM (a dx rl : Nat) (Kp : V → Fs → List V → Prop) (o : Out) (_ : Loc) (H : HM) : Prop := ∃ v fs rs, (o = .ret v ∨ (o = .next ∧ v = .none)) ∧ H a = some (.ob dx fs) ∧ H dx = some (.hid a) ∧ fget fs 7 = some (.ref rl) ∧ H rl = some (.lst rs) ∧ Kp v fs rs
noncomputable def addM (F D : FT) (M : MTab) (f np : Nat) (nm : List Str) (m : MS) : MTab := fun g fs rs vs Kp => M g fs rs vs Kp ∨ (g = f ∧ vs.length = np ∧ ∀ a dx rl, a ≠ dx → a ≠ rl → dx ≠ rl → fget fs 7 = some (.ref rl) → W F D M m (argL nm (.ref a :: vs)) (rdH a dx rl fs rs) (OutM a dx rl Kp))

section
variable {prog : Program} {w : World} {K : Frag} {mg mb : Str → Option Value} {C : Addr} {bs : Heap} {nm : List Str} {F D : FT} {M : MTab} {k : Nat} {A : Around} {s : Shared} {z : FZ} {H : HM} {dm : Bool}

theorem FOk.zero : FOk prog w bs k noF := fun _ _ _ h => h.elim
theorem DcOk.zero : DcOk prog w bs k noF := fun _ _ _ h => h.elim
theorem MOk.zero : MOk prog w C bs k noM := fun _ _ _ _ _ h => h.elim

theorem outV_inv {P : V → Prop} {o : Out} {l : Loc} {H : HM} {v : V} (h : OutV P o l H) (e : o = .ret v ∨ (o = .next ∧ v = .none)) : P v := by
  rcases e with rfl | ⟨rfl, rfl⟩ <;> exact h

theorem FOk.add {f : Addr} {fd : FuncData} {body : List Stmt} {np : Nat} {ex : List (V × Value)} {m : MS} (Y : Wd prog w K mg mb C bs) (Fn : FnAt K f fd body) (Sc : ScOk fd.scope nm) (Ar : ArgOk K fd nm np ex)
    (is : IsS K C fd.scope nm false m body) (fok : FOk prog w bs k F) : FOk prog w bs (k + 1) (addF F f np nm ex m) := by
  intro g vs P h A s z us ao hb zk hv
  rcases h with h | ⟨rfl, hn, h⟩
  · exact fok g vs P h A s z us (ao.mono (Nat.le_succ k)) hb zk hv
  intro Q E kk
  refine any_of_D (fn_sound (H := noH) Y Fn Sc Ar fok MOk.zero DcOk.zero (fun e => by cases e) is ao hb zk (fun _ _ _ => rfl) (fun _ _ _ => rfl) (fun _ _ e => by cases e) hv (by rw [← hv.length]; exact hn) h ?_)
  intro v u s' z' H' l' o hp ho hs hk hold hnew _ _ hvu
  refine kk v u s' z' (outV_inv hp ho) ⟨?_, hold, fun a o e => ?_⟩ hvu
  · obtain ⟨h', t', rfl⟩ := hs
    exact ⟨h', t', rfl, fun b o e => hk b o e rfl⟩
  · obtain ⟨q1, _, q3⟩ := hnew a o e
    rcases q3 with q | q | ⟨mo, q⟩
    · exact ⟨q1, .inl q⟩
    · exact ⟨q1, .inr q⟩
    · cases q

theorem DcOk.add {f : Addr} {fd : FuncData} {body : List Stmt} {np : Nat} {m : MS} (Y : Wd prog w K mg mb C bs) (Fn : FnAt K f fd body) (Sc : ScOk fd.scope nm) (Ar : ArgOk K fd nm np [])
    (is : IsS K C fd.scope nm true m body) (fok : FOk prog w bs k F) (mok : MOk prog w C bs k M) (nok : NOk prog w C bs k) (dok : DcOk prog w bs k D) : DcOk prog w bs (k + 1) (addD F D M f np nm m) := by
  intro g vs P h A s z us ao hb zk hv Q E kk
  rcases h with h | ⟨rfl, hn, h⟩
  · exact dok g vs P h A s z us (ao.mono (Nat.le_succ k)) hb zk hv Q E kk
  refine fn_sound (H := noH) Y Fn Sc Ar fok mok dok (fun _ => nok) is ao hb zk (fun _ _ _ => rfl) (fun _ _ _ => rfl) (fun _ _ e => by cases e) hv (by rw [← hv.length]; exact hn) (by simpa using h) ?_
  intro v u s' z' H' l' o hp ho hs hk hold hnew _ _ hvu
  refine kk v u s' z' (outV_inv hp ho) ⟨?_, hold, fun a o e => ?_⟩ hvu
  · obtain ⟨h', t', rfl⟩ := hs
    exact ⟨h', t', rfl, fun b o e => hk b o e rfl⟩
  · obtain ⟨q1, _, q3⟩ := hnew a o e
    rcases q3 with q | q | ⟨mo, q⟩
    · exact ⟨q1, .inl q⟩
    · exact ⟨q1, .inr q⟩
    · cases q

theorem MOk.add {f : Addr} {fd : FuncData} {body : List Stmt} {np : Nat} {m : MS} (Y : Wd prog w K mg mb C bs) (Fn : FnAt K f fd body) (Sc : ScOk fd.scope nm) (Ar : ArgOk K fd nm (np + 1) [])
    (is : IsS K C fd.scope nm true m body) (fok : FOk prog w bs k F) (nok : NOk prog w C bs k) (dok : DcOk prog w bs k D) (mok : MOk prog w C bs k M) : MOk prog w C bs (k + 1) (addM F D M f np nm m) := by
  intro g fs rs vs Kp h A s z a dx rl us ao hb zk R hv Q E kk
  rcases h with h | ⟨rfl, hn, h⟩
  · exact mok g fs rs vs Kp h A s z a dx rl us (ao.mono (Nat.le_succ k)) hb zk R hv Q E kk
  obtain ⟨es, n, d1, d2, d3⟩ := R.dc
  obtain ⟨ls, n', l1, l2, l3⟩ := R.li
  have n1 : a ≠ dx := fun q => by
    have := R.ob
    rw [q, d1] at this
    have := congrArg Obj.cls (Option.some.inj this)
    cases this
  have n2 : a ≠ rl := fun q => by have := R.ob; rw [q, l1] at this; cases this
  have n3 : dx ≠ rl := fun q => by
    rw [q, l1] at d1
    have := congrArg Obj.cls (Option.some.inj d1)
    exact absurd (Value.type.inj this) (by decide)
  have Ha : rdH a dx rl fs rs a = some (.ob dx fs) := up_self
  have Hd : rdH a dx rl fs rs dx = some (.hid a) := by unfold rdH; rw [up_ne (Ne.symm n1), up_self]
  have Hl : rdH a dx rl fs rs rl = some (.lst rs) := by unfold rdH; rw [up_ne (Ne.symm n2), up_ne (Ne.symm n3), up_self]
  have Ho : ∀ b, b ≠ a → b ≠ dx → b ≠ rl → rdH a dx rl fs rs b = none := fun b b1 b2 b3 => by unfold rdH; rw [up_ne b1, up_ne b2, up_ne b3]; rfl
  have Hin : ∀ b mo, rdH a dx rl fs rs b = some mo → b = a ∨ b = dx ∨ b = rl := fun b mo e => by
    by_cases b1 : b = a
    · exact .inl b1
    by_cases b2 : b = dx
    · exact .inr (.inl b2)
    by_cases b3 : b = rl
    · exact .inr (.inr b3)
    rw [Ho b b1 b2 b3] at e; cases e
  refine fn_sound (H := rdH a dx rl fs rs) (us := .ref a :: us) (vs := .ref a :: vs) Y Fn Sc Ar fok mok dok (fun _ => nok) is ao hb zk (fun b o e => ?_) (fun b o e => ?_) (fun b mo e => ?_) (.cons (.ref a) hv) (by simp [← hv.length, hn]) (by simpa using h a dx rl n1 n2 n3 R.rf) ?_
  · exact Ho b (fun q => (R.fr b (.inl q)).1 o e) (fun q => (R.fr b (.inr (.inl q))).1 o e) (fun q => (R.fr b (.inr (.inr q))).1 o e)
  · exact Ho b (fun q => by rw [(R.fr b (.inl q)).2] at e; cases e) (fun q => by rw [(R.fr b (.inr (.inl q))).2] at e; cases e) (fun q => by rw [(R.fr b (.inr (.inr q))).2] at e; cases e)
  · rcases Hin b mo e with rfl | rfl | rfl
    · rw [Ha] at e; cases e
      exact ⟨R.ob, Hd, es, n, d1, d2, d3⟩
    · rw [Hd] at e; cases e
      exact ⟨_, d1⟩
    · rw [Hl] at e; cases e
      exact ⟨ls, n', l1, l2, l3⟩
  intro v u s' z' H' l' o hp ho hs hk hold hnew htrk hbs hvu
  obtain ⟨v', fs', rs', ho', h1, h2, h3, h4, hK⟩ := hp
  have hvv : v = v' := by
    rcases ho with rfl | ⟨rfl, rfl⟩ <;> rcases ho' with q | ⟨q, q'⟩ <;> first | exact q'.symm | (cases q; rfl) | (cases q)
  subst hvv
  have t1 := htrk _ _ h1
  have t3 := htrk _ _ h4
  obtain ⟨e1, _, es', n'', e2, e3, e4⟩ := t1
  have inH : ∀ x, x = a ∨ x = dx ∨ x = rl → ∃ mo, H' x = some mo := fun x hx => by rcases hx with rfl | rfl | rfl <;> exact ⟨_, by assumption⟩
  have nz : ∀ x, x = a ∨ x = dx ∨ x = rl → ∀ o, z' x ≠ some o := fun x hx o e => by
    obtain ⟨mo, q⟩ := inH x hx
    rw [(hnew x o e).2.1] at q; cases q
  refine kk v fs' rs' u s' z' hK ⟨e1, ⟨es', n'', e2, e3, e4⟩, h3, t3, fun x hx => ⟨nz x hx, ?_⟩⟩ ⟨hs, fun b ob b1 b2 e => ?_, hold, fun b ob e => ?_⟩ hvu
  · cases q : bs.get? x with
    | none => rfl
    | some o => obtain ⟨mo, q'⟩ := inH x hx; rw [hbs x o q] at q'; cases q'
  · by_cases b3 : b = a
    · subst b3; rw [R.ob] at e; cases e; exact e1
    · exact hk b ob e (Ho b b3 b1 b2)
  · obtain ⟨q1, _, q3⟩ := hnew b ob e
    rcases q3 with q | q | ⟨mo, q⟩
    · exact ⟨q1, .inl q⟩
    · exact ⟨q1, .inr q⟩
    · exact absurd e (nz b (Hin b mo q) ob)
end
end Mine
end

section
set_option genInjectivity false
open PySem PySem.W PyProof.Rows PySem.Calls PySem.Builtin
set_option Elab.async false
set_option autoImplicit false
set_option maxRecDepth 100000
namespace Mine

theorem len2 {us : List Value} (h : us.length = 2) : ∃ u v, us = [u, v] := by
  cases us with
  | nil => cases h
  | cons u us => obtain ⟨v, rfl⟩ := List.length_eq_one_iff.mp (Nat.succ.inj h); exact ⟨u, v, rfl⟩
theorem len3 {us : List Value} (h : us.length = 3) : ∃ u v w, us = [u, v, w] := by
  cases us with
  | nil => cases h
  | cons u us => obtain ⟨v, w, rfl⟩ := len2 (Nat.succ.inj h); exact ⟨u, v, w, rfl⟩
theorem len4 {us : List Value} (h : us.length = 4) : ∃ u v w w', us = [u, v, w, w'] := by
  cases us with
  | nil => cases h
  | cons u us => obtain ⟨v, w, w', rfl⟩ := len3 (Nat.succ.inj h); exact ⟨u, v, w, w', rfl⟩
section
variable {K : Frag} {fd : FuncData}
theorem ArgOk.of0 {nm : List Str} (h : bindArgs fd ⟨[], []⟩ = pure []) : ArgOk K fd nm 0 [] where
  bind us hn s _ := by
    match us, hn with
    | [], _ => rw [List.map_nil, List.append_nil, List.zip_nil_right]; exact BindsTo.of_eq h
  le := Nat.zero_le _
  ex _ := .nil
theorem ArgOk.of1 {x : Str} {r : List Str} (h : ∀ u, bindArgs fd ⟨[u], []⟩ = pure [(x, u)]) : ArgOk K fd (x :: r) 1 [] where
  bind us hn s _ := by
    obtain ⟨u, rfl⟩ := List.length_eq_one_iff.mp hn
    exact BindsTo.of_eq (by rw [h u]; exact congrArg (fun l => pure (_ :: l)) List.zip_nil_right.symm)
  le := by simp
  ex _ := .nil
theorem ArgOk.of2 {x y : Str} {r : List Str} (h : ∀ u v, bindArgs fd ⟨[u, v], []⟩ = pure [(x, u), (y, v)]) : ArgOk K fd (x :: y :: r) 2 [] where
  bind us hn s _ := by
    obtain ⟨u, v, rfl⟩ := len2 hn
    exact BindsTo.of_eq (by rw [h u v]; exact congrArg (fun l => pure (_ :: _ :: l)) List.zip_nil_right.symm)
  le := by simp
  ex _ := .nil
theorem ArgOk.of3 {x y q : Str} {r : List Str} (h : ∀ u v w, bindArgs fd ⟨[u, v, w], []⟩ = pure [(x, u), (y, v), (q, w)]) : ArgOk K fd (x :: y :: q :: r) 3 [] where
  bind us hn s _ := by
    obtain ⟨u, v, w, rfl⟩ := len3 hn
    exact BindsTo.of_eq (by rw [h u v w]; exact congrArg (fun l => pure (_ :: _ :: _ :: l)) List.zip_nil_right.symm)
  le := by simp
  ex _ := .nil
theorem ArgOk.of4 {x y q q' : Str} {r : List Str} (h : ∀ u v w w', bindArgs fd ⟨[u, v, w, w'], []⟩ = pure [(x, u), (y, v), (q, w), (q', w')]) : ArgOk K fd (x :: y :: q :: q' :: r) 4 [] where
  bind us hn s _ := by
    obtain ⟨u, v, w, w', rfl⟩ := len4 hn
    exact BindsTo.of_eq (by rw [h u v w w']; exact congrArg (fun l => pure (_ :: _ :: _ :: _ :: l)) List.zip_nil_right.symm)
  le := by simp
  ex _ := .nil
/-- one argument given, a whole number by default behind -/
theorem ArgOk.ofD {x y : Str} {r : List Str} {T : Addr} {i : Int} {t : Tok} {n : Nat} (hd : fd.defaults = .ref T) (hT : ∃ c od sl, K.lookup T = some ⟨c, od, .seq #[.int i t] n, sl⟩)
    (h : ∀ u, ∃ kf : Option (Array Value) → Sem (List (Str × Value)), bindArgs fd ⟨[u], []⟩ = seqItems? fd.defaults >>= kf ∧ kf (some #[.int i t]) = pure [(x, u), (y, .int i t)]) : ArgOk K fd (x :: y :: r) 1 [(.int i, .int i t)] where
  bind us hn s X := by
    obtain ⟨c, od, sl, e⟩ := hT
    match us, hn with
    | [u], _ =>
      obtain ⟨kf, h₁, h₂⟩ := h u
      exact BindsTo.of_defaults (T := T) hd (X _ _ e) rfl h₁ (by rw [h₂]; simp)
  le := by simp
  ex _ := .cons (.int _ _) .nil
theorem ScOk.of {sc : Scope} {nm : List Str} (h : (nm.all fun x => (sc.names.lookup x == some .local || sc.names.lookup x == some .cell) && !(x == ("__debug__" : Str))) = true) (hn : nm.Nodup) : ScOk sc nm := by
  refine ⟨hn, fun x hx => ?_⟩
  have := List.all_eq_true.mp h x hx
  simp only [Bool.and_eq_true, Bool.or_eq_true, beq_iff_eq, Bool.not_eq_true'] at this
  exact this
theorem IsMeth.of {C : Addr} {mn : Str} {m : Addr} (h1 : findIn K (.ref C) mn = some (some (.ref m))) (h2 : typeIn K (.ref m) = some (.type "function")) (h3 : (fnm.all fun x => !(x == mn)) = true) (h4 : IsFn K m) : IsMeth K C mn m := by
  refine ⟨h1, h2, fun x hx => ?_, h4⟩
  have := List.all_eq_true.mp h3 x hx
  simpa using this
theorem CScope.of {sc : Scope} {j y : Str} (hk : sc.kind = .function) (hn : sc.names = [((".0" : Str), .local), (j, .local), (y, .free)]) (h1 : (y == (".0" : Str)) = false) (h2 : (y == j) = false) (d1 : (j == ("__debug__" : Str)) = false) (d2 : (y == ("__debug__" : Str)) = false) : CScope sc j y where
  kind := hk
  free env cl h := by
    unfold closureFor
    rw [hn]
    simp [cellOf, h]
  nocell z hz := by
    rw [hn] at hz
    rcases List.mem_cons.mp hz with rfl | hz
    · exact fun q => by cases q
    rcases List.mem_cons.mp hz with rfl | hz
    · exact fun q => by cases q
    rw [List.mem_singleton.mp hz]
    exact fun q => by cases q
  loc z hz hl := by
    rw [hn] at hz ⊢
    rcases List.mem_cons.mp hz with rfl | hz
    · simp [List.lookup_cons]
    rcases List.mem_cons.mp hz with rfl | hz
    · rw [List.lookup_cons]; split
      · rfl
      · simp [List.lookup_cons]
    rw [List.mem_singleton.mp hz] at hl
    cases hl
  hx := by
    rw [hn, List.lookup_cons]; split
    · rfl
    · simp [List.lookup_cons]
  hy := by rw [hn, List.lookup_cons, h1, List.lookup_cons, h2]; simp [List.lookup_cons]
  dx := d1
  dy := d2
theorem CScope2.of {sc : Scope} {i x y : Str} (hk : sc.kind = .function) (hn : sc.names = [((".0" : Str), .local), (i, .local), (y, .free), (x, .free)]) (h1 : (y == (".0" : Str)) = false) (h2 : (y == i) = false) (h3 : (x == (".0" : Str)) = false) (h4 : (x == i) = false) (h5 : (x == y) = false)
    (d1 : (i == ("__debug__" : Str)) = false) (d2 : (x == ("__debug__" : Str)) = false) (d3 : (y == ("__debug__" : Str)) = false) : CScope2 sc i x y where
  kind := hk
  free env cx cy ex ey := by
    refine ⟨[(x, cx), (y, cy)], ?_, by simp [List.lookup_cons], by
      rw [List.lookup_cons, show (y == x) = false from by rw [Bool.eq_false_iff]; intro q; rw [eq_of_beq q] at h5; simp at h5]
      simp [List.lookup_cons]⟩
    unfold closureFor
    rw [hn]
    simp [cellOf, ex, ey]
  nocell z hz := by
    rw [hn] at hz
    rcases List.mem_cons.mp hz with rfl | hz
    · exact fun q => by cases q
    rcases List.mem_cons.mp hz with rfl | hz
    · exact fun q => by cases q
    rcases List.mem_cons.mp hz with rfl | hz
    · exact fun q => by cases q
    rw [List.mem_singleton.mp hz]
    exact fun q => by cases q
  loc z hz hl := by
    rw [hn] at hz ⊢
    rcases List.mem_cons.mp hz with rfl | hz
    · simp [List.lookup_cons]
    rcases List.mem_cons.mp hz with rfl | hz
    · rw [List.lookup_cons]; split
      · rfl
      · simp [List.lookup_cons]
    rcases List.mem_cons.mp hz with rfl | hz
    · cases hl
    rw [List.mem_singleton.mp hz] at hl
    cases hl
  hi := by
    rw [hn, List.lookup_cons]; split
    · rfl
    · simp [List.lookup_cons]
  hx := by rw [hn, List.lookup_cons, h3, List.lookup_cons, h4, List.lookup_cons, h5]; simp [List.lookup_cons]
  hy := by rw [hn, List.lookup_cons, h1, List.lookup_cons, h2]; simp [List.lookup_cons]
  di := d1
  dx := d2
  dy := d3
theorem CScope0.of {sc : Scope} {i : Str} (hk : sc.kind = .function) (hn : sc.names = [((".0" : Str), .local), (i, .local)]) (d1 : (i == ("__debug__" : Str)) = false) : CScope0 sc i where
  kind := hk
  free env := by
    unfold closureFor
    rw [hn]
    simp
  nocell z hz := by
    rw [hn] at hz
    rcases List.mem_cons.mp hz with rfl | hz
    · exact fun q => by cases q
    rw [List.mem_singleton.mp hz]
    exact fun q => by cases q
  loc z hz hl := by
    rw [hn] at hz ⊢
    rcases List.mem_cons.mp hz with rfl | hz
    · simp [List.lookup_cons]
    rw [List.mem_singleton.mp hz]
    rw [List.lookup_cons]; split
    · rfl
    · simp [List.lookup_cons]
  hi := by
    rw [hn, List.lookup_cons]; split
    · rfl
    · simp [List.lookup_cons]
  di := d1
end
end Mine
end

section
open PySem PySem.W PyProof.Rows PySem.Calls PySem.Builtin
set_option Elab.async false
set_option autoImplicit false
set_option maxRecDepth 100000
namespace Mine

noncomputable abbrev Kf (P : Params) : Frag := frag.heap_1 P
noncomputable def fdOf (P : Params) (f : Addr) : FuncData := match (Kf P).lookup f with
  | some o => (match o.data with | .func fd => fd | _ => default)
  | none => default
noncomputable def bodyOf (P : Params) (f : Addr) : List Stmt := match (fdOf P f).body with
  | .stmts b => b
  | _ => []
theorem gl_MAX_32 (P : Params) : nsIn (Kf P) mainGlobals "MAX_32" = some (some (.int (4294967295) 275)) := by rfl
theorem gl_CHECK_CRC (P : Params) : nsIn (Kf P) mainGlobals "CHECK_CRC" = some (some (.int (1) 277)) := by rfl
theorem gl_CHECK_SUM (P : Params) : nsIn (Kf P) mainGlobals "CHECK_SUM" = some (some (.int (2) 279)) := by rfl
theorem gl_CRC_POLY (P : Params) : nsIn (Kf P) mainGlobals "CRC_POLY" = some (some (.int (2197175160) 281)) := by rfl
theorem gl_MASK_DELTA (P : Params) : nsIn (Kf P) mainGlobals "MASK_DELTA" = some (some (.int (2726488792) 283)) := by rfl
theorem gl_HEADER (P : Params) : nsIn (Kf P) mainGlobals "HEADER" = some (some (.int (7) 339)) := by rfl
theorem gl_MAX_BLOCK (P : Params) : nsIn (Kf P) mainGlobals "MAX_BLOCK" = some (some (.int (65542) 341)) := by rfl
theorem gl_ZERO (P : Params) : nsIn (Kf P) mainGlobals "ZERO" = some (some (.int (0) 343)) := by rfl
theorem gl_FULL (P : Params) : nsIn (Kf P) mainGlobals "FULL" = some (some (.int (1) 345)) := by rfl
theorem gl_FIRST (P : Params) : nsIn (Kf P) mainGlobals "FIRST" = some (some (.int (2) 347)) := by rfl
theorem gl_MIDDLE (P : Params) : nsIn (Kf P) mainGlobals "MIDDLE" = some (some (.int (3) 349)) := by rfl
theorem gl_LAST (P : Params) : nsIn (Kf P) mainGlobals "LAST" = some (some (.int (4) 351)) := by rfl
theorem gl_AT_END (P : Params) : nsIn (Kf P) mainGlobals "AT_END" = some (some (.int (-1) 354)) := by rfl
theorem gl_BROKEN (P : Params) : nsIn (Kf P) mainGlobals "BROKEN" = some (some (.int (-2) 357)) := by rfl
theorem gl_law (P : Params) : nsIn (Kf P) mainGlobals "law" = some (some (.ref 238)) := by rfl
theorem gl__law_agrees (P : Params) : nsIn (Kf P) mainGlobals "_law_agrees" = some (some (.ref 233)) := by rfl
theorem gl__law_pieces (P : Params) : nsIn (Kf P) mainGlobals "_law_pieces" = some (some (.ref 228)) := by rfl
theorem gl__law_lay (P : Params) : nsIn (Kf P) mainGlobals "_law_lay" = some (some (.ref 221)) := by rfl
theorem gl__law_four (P : Params) : nsIn (Kf P) mainGlobals "_law_four" = some (some (.ref 216)) := by rfl
theorem gl__law_draw (P : Params) : nsIn (Kf P) mainGlobals "_law_draw" = some (some (.ref 209)) := by rfl
theorem gl__law_sizes (P : Params) : nsIn (Kf P) mainGlobals "_law_sizes" = some (some (.ref 202)) := by rfl
theorem gl_read_prefix (P : Params) : nsIn (Kf P) mainGlobals "read_prefix" = some (some (.ref 195)) := by rfl
theorem gl_LogReader (P : Params) : nsIn (Kf P) mainGlobals "LogReader" = some (some (.ref 184)) := by rfl
theorem gl_make_fragment (P : Params) : nsIn (Kf P) mainGlobals "make_fragment" = some (some (.ref 139)) := by rfl
theorem gl_check_kind (P : Params) : nsIn (Kf P) mainGlobals "check_kind" = some (some (.ref 132)) := by rfl
theorem gl_check_block (P : Params) : nsIn (Kf P) mainGlobals "check_block" = some (some (.ref 125)) := by rfl
theorem gl_checksum (P : Params) : nsIn (Kf P) mainGlobals "checksum" = some (some (.ref 118)) := by rfl
theorem gl_mask (P : Params) : nsIn (Kf P) mainGlobals "mask" = some (some (.ref 111)) := by rfl
theorem gl_crc32c (P : Params) : nsIn (Kf P) mainGlobals "crc32c" = some (some (.ref 104)) := by rfl
theorem gl_make_crc_table (P : Params) : nsIn (Kf P) mainGlobals "make_crc_table" = some (some (.ref 96)) := by rfl
theorem gl_read_fixed32 (P : Params) : nsIn (Kf P) mainGlobals "read_fixed32" = some (some (.ref 89)) := by rfl
theorem gl_put_fixed32 (P : Params) : nsIn (Kf P) mainGlobals "put_fixed32" = some (some (.ref 82)) := by rfl
theorem isfn_238 (P : Params) : IsFn (Kf P) 238 := ⟨_, _, by rfl, by rfl⟩
theorem isfn_233 (P : Params) : IsFn (Kf P) 233 := ⟨_, _, by rfl, by rfl⟩
theorem isfn_228 (P : Params) : IsFn (Kf P) 228 := ⟨_, _, by rfl, by rfl⟩
theorem isfn_221 (P : Params) : IsFn (Kf P) 221 := ⟨_, _, by rfl, by rfl⟩
theorem isfn_216 (P : Params) : IsFn (Kf P) 216 := ⟨_, _, by rfl, by rfl⟩
theorem isfn_209 (P : Params) : IsFn (Kf P) 209 := ⟨_, _, by rfl, by rfl⟩
theorem isfn_202 (P : Params) : IsFn (Kf P) 202 := ⟨_, _, by rfl, by rfl⟩
theorem isfn_195 (P : Params) : IsFn (Kf P) 195 := ⟨_, _, by rfl, by rfl⟩
theorem isfn_181 (P : Params) : IsFn (Kf P) 181 := ⟨_, _, by rfl, by rfl⟩
theorem isfn_174 (P : Params) : IsFn (Kf P) 174 := ⟨_, _, by rfl, by rfl⟩
theorem isfn_167 (P : Params) : IsFn (Kf P) 167 := ⟨_, _, by rfl, by rfl⟩
theorem isfn_160 (P : Params) : IsFn (Kf P) 160 := ⟨_, _, by rfl, by rfl⟩
theorem isfn_153 (P : Params) : IsFn (Kf P) 153 := ⟨_, _, by rfl, by rfl⟩
theorem isfn_139 (P : Params) : IsFn (Kf P) 139 := ⟨_, _, by rfl, by rfl⟩
theorem isfn_132 (P : Params) : IsFn (Kf P) 132 := ⟨_, _, by rfl, by rfl⟩
theorem isfn_125 (P : Params) : IsFn (Kf P) 125 := ⟨_, _, by rfl, by rfl⟩
theorem isfn_118 (P : Params) : IsFn (Kf P) 118 := ⟨_, _, by rfl, by rfl⟩
theorem isfn_111 (P : Params) : IsFn (Kf P) 111 := ⟨_, _, by rfl, by rfl⟩
theorem isfn_104 (P : Params) : IsFn (Kf P) 104 := ⟨_, _, by rfl, by rfl⟩
theorem isfn_96 (P : Params) : IsFn (Kf P) 96 := ⟨_, _, by rfl, by rfl⟩
theorem isfn_89 (P : Params) : IsFn (Kf P) 89 := ⟨_, _, by rfl, by rfl⟩
theorem isfn_82 (P : Params) : IsFn (Kf P) 82 := ⟨_, _, by rfl, by rfl⟩
theorem no_bytearray (P : Params) : nsIn (Kf P) mainGlobals "bytearray" = some none := by rfl
theorem bt_bytearray : bootBuiltins "bytearray" = some (.type "bytearray") := by boot_by_name
theorem no_bytes (P : Params) : nsIn (Kf P) mainGlobals "bytes" = some none := by rfl
theorem bt_bytes : bootBuiltins "bytes" = some (.type "bytes") := by boot_by_name
theorem no_len (P : Params) : nsIn (Kf P) mainGlobals "len" = some none := by rfl
theorem bt_len : bootBuiltins "len" = some (.builtin "len") := by boot_by_name
theorem no_min (P : Params) : nsIn (Kf P) mainGlobals "min" = some none := by rfl
theorem bt_min : bootBuiltins "min" = some (.builtin "min") := by boot_by_name
theorem no_range (P : Params) : nsIn (Kf P) mainGlobals "range" = some none := by rfl
theorem bt_range : bootBuiltins "range" = some (.type "range") := by boot_by_name
theorem no_str (P : Params) : nsIn (Kf P) mainGlobals "str" = some none := by rfl
theorem bt_str : bootBuiltins "str" = some (.type "str") := by boot_by_name
theorem no_sum (P : Params) : nsIn (Kf P) mainGlobals "sum" = some none := by rfl
theorem bt_sum : bootBuiltins "sum" = some (.builtin "sum") := by boot_by_name
theorem meth_167 (P : Params) : IsMeth (Kf P) 184 "turn_block" 167 := .of (by rfl) (by rfl) (by decide +kernel) (isfn_167 P)
theorem meth_160 (P : Params) : IsMeth (Kf P) 184 "drop" 160 := .of (by rfl) (by rfl) (by decide +kernel) (isfn_160 P)
theorem meth_181 (P : Params) : IsMeth (Kf P) 184 "read" 181 := .of (by rfl) (by rfl) (by decide +kernel) (isfn_181 P)
theorem meth_174 (P : Params) : IsMeth (Kf P) 184 "fragment" 174 := .of (by rfl) (by rfl) (by decide +kernel) (isfn_174 P)
theorem gI_82_MAX_32 (P : Params) : IsG (Kf P) (fdOf P 82).scope "MAX_32" (.int (4294967295) 275) := ⟨by rfl, gl_MAX_32 P, by rfl⟩
theorem bI_82_bytes (P : Params) : IsB (Kf P) (fdOf P 82).scope "bytes" (.type "bytes") := ⟨by rfl, no_bytes P, bt_bytes, by rfl, by decide⟩
noncomputable def nm_82 : List Str := ["n"]
theorem at_82 (P : Params) : FnAt (Kf P) 82 (fdOf P 82) (bodyOf P 82) := ⟨⟨_, _, _, by rfl⟩, by rfl, by rfl, by rfl, by rfl, by rfl, by rfl, by rfl, by rfl⟩
theorem sc_82 (P : Params) : ScOk (fdOf P 82).scope nm_82 := .of (by rfl) (by decide +kernel)
theorem ba_82 (P : Params) (u : Value) : bindArgs (fdOf P 82) ⟨[u], []⟩ = pure [(("n" : Str), u)] := by kernel_rfl
theorem ar_82 (P : Params) : ArgOk (Kf P) (fdOf P 82) nm_82 1 [] := .of1 (ba_82 P)
theorem bI_89_len (P : Params) : IsB (Kf P) (fdOf P 89).scope "len" (.builtin "len") := ⟨by rfl, no_len P, bt_len, by rfl, by decide⟩
noncomputable def nm_89 : List Str := ["data", "at"]
theorem at_89 (P : Params) : FnAt (Kf P) 89 (fdOf P 89) (bodyOf P 89) := ⟨⟨_, _, _, by rfl⟩, by rfl, by rfl, by rfl, by rfl, by rfl, by rfl, by rfl, by rfl⟩
theorem sc_89 (P : Params) : ScOk (fdOf P 89).scope nm_89 := .of (by rfl) (by decide +kernel)
theorem ba_89 (P : Params) (u v : Value) : bindArgs (fdOf P 89) ⟨[u, v], []⟩ = pure [(("data" : Str), u), (("at" : Str), v)] := by kernel_rfl
theorem ar_89 (P : Params) : ArgOk (Kf P) (fdOf P 89) nm_89 2 [] := .of2 (ba_89 P)
theorem gI_96_CRC_POLY (P : Params) : IsG (Kf P) (fdOf P 96).scope "CRC_POLY" (.int (2197175160) 281) := ⟨by rfl, gl_CRC_POLY P, by rfl⟩
theorem bI_96_range (P : Params) : IsB (Kf P) (fdOf P 96).scope "range" (.type "range") := ⟨by rfl, no_range P, bt_range, by rfl, by decide⟩
noncomputable def nm_96 : List Str := ["table", "c", "half", "low"]
theorem at_96 (P : Params) : FnAt (Kf P) 96 (fdOf P 96) (bodyOf P 96) := ⟨⟨_, _, _, by rfl⟩, by rfl, by rfl, by rfl, by rfl, by rfl, by rfl, by rfl, by rfl⟩
theorem sc_96 (P : Params) : ScOk (fdOf P 96).scope nm_96 := .of (by rfl) (by decide +kernel)
theorem ba_96 (P : Params) : bindArgs (fdOf P 96) ⟨[], []⟩ = pure [] := by kernel_rfl
theorem ar_96 (P : Params) : ArgOk (Kf P) (fdOf P 96) nm_96 0 [] := .of0 (ba_96 P)
theorem gI_104_MAX_32 (P : Params) : IsG (Kf P) (fdOf P 104).scope "MAX_32" (.int (4294967295) 275) := ⟨by rfl, gl_MAX_32 P, by rfl⟩
theorem gI_104_make_crc_table (P : Params) : IsG (Kf P) (fdOf P 104).scope "make_crc_table" (.ref 96) := ⟨by rfl, gl_make_crc_table P, by rfl⟩
noncomputable def nm_104 : List Str := ["data", "start", "table", "c", "octet"]
theorem at_104 (P : Params) : FnAt (Kf P) 104 (fdOf P 104) (bodyOf P 104) := ⟨⟨_, _, _, by rfl⟩, by rfl, by rfl, by rfl, by rfl, by rfl, by rfl, by rfl, by rfl⟩
theorem sc_104 (P : Params) : ScOk (fdOf P 104).scope nm_104 := .of (by rfl) (by decide +kernel)
theorem ba_104 (P : Params) (u : Value) : ∃ kf : Option (Array Value) → Sem (List (Str × Value)), bindArgs (fdOf P 104) ⟨[u], []⟩ = seqItems? (fdOf P 104).defaults >>= kf ∧ kf (some #[.int 0 310]) = pure [(("data" : Str), u), (("start" : Str), .int 0 310)] := by
  refine ⟨_, by unfold bindArgs; rfl, by kernel_rfl⟩
theorem ar_104 (P : Params) : ArgOk (Kf P) (fdOf P 104) nm_104 1 [(.int 0, .int 0 310)] := .ofD (T := 97) (n := 0) (by rfl) ⟨_, _, _, by rfl⟩ (ba_104 P)
theorem gI_111_MASK_DELTA (P : Params) : IsG (Kf P) (fdOf P 111).scope "MASK_DELTA" (.int (2726488792) 283) := ⟨by rfl, gl_MASK_DELTA P, by rfl⟩
theorem gI_111_MAX_32 (P : Params) : IsG (Kf P) (fdOf P 111).scope "MAX_32" (.int (4294967295) 275) := ⟨by rfl, gl_MAX_32 P, by rfl⟩
noncomputable def nm_111 : List Str := ["c"]
theorem at_111 (P : Params) : FnAt (Kf P) 111 (fdOf P 111) (bodyOf P 111) := ⟨⟨_, _, _, by rfl⟩, by rfl, by rfl, by rfl, by rfl, by rfl, by rfl, by rfl, by rfl⟩
theorem sc_111 (P : Params) : ScOk (fdOf P 111).scope nm_111 := .of (by rfl) (by decide +kernel)
theorem ba_111 (P : Params) (u : Value) : bindArgs (fdOf P 111) ⟨[u], []⟩ = pure [(("c" : Str), u)] := by kernel_rfl
theorem ar_111 (P : Params) : ArgOk (Kf P) (fdOf P 111) nm_111 1 [] := .of1 (ba_111 P)
theorem gI_118_CHECK_CRC (P : Params) : IsG (Kf P) (fdOf P 118).scope "CHECK_CRC" (.int (1) 277) := ⟨by rfl, gl_CHECK_CRC P, by rfl⟩
theorem gI_118_CHECK_SUM (P : Params) : IsG (Kf P) (fdOf P 118).scope "CHECK_SUM" (.int (2) 279) := ⟨by rfl, gl_CHECK_SUM P, by rfl⟩
theorem gI_118_MAX_32 (P : Params) : IsG (Kf P) (fdOf P 118).scope "MAX_32" (.int (4294967295) 275) := ⟨by rfl, gl_MAX_32 P, by rfl⟩
theorem gI_118_crc32c (P : Params) : IsG (Kf P) (fdOf P 118).scope "crc32c" (.ref 104) := ⟨by rfl, gl_crc32c P, by rfl⟩
theorem gI_118_mask (P : Params) : IsG (Kf P) (fdOf P 118).scope "mask" (.ref 111) := ⟨by rfl, gl_mask P, by rfl⟩
theorem bI_118_len (P : Params) : IsB (Kf P) (fdOf P 118).scope "len" (.builtin "len") := ⟨by rfl, no_len P, bt_len, by rfl, by decide⟩
theorem bI_118_sum (P : Params) : IsB (Kf P) (fdOf P 118).scope "sum" (.builtin "sum") := ⟨by rfl, no_sum P, bt_sum, by rfl, by decide⟩
noncomputable def nm_118 : List Str := ["kind", "data"]
theorem at_118 (P : Params) : FnAt (Kf P) 118 (fdOf P 118) (bodyOf P 118) := ⟨⟨_, _, _, by rfl⟩, by rfl, by rfl, by rfl, by rfl, by rfl, by rfl, by rfl, by rfl⟩
theorem sc_118 (P : Params) : ScOk (fdOf P 118).scope nm_118 := .of (by rfl) (by decide +kernel)
theorem ba_118 (P : Params) (u v : Value) : bindArgs (fdOf P 118) ⟨[u, v], []⟩ = pure [(("kind" : Str), u), (("data" : Str), v)] := by kernel_rfl
theorem ar_118 (P : Params) : ArgOk (Kf P) (fdOf P 118) nm_118 2 [] := .of2 (ba_118 P)
theorem gI_139_checksum (P : Params) : IsG (Kf P) (fdOf P 139).scope "checksum" (.ref 118) := ⟨by rfl, gl_checksum P, by rfl⟩
theorem gI_139_put_fixed32 (P : Params) : IsG (Kf P) (fdOf P 139).scope "put_fixed32" (.ref 82) := ⟨by rfl, gl_put_fixed32 P, by rfl⟩
theorem bI_139_bytes (P : Params) : IsB (Kf P) (fdOf P 139).scope "bytes" (.type "bytes") := ⟨by rfl, no_bytes P, bt_bytes, by rfl, by decide⟩
theorem bI_139_len (P : Params) : IsB (Kf P) (fdOf P 139).scope "len" (.builtin "len") := ⟨by rfl, no_len P, bt_len, by rfl, by decide⟩
noncomputable def nm_139 : List Str := ["kind", "data", "check", "size", "body"]
theorem at_139 (P : Params) : FnAt (Kf P) 139 (fdOf P 139) (bodyOf P 139) := ⟨⟨_, _, _, by rfl⟩, by rfl, by rfl, by rfl, by rfl, by rfl, by rfl, by rfl, by rfl⟩
theorem sc_139 (P : Params) : ScOk (fdOf P 139).scope nm_139 := .of (by rfl) (by decide +kernel)
theorem ba_139 (P : Params) (u v w : Value) : bindArgs (fdOf P 139) ⟨[u, v, w], []⟩ = pure [(("kind" : Str), u), (("data" : Str), v), (("check" : Str), w)] := by kernel_rfl
theorem ar_139 (P : Params) : ArgOk (Kf P) (fdOf P 139) nm_139 3 [] := .of3 (ba_139 P)
theorem gI_125_HEADER (P : Params) : IsG (Kf P) (fdOf P 125).scope "HEADER" (.int (7) 339) := ⟨by rfl, gl_HEADER P, by rfl⟩
theorem gI_125_MAX_BLOCK (P : Params) : IsG (Kf P) (fdOf P 125).scope "MAX_BLOCK" (.int (65542) 341) := ⟨by rfl, gl_MAX_BLOCK P, by rfl⟩
noncomputable def nm_125 : List Str := ["block"]
theorem at_125 (P : Params) : FnAt (Kf P) 125 (fdOf P 125) (bodyOf P 125) := ⟨⟨_, _, _, by rfl⟩, by rfl, by rfl, by rfl, by rfl, by rfl, by rfl, by rfl, by rfl⟩
theorem sc_125 (P : Params) : ScOk (fdOf P 125).scope nm_125 := .of (by rfl) (by decide +kernel)
theorem ba_125 (P : Params) (u : Value) : bindArgs (fdOf P 125) ⟨[u], []⟩ = pure [(("block" : Str), u)] := by kernel_rfl
theorem ar_125 (P : Params) : ArgOk (Kf P) (fdOf P 125) nm_125 1 [] := .of1 (ba_125 P)
theorem gI_132_CHECK_CRC (P : Params) : IsG (Kf P) (fdOf P 132).scope "CHECK_CRC" (.int (1) 277) := ⟨by rfl, gl_CHECK_CRC P, by rfl⟩
theorem gI_132_CHECK_SUM (P : Params) : IsG (Kf P) (fdOf P 132).scope "CHECK_SUM" (.int (2) 279) := ⟨by rfl, gl_CHECK_SUM P, by rfl⟩
noncomputable def nm_132 : List Str := ["check"]
theorem at_132 (P : Params) : FnAt (Kf P) 132 (fdOf P 132) (bodyOf P 132) := ⟨⟨_, _, _, by rfl⟩, by rfl, by rfl, by rfl, by rfl, by rfl, by rfl, by rfl, by rfl⟩
theorem sc_132 (P : Params) : ScOk (fdOf P 132).scope nm_132 := .of (by rfl) (by decide +kernel)
theorem ba_132 (P : Params) (u : Value) : bindArgs (fdOf P 132) ⟨[u], []⟩ = pure [(("check" : Str), u)] := by kernel_rfl
theorem ar_132 (P : Params) : ArgOk (Kf P) (fdOf P 132) nm_132 1 [] := .of1 (ba_132 P)
theorem gI_153_check_block (P : Params) : IsG (Kf P) (fdOf P 153).scope "check_block" (.ref 125) := ⟨by rfl, gl_check_block P, by rfl⟩
theorem gI_153_check_kind (P : Params) : IsG (Kf P) (fdOf P 153).scope "check_kind" (.ref 132) := ⟨by rfl, gl_check_kind P, by rfl⟩
theorem bI_153_bytes (P : Params) : IsB (Kf P) (fdOf P 153).scope "bytes" (.type "bytes") := ⟨by rfl, no_bytes P, bt_bytes, by rfl, by decide⟩
noncomputable def nm_153 : List Str := ["self", "data", "block", "check"]
theorem at_153 (P : Params) : FnAt (Kf P) 153 (fdOf P 153) (bodyOf P 153) := ⟨⟨_, _, _, by rfl⟩, by rfl, by rfl, by rfl, by rfl, by rfl, by rfl, by rfl, by rfl⟩
theorem sc_153 (P : Params) : ScOk (fdOf P 153).scope nm_153 := .of (by rfl) (by decide +kernel)
theorem ba_153 (P : Params) (u v w x : Value) : bindArgs (fdOf P 153) ⟨[u, v, w, x], []⟩ = pure [(("self" : Str), u), (("data" : Str), v), (("block" : Str), w), (("check" : Str), x)] := by kernel_rfl
theorem ar_153 (P : Params) : ArgOk (Kf P) (fdOf P 153) nm_153 4 [] := .of4 (ba_153 P)
noncomputable def nm_202 : List Str := []
theorem at_202 (P : Params) : FnAt (Kf P) 202 (fdOf P 202) (bodyOf P 202) := ⟨⟨_, _, _, by rfl⟩, by rfl, by rfl, by rfl, by rfl, by rfl, by rfl, by rfl, by rfl⟩
theorem sc_202 (P : Params) : ScOk (fdOf P 202).scope nm_202 := .of (by rfl) (by decide +kernel)
theorem ba_202 (P : Params) : bindArgs (fdOf P 202) ⟨[], []⟩ = pure [] := by kernel_rfl
theorem ar_202 (P : Params) : ArgOk (Kf P) (fdOf P 202) nm_202 0 [] := .of0 (ba_202 P)
theorem bI_209_len (P : Params) : IsB (Kf P) (fdOf P 209).scope "len" (.builtin "len") := ⟨by rfl, no_len P, bt_len, by rfl, by decide⟩
noncomputable def nm_209 : List Str := ["nums", "i"]
theorem at_209 (P : Params) : FnAt (Kf P) 209 (fdOf P 209) (bodyOf P 209) := ⟨⟨_, _, _, by rfl⟩, by rfl, by rfl, by rfl, by rfl, by rfl, by rfl, by rfl, by rfl⟩
theorem sc_209 (P : Params) : ScOk (fdOf P 209).scope nm_209 := .of (by rfl) (by decide +kernel)
theorem ba_209 (P : Params) (u v : Value) : bindArgs (fdOf P 209) ⟨[u, v], []⟩ = pure [(("nums" : Str), u), (("i" : Str), v)] := by kernel_rfl
theorem ar_209 (P : Params) : ArgOk (Kf P) (fdOf P 209) nm_209 2 [] := .of2 (ba_209 P)
theorem bI_216_bytes (P : Params) : IsB (Kf P) (fdOf P 216).scope "bytes" (.type "bytes") := ⟨by rfl, no_bytes P, bt_bytes, by rfl, by decide⟩
theorem bI_216_len (P : Params) : IsB (Kf P) (fdOf P 216).scope "len" (.builtin "len") := ⟨by rfl, no_len P, bt_len, by rfl, by decide⟩
theorem bI_216_range (P : Params) : IsB (Kf P) (fdOf P 216).scope "range" (.type "range") := ⟨by rfl, no_range P, bt_range, by rfl, by decide⟩
theorem bI_216_sum (P : Params) : IsB (Kf P) (fdOf P 216).scope "sum" (.builtin "sum") := ⟨by rfl, no_sum P, bt_sum, by rfl, by decide⟩
noncomputable def nm_216 : List Str := ["check", "body", "rest", "one", "turn"]
theorem at_216 (P : Params) : FnAt (Kf P) 216 (fdOf P 216) (bodyOf P 216) := ⟨⟨_, _, _, by rfl⟩, by rfl, by rfl, by rfl, by rfl, by rfl, by rfl, by rfl, by rfl⟩
theorem sc_216 (P : Params) : ScOk (fdOf P 216).scope nm_216 := .of (by rfl) (by decide +kernel)
theorem ba_216 (P : Params) (u v : Value) : bindArgs (fdOf P 216) ⟨[u, v], []⟩ = pure [(("check" : Str), u), (("body" : Str), v)] := by kernel_rfl
theorem ar_216 (P : Params) : ArgOk (Kf P) (fdOf P 216) nm_216 2 [] := .of2 (ba_216 P)
theorem gI_221__law_draw (P : Params) : IsG (Kf P) (fdOf P 221).scope "_law_draw" (.ref 209) := ⟨by rfl, gl__law_draw P, by rfl⟩
theorem gI_221__law_four (P : Params) : IsG (Kf P) (fdOf P 221).scope "_law_four" (.ref 216) := ⟨by rfl, gl__law_four P, by rfl⟩
theorem gI_221_make_fragment (P : Params) : IsG (Kf P) (fdOf P 221).scope "make_fragment" (.ref 139) := ⟨by rfl, gl_make_fragment P, by rfl⟩
theorem bI_221_bytes (P : Params) : IsB (Kf P) (fdOf P 221).scope "bytes" (.type "bytes") := ⟨by rfl, no_bytes P, bt_bytes, by rfl, by decide⟩
theorem bI_221_len (P : Params) : IsB (Kf P) (fdOf P 221).scope "len" (.builtin "len") := ⟨by rfl, no_len P, bt_len, by rfl, by decide⟩
theorem bI_221_min (P : Params) : IsB (Kf P) (fdOf P 221).scope "min" (.builtin "min") := ⟨by rfl, no_min P, bt_min, by rfl, by decide⟩
theorem bI_221_range (P : Params) : IsB (Kf P) (fdOf P 221).scope "range" (.type "range") := ⟨by rfl, no_range P, bt_range, by rfl, by decide⟩
noncomputable def nm_221 : List Str := ["nums", "block", "check", "out", "begun", "count", "i", "x", "way", "y", "room", "size", "kind", "data", "body", "four"]
theorem at_221 (P : Params) : FnAt (Kf P) 221 (fdOf P 221) (bodyOf P 221) := ⟨⟨_, _, _, by rfl⟩, by rfl, by rfl, by rfl, by rfl, by rfl, by rfl, by rfl, by rfl⟩
theorem sc_221 (P : Params) : ScOk (fdOf P 221).scope nm_221 := .of (by rfl) (by decide +kernel)
theorem ba_221 (P : Params) (u v w : Value) : bindArgs (fdOf P 221) ⟨[u, v, w], []⟩ = pure [(("nums" : Str), u), (("block" : Str), v), (("check" : Str), w)] := by kernel_rfl
theorem ar_221 (P : Params) : ArgOk (Kf P) (fdOf P 221) nm_221 3 [] := .of3 (ba_221 P)
theorem gI_228__law_four (P : Params) : IsG (Kf P) (fdOf P 228).scope "_law_four" (.ref 216) := ⟨by rfl, gl__law_four P, by rfl⟩
theorem bI_228_len (P : Params) : IsB (Kf P) (fdOf P 228).scope "len" (.builtin "len") := ⟨by rfl, no_len P, bt_len, by rfl, by decide⟩
theorem bI_228_range (P : Params) : IsB (Kf P) (fdOf P 228).scope "range" (.type "range") := ⟨by rfl, no_range P, bt_range, by rfl, by decide⟩
noncomputable def nm_228 : List Str := ["data", "block", "check", "pieces", "torn", "start", "part", "short", "at", "left", "upto", "kind"]
theorem at_228 (P : Params) : FnAt (Kf P) 228 (fdOf P 228) (bodyOf P 228) := ⟨⟨_, _, _, by rfl⟩, by rfl, by rfl, by rfl, by rfl, by rfl, by rfl, by rfl, by rfl⟩
theorem sc_228 (P : Params) : ScOk (fdOf P 228).scope nm_228 := .of (by rfl) (by decide +kernel)
theorem ba_228 (P : Params) (u v w : Value) : bindArgs (fdOf P 228) ⟨[u, v, w], []⟩ = pure [(("data" : Str), u), (("block" : Str), v), (("check" : Str), w)] := by kernel_rfl
theorem ar_228 (P : Params) : ArgOk (Kf P) (fdOf P 228) nm_228 3 [] := .of3 (ba_228 P)
noncomputable def nm_160 : List Str := ["self", "octets", "why"]
theorem at_160 (P : Params) : FnAt (Kf P) 160 (fdOf P 160) (bodyOf P 160) := ⟨⟨_, _, _, by rfl⟩, by rfl, by rfl, by rfl, by rfl, by rfl, by rfl, by rfl, by rfl⟩
theorem sc_160 (P : Params) : ScOk (fdOf P 160).scope nm_160 := .of (by rfl) (by decide +kernel)
theorem ba_160 (P : Params) (u v w : Value) : bindArgs (fdOf P 160) ⟨[u, v, w], []⟩ = pure [(("self" : Str), u), (("octets" : Str), v), (("why" : Str), w)] := by kernel_rfl
theorem ar_160 (P : Params) : ArgOk (Kf P) (fdOf P 160) nm_160 3 [] := .of3 (ba_160 P)
theorem bI_167_len (P : Params) : IsB (Kf P) (fdOf P 167).scope "len" (.builtin "len") := ⟨by rfl, no_len P, bt_len, by rfl, by decide⟩
theorem bI_167_min (P : Params) : IsB (Kf P) (fdOf P 167).scope "min" (.builtin "min") := ⟨by rfl, no_min P, bt_min, by rfl, by decide⟩
noncomputable def nm_167 : List Str := ["self"]
theorem at_167 (P : Params) : FnAt (Kf P) 167 (fdOf P 167) (bodyOf P 167) := ⟨⟨_, _, _, by rfl⟩, by rfl, by rfl, by rfl, by rfl, by rfl, by rfl, by rfl, by rfl⟩
theorem sc_167 (P : Params) : ScOk (fdOf P 167).scope nm_167 := .of (by rfl) (by decide +kernel)
theorem ba_167 (P : Params) (u : Value) : bindArgs (fdOf P 167) ⟨[u], []⟩ = pure [(("self" : Str), u)] := by kernel_rfl
theorem ar_167 (P : Params) : ArgOk (Kf P) (fdOf P 167) nm_167 1 [] := .of1 (ba_167 P)
theorem gI_174_AT_END (P : Params) : IsG (Kf P) (fdOf P 174).scope "AT_END" (.int (-1) 354) := ⟨by rfl, gl_AT_END P, by rfl⟩
theorem gI_174_BROKEN (P : Params) : IsG (Kf P) (fdOf P 174).scope "BROKEN" (.int (-2) 357) := ⟨by rfl, gl_BROKEN P, by rfl⟩
theorem gI_174_HEADER (P : Params) : IsG (Kf P) (fdOf P 174).scope "HEADER" (.int (7) 339) := ⟨by rfl, gl_HEADER P, by rfl⟩
theorem gI_174_ZERO (P : Params) : IsG (Kf P) (fdOf P 174).scope "ZERO" (.int (0) 343) := ⟨by rfl, gl_ZERO P, by rfl⟩
theorem gI_174_checksum (P : Params) : IsG (Kf P) (fdOf P 174).scope "checksum" (.ref 118) := ⟨by rfl, gl_checksum P, by rfl⟩
theorem gI_174_read_fixed32 (P : Params) : IsG (Kf P) (fdOf P 174).scope "read_fixed32" (.ref 89) := ⟨by rfl, gl_read_fixed32 P, by rfl⟩
noncomputable def nm_174 : List Str := ["self", "at", "left", "size", "kind", "upto", "body"]
theorem at_174 (P : Params) : FnAt (Kf P) 174 (fdOf P 174) (bodyOf P 174) := ⟨⟨_, _, _, by rfl⟩, by rfl, by rfl, by rfl, by rfl, by rfl, by rfl, by rfl, by rfl⟩
theorem sc_174 (P : Params) : ScOk (fdOf P 174).scope nm_174 := .of (by rfl) (by decide +kernel)
theorem ba_174 (P : Params) (u : Value) : bindArgs (fdOf P 174) ⟨[u], []⟩ = pure [(("self" : Str), u)] := by kernel_rfl
theorem ar_174 (P : Params) : ArgOk (Kf P) (fdOf P 174) nm_174 1 [] := .of1 (ba_174 P)
theorem gI_181_AT_END (P : Params) : IsG (Kf P) (fdOf P 181).scope "AT_END" (.int (-1) 354) := ⟨by rfl, gl_AT_END P, by rfl⟩
theorem gI_181_BROKEN (P : Params) : IsG (Kf P) (fdOf P 181).scope "BROKEN" (.int (-2) 357) := ⟨by rfl, gl_BROKEN P, by rfl⟩
theorem gI_181_FIRST (P : Params) : IsG (Kf P) (fdOf P 181).scope "FIRST" (.int (2) 347) := ⟨by rfl, gl_FIRST P, by rfl⟩
theorem gI_181_FULL (P : Params) : IsG (Kf P) (fdOf P 181).scope "FULL" (.int (1) 345) := ⟨by rfl, gl_FULL P, by rfl⟩
theorem gI_181_LAST (P : Params) : IsG (Kf P) (fdOf P 181).scope "LAST" (.int (4) 351) := ⟨by rfl, gl_LAST P, by rfl⟩
theorem gI_181_MIDDLE (P : Params) : IsG (Kf P) (fdOf P 181).scope "MIDDLE" (.int (3) 349) := ⟨by rfl, gl_MIDDLE P, by rfl⟩
theorem bI_181_bytearray (P : Params) : IsB (Kf P) (fdOf P 181).scope "bytearray" (.type "bytearray") := ⟨by rfl, no_bytearray P, bt_bytearray, by rfl, by decide⟩
theorem bI_181_bytes (P : Params) : IsB (Kf P) (fdOf P 181).scope "bytes" (.type "bytes") := ⟨by rfl, no_bytes P, bt_bytes, by rfl, by decide⟩
theorem bI_181_len (P : Params) : IsB (Kf P) (fdOf P 181).scope "len" (.builtin "len") := ⟨by rfl, no_len P, bt_len, by rfl, by decide⟩
theorem bI_181_str (P : Params) : IsB (Kf P) (fdOf P 181).scope "str" (.type "str") := ⟨by rfl, no_str P, bt_str, by rfl, by decide⟩
noncomputable def nm_181 : List Str := ["self", "begun", "parts", "kind", "data"]
theorem at_181 (P : Params) : FnAt (Kf P) 181 (fdOf P 181) (bodyOf P 181) := ⟨⟨_, _, _, by rfl⟩, by rfl, by rfl, by rfl, by rfl, by rfl, by rfl, by rfl, by rfl⟩
theorem sc_181 (P : Params) : ScOk (fdOf P 181).scope nm_181 := .of (by rfl) (by decide +kernel)
theorem ba_181 (P : Params) (u : Value) : bindArgs (fdOf P 181) ⟨[u], []⟩ = pure [(("self" : Str), u)] := by kernel_rfl
theorem ar_181 (P : Params) : ArgOk (Kf P) (fdOf P 181) nm_181 1 [] := .of1 (ba_181 P)
theorem gI_195_LogReader (P : Params) : IsG (Kf P) (fdOf P 195).scope "LogReader" (.ref 184) := ⟨by rfl, gl_LogReader P, by rfl⟩
noncomputable def nm_195 : List Str := ["data", "block", "check", "reader", "records", "good", "record"]
theorem at_195 (P : Params) : FnAt (Kf P) 195 (fdOf P 195) (bodyOf P 195) := ⟨⟨_, _, _, by rfl⟩, by rfl, by rfl, by rfl, by rfl, by rfl, by rfl, by rfl, by rfl⟩
theorem sc_195 (P : Params) : ScOk (fdOf P 195).scope nm_195 := .of (by rfl) (by decide +kernel)
theorem ba_195 (P : Params) (u v w : Value) : bindArgs (fdOf P 195) ⟨[u, v, w], []⟩ = pure [(("data" : Str), u), (("block" : Str), v), (("check" : Str), w)] := by kernel_rfl
theorem ar_195 (P : Params) : ArgOk (Kf P) (fdOf P 195) nm_195 3 [] := .of3 (ba_195 P)
theorem gI_233_LogReader (P : Params) : IsG (Kf P) (fdOf P 233).scope "LogReader" (.ref 184) := ⟨by rfl, gl_LogReader P, by rfl⟩
theorem gI_233__law_pieces (P : Params) : IsG (Kf P) (fdOf P 233).scope "_law_pieces" (.ref 228) := ⟨by rfl, gl__law_pieces P, by rfl⟩
theorem gI_233_read_prefix (P : Params) : IsG (Kf P) (fdOf P 233).scope "read_prefix" (.ref 195) := ⟨by rfl, gl_read_prefix P, by rfl⟩
theorem bI_233_len (P : Params) : IsB (Kf P) (fdOf P 233).scope "len" (.builtin "len") := ⟨by rfl, no_len P, bt_len, by rfl, by decide⟩
theorem bI_233_range (P : Params) : IsB (Kf P) (fdOf P 233).scope "range" (.type "range") := ⟨by rfl, no_range P, bt_range, by rfl, by decide⟩
noncomputable def nm_233 : List Str := ["data", "block", "check", "pieces", "torn", "records", "ends", "lasts", "lost", "breaks", "at", "kind", "octets", "end", "more", "upto", "reader", "i", "before", "whole", "good"]
theorem at_233 (P : Params) : FnAt (Kf P) 233 (fdOf P 233) (bodyOf P 233) := ⟨⟨_, _, _, by rfl⟩, by rfl, by rfl, by rfl, by rfl, by rfl, by rfl, by rfl, by rfl⟩
theorem sc_233 (P : Params) : ScOk (fdOf P 233).scope nm_233 := .of (by rfl) (by decide +kernel)
theorem ba_233 (P : Params) (u v w : Value) : bindArgs (fdOf P 233) ⟨[u, v, w], []⟩ = pure [(("data" : Str), u), (("block" : Str), v), (("check" : Str), w)] := by kernel_rfl
theorem ar_233 (P : Params) : ArgOk (Kf P) (fdOf P 233) nm_233 3 [] := .of3 (ba_233 P)
end Mine
end

section
open PySem PySem.W PyProof.Rows PySem.Calls PySem.Builtin
set_option Elab.async false
set_option autoImplicit false
set_option maxRecDepth 100000
namespace Mine
noncomputable def r_82_1 : MS := (.ret (.by4 (.bin .band (.loc 0) (.int 255)) (.bin .band (.bin .shr (.loc 0) (.int 8)) (.int 255)) (.bin .band (.bin .shr (.loc 0) (.int 16)) (.int 255)) (.bin .shr (.loc 0) (.int 24))))
noncomputable def ms_82 : MS := (.ite (.or (.p (.cmp .lt (.loc 0) (.int 0))) (.p (.cmp .gt (.loc 0) (.int (4294967295))))) .bad .nop r_82_1)
theorem is_82 (P : Params) : IsS (Kf P) 184 (fdOf P 82).scope nm_82 false ms_82 (bodyOf P 82) :=
  (.ite (.or (.cmp (op := .lt) rfl (.loc rfl) .int) (.or1 (.cmp (op := .gt) rfl (.loc rfl) (.glb (gI_82_MAX_32 P))))) .bad .nop (.ret (.by4 (bI_82_bytes P) (.bin (op := .band) rfl (.loc rfl) .int) (.bin (op := .band) rfl (.bin (op := .shr) rfl (.loc rfl) .int) .int) (.bin (op := .band) rfl (.bin (op := .shr) rfl (.loc rfl) .int) .int) (.bin (op := .shr) rfl (.loc rfl) .int))))
noncomputable def r_89_1 : MS := (.ret (.bin .bor (.bin .bor (.bin .bor (.idx (.loc 0) (.loc 1)) (.bin .shl (.idx (.loc 0) (.bin .add (.loc 1) (.int 1))) (.int 8))) (.bin .shl (.idx (.loc 0) (.bin .add (.loc 1) (.int 2))) (.int 16))) (.bin .shl (.idx (.loc 0) (.bin .add (.loc 1) (.int 3))) (.int 24))))
noncomputable def ms_89 : MS := (.ite (.or (.p (.cmp .lt (.loc 1) (.int 0))) (.p (.cmp .gt (.bin .add (.loc 1) (.int 4)) (.len (.loc 0))))) .bad .nop r_89_1)
theorem is_89 (P : Params) : IsS (Kf P) 184 (fdOf P 89).scope nm_89 false ms_89 (bodyOf P 89) :=
  (.ite (.or (.cmp (op := .lt) rfl (.loc rfl) .int) (.or1 (.cmp (op := .gt) rfl (.bin (op := .add) rfl (.loc rfl) .int) (.len (bI_89_len P) (.loc rfl))))) .bad .nop (.ret (.bin (op := .bor) rfl (.bin (op := .bor) rfl (.bin (op := .bor) rfl (.idx (.loc rfl) (.loc rfl)) (.bin (op := .shl) rfl (.idx (.loc rfl) (.bin (op := .add) rfl (.loc rfl) .int)) .int)) (.bin (op := .shl) rfl (.idx (.loc rfl) (.bin (op := .add) rfl (.loc rfl) .int)) .int)) (.bin (op := .shl) rfl (.idx (.loc rfl) (.bin (op := .add) rfl (.loc rfl) .int)) .int))))
noncomputable def b_96_1 : MS := (.seti 0 (.bin .add (.loc 3) (.loc 2)) (.bin .bxor (.idx (.loc 0) (.loc 3)) (.loc 1)) .nop)
noncomputable def r_96_1 : MS := (.aug 2 .shr (.int 1) .nop)
noncomputable def r_96_2 : MS := (.forR 3 (.int 0) (.int 16) (.bin .mul (.int 2) (.loc 2)) b_96_1 r_96_1)
noncomputable def t_96_1 : MT := (.p (.cmp .gt (.loc 2) (.int 0)))
noncomputable def b_96_2 : MS := (.ite (.p (.bin .band (.loc 1) (.int 1))) (.asg 1 (.bin .bxor (.bin .shr (.loc 1) (.int 1)) (.int (2197175160))) .nop) (.aug 1 .shr (.int 1) .nop) r_96_2)
noncomputable def r_96_3 : MS := (.retl 0)
noncomputable def ms_96 : MS := (.newr 0 (.int 0) (.int 16) (.asg 1 (.int 1) (.asg 2 (.int 8) (.whl t_96_1 b_96_2 r_96_3))))
theorem is_96 (P : Params) : IsS (Kf P) 184 (fdOf P 96).scope nm_96 false ms_96 (bodyOf P 96) :=
  (.newr rfl .int .int (.asg rfl .int (fun _ => rfl) (.asg rfl .int (fun _ => rfl) (.whl (.cmp (op := .gt) rfl (.loc rfl) .int) (.ite (.p (.bin (op := .band) rfl (.loc rfl) .int) (fun _ _ => rfl)) (.asg rfl (.bin (op := .bxor) rfl (.bin (op := .shr) rfl (.loc rfl) .int) (.glb (gI_96_CRC_POLY P))) (fun _ => rfl) .nop) (.aug (op := .shr) rfl rfl .int .nop) (.forR rfl (bI_96_range P) .int .int (.bin (op := .mul) rfl .int (.loc rfl)) (.seti rfl (.bin (op := .add) rfl (.loc rfl) (.loc rfl)) (.bin (op := .bxor) rfl (.idx (.loc rfl) (.loc rfl)) (.loc rfl)) (fun _ => rfl) .nop) (.aug (op := .shr) rfl rfl .int .nop))) (.retl rfl)))))
noncomputable def b_104_1 : MS := (.aug 3 .bxor (.loc 4) (.asg 3 (.bin .bxor (.bin .shr (.loc 3) (.int 4)) (.idx (.loc 2) (.bin .band (.loc 3) (.int 15)))) (.asg 3 (.bin .bxor (.bin .shr (.loc 3) (.int 4)) (.idx (.loc 2) (.bin .band (.loc 3) (.int 15)))) .nop)))
noncomputable def r_104_1 : MS := (.ret (.bin .bxor (.loc 3) (.int (4294967295))))
noncomputable def ms_104 : MS := (.asg 2 (.ca0 96 ) (.asg 3 (.bin .bxor (.loc 1) (.int (4294967295))) (.forB 4 (.loc 0) b_104_1 r_104_1)))
theorem is_104 (P : Params) : IsS (Kf P) 184 (fdOf P 104).scope nm_104 false ms_104 (bodyOf P 104) :=
  (.asg rfl (.ca0 (gI_104_make_crc_table P) (isfn_96 P) ) (fun _ => rfl) (.asg rfl (.bin (op := .bxor) rfl (.loc rfl) (.glb (gI_104_MAX_32 P))) (fun _ => rfl) (.forB rfl (.loc rfl) (fun _ _ => rfl) (.aug (op := .bxor) rfl rfl (.loc rfl) (.asg rfl (.bin (op := .bxor) rfl (.bin (op := .shr) rfl (.loc rfl) .int) (.idx (.loc rfl) (.bin (op := .band) rfl (.loc rfl) .int))) (fun _ => rfl) (.asg rfl (.bin (op := .bxor) rfl (.bin (op := .shr) rfl (.loc rfl) .int) (.idx (.loc rfl) (.bin (op := .band) rfl (.loc rfl) .int))) (fun _ => rfl) .nop))) (.ret (.bin (op := .bxor) rfl (.loc rfl) (.glb (gI_104_MAX_32 P)))))))
noncomputable def ms_111 : MS := (.ret (.bin .band (.bin .add (.bin .bor (.bin .shr (.loc 0) (.int 15)) (.bin .shl (.loc 0) (.int 17))) (.int (2726488792))) (.int (4294967295))))
theorem is_111 (P : Params) : IsS (Kf P) 184 (fdOf P 111).scope nm_111 false ms_111 (bodyOf P 111) :=
  (.ret (.bin (op := .band) rfl (.bin (op := .add) rfl (.bin (op := .bor) rfl (.bin (op := .shr) rfl (.loc rfl) .int) (.bin (op := .shl) rfl (.loc rfl) .int)) (.glb (gI_111_MASK_DELTA P))) (.glb (gI_111_MAX_32 P))))
noncomputable def r_118_1 : MS := (.ite (.p (.cmp .eq (.loc 0) (.int (2)))) (.ret (.bin .band (.bin .add (.bin .add (.bin .mul (.sum (.loc 1)) (.int 251)) (.bin .mul (.len (.loc 1)) (.int 65537))) (.int 7)) (.int (4294967295)))) .nop .bad)
noncomputable def ms_118 : MS := (.ite (.p (.cmp .eq (.loc 0) (.int (1)))) (.ret (.ca1 111 (.ca1 104 (.loc 1)))) .nop r_118_1)
theorem is_118 (P : Params) : IsS (Kf P) 184 (fdOf P 118).scope nm_118 false ms_118 (bodyOf P 118) :=
  (.ite (.cmp (op := .eq) rfl (.loc rfl) (.glb (gI_118_CHECK_CRC P))) (.ret (.ca1 (gI_118_mask P) (isfn_111 P) (.ca1 (gI_118_crc32c P) (isfn_104 P) (.loc rfl)))) .nop (.ite (.cmp (op := .eq) rfl (.loc rfl) (.glb (gI_118_CHECK_SUM P))) (.ret (.bin (op := .band) rfl (.bin (op := .add) rfl (.bin (op := .add) rfl (.bin (op := .mul) rfl (.sum (bI_118_sum P) (.loc rfl)) .int) (.bin (op := .mul) rfl (.len (bI_118_len P) (.loc rfl)) .int)) .int) (.glb (gI_118_MAX_32 P)))) .nop .bad))
noncomputable def ms_139 : MS := (.asg 3 (.len (.loc 1)) (.asg 4 (.bin .add (.by1 (.loc 0)) (.loc 1)) (.ret (.bin .add (.bin .add (.ca1 82 (.ca2 118 (.loc 2) (.loc 4))) (.by2 (.bin .mod (.loc 3) (.int 256)) (.bin .fdiv (.loc 3) (.int 256)))) (.loc 4)))))
theorem is_139 (P : Params) : IsS (Kf P) 184 (fdOf P 139).scope nm_139 false ms_139 (bodyOf P 139) :=
  (.asg rfl (.len (bI_139_len P) (.loc rfl)) (fun _ => rfl) (.asg rfl (.bin (op := .add) rfl (.by1 (bI_139_bytes P) (.loc rfl)) (.loc rfl)) (fun _ => rfl) (.ret (.bin (op := .add) rfl (.bin (op := .add) rfl (.ca1 (gI_139_put_fixed32 P) (isfn_82 P) (.ca2 (gI_139_checksum P) (isfn_118 P) (.loc rfl) (.loc rfl))) (.by2 (bI_139_bytes P) (.bin (op := .mod) rfl (.loc rfl) .int) (.bin (op := .fdiv) rfl (.loc rfl) .int))) (.loc rfl)))))
noncomputable def ms_125 : MS := (.ite (.or (.p (.cmp .lt (.loc 0) (.bin .add (.int (7)) (.int 1)))) (.p (.cmp .gt (.loc 0) (.int (65542))))) .bad .nop .nop)
theorem is_125 (P : Params) : IsS (Kf P) 184 (fdOf P 125).scope nm_125 false ms_125 (bodyOf P 125) :=
  (.ite (.or (.cmp (op := .lt) rfl (.loc rfl) (.bin (op := .add) rfl (.glb (gI_125_HEADER P)) .int)) (.or1 (.cmp (op := .gt) rfl (.loc rfl) (.glb (gI_125_MAX_BLOCK P))))) .bad .nop .nop)
noncomputable def ms_132 : MS := (.ite (.an (.p (.cmp .ne (.loc 0) (.int (1)))) (.p (.cmp .ne (.loc 0) (.int (2))))) .bad .nop .nop)
theorem is_132 (P : Params) : IsS (Kf P) 184 (fdOf P 132).scope nm_132 false ms_132 (bodyOf P 132) :=
  (.ite (.an (.cmp (op := .ne) rfl (.loc rfl) (.glb (gI_132_CHECK_CRC P))) (.an1 (.cmp (op := .ne) rfl (.loc rfl) (.glb (gI_132_CHECK_SUM P))))) .bad .nop .nop)
noncomputable def ms_153 : MS := (.exc 125 (.loc 2) (.exc 132 (.loc 3) (.seta 0 0 (.bytB (.loc 1)) (.seta 0 1 (.loc 2) (.seta 0 2 (.loc 3) (.seta 0 3 (.int 0) (.seta 0 4 (.int 0) (.seta 0 5 (.bool false) (.seta 0 6 (.int 0) (.setl 0 7 (.seta 0 8 (.bool false) (.seta 0 9 (.int 0) (.seta 0 10 (.int 0) .nop)))))))))))))
theorem is_153 (P : Params) : IsS (Kf P) 184 (fdOf P 153).scope nm_153 false ms_153 (bodyOf P 153) :=
  (.exc (gI_153_check_block P) (isfn_125 P) (.loc rfl) (.exc (gI_153_check_kind P) (isfn_132 P) (.loc rfl) (.seta (f := 0) rfl rfl (.bytB (bI_153_bytes P) (.loc rfl)) (fun _ => rfl) (.seta (f := 1) rfl rfl (.loc rfl) (fun _ => rfl) (.seta (f := 2) rfl rfl (.loc rfl) (fun _ => rfl) (.seta (f := 3) rfl rfl .int (fun _ => rfl) (.seta (f := 4) rfl rfl .int (fun _ => rfl) (.seta (f := 5) rfl rfl .bool (fun _ => rfl) (.seta (f := 6) rfl rfl .int (fun _ => rfl) (.setl (f := 7) rfl rfl (.seta (f := 8) rfl rfl .bool (fun _ => rfl) (.seta (f := 9) rfl rfl .int (fun _ => rfl) (.seta (f := 10) rfl rfl .int (fun _ => rfl) .nop)))))))))))))
noncomputable def ms_202 : MS := (.ret (.ls4 (.int 7) (.int 0) (.int (-1)) (.int 65543)))
theorem is_202 (P : Params) : IsS (Kf P) 184 (fdOf P 202).scope nm_202 false ms_202 (bodyOf P 202) :=
  (.ret (.ls4 .int .int .neg .int))
noncomputable def ms_209 : MS := (.ret (.bin .add (.idx (.loc 0) (.bin .mod (.loc 1) (.len (.loc 0)))) (.bin .mul (.int 31) (.bin .fdiv (.loc 1) (.len (.loc 0))))))
theorem is_209 (P : Params) : IsS (Kf P) 184 (fdOf P 209).scope nm_209 false ms_209 (bodyOf P 209) :=
  (.ret (.bin (op := .add) rfl (.idx (.loc rfl) (.bin (op := .mod) rfl (.loc rfl) (.len (bI_209_len P) (.loc rfl)))) (.bin (op := .mul) rfl .int (.bin (op := .fdiv) rfl (.loc rfl) (.len (bI_209_len P) (.loc rfl))))))
noncomputable def b_216_1 : MS := (.asg 2 (.bin .bxor (.bin .fdiv (.loc 2) (.int 2)) (.bin .mul (.int 2197175160) (.bin .mod (.loc 2) (.int 2)))) .nop)
noncomputable def b_216_2 : MS := (.asg 2 (.bin .bxor (.loc 2) (.loc 3)) (.forN 4 (.int 8) b_216_1 .nop))
noncomputable def r_216_1 : MS := (.asg 2 (.bin .sub (.int 4294967295) (.loc 2)) (.asg 2 (.bin .mod (.bin .add (.bin .add (.bin .fdiv (.loc 2) (.int 32768)) (.bin .mul (.bin .mod (.loc 2) (.int 32768)) (.int 131072))) (.int 2726488792)) (.int 4294967296)) .nop))
noncomputable def r_216_2 : MS := (.ret (.by4 (.bin .mod (.loc 2) (.int 256)) (.bin .mod (.bin .fdiv (.loc 2) (.int 256)) (.int 256)) (.bin .mod (.bin .fdiv (.loc 2) (.int 65536)) (.int 256)) (.bin .fdiv (.loc 2) (.int 16777216))))
noncomputable def ms_216 : MS := (.ite (.p (.cmp .eq (.loc 0) (.int 2))) (.asg 2 (.bin .mod (.bin .add (.bin .add (.bin .mul (.sum (.loc 1)) (.int 251)) (.bin .mul (.len (.loc 1)) (.int 65537))) (.int 7)) (.int 4294967296)) .nop) (.asg 2 (.int 4294967295) (.forB 3 (.loc 1) b_216_2 r_216_1)) r_216_2)
theorem is_216 (P : Params) : IsS (Kf P) 184 (fdOf P 216).scope nm_216 false ms_216 (bodyOf P 216) :=
  (.ite (.cmp (op := .eq) rfl (.loc rfl) .int) (.asg rfl (.bin (op := .mod) rfl (.bin (op := .add) rfl (.bin (op := .add) rfl (.bin (op := .mul) rfl (.sum (bI_216_sum P) (.loc rfl)) .int) (.bin (op := .mul) rfl (.len (bI_216_len P) (.loc rfl)) .int)) .int) .int) (fun _ => rfl) .nop) (.asg rfl .int (fun _ => rfl) (.forB rfl (.loc rfl) (fun _ _ => rfl) (.asg rfl (.bin (op := .bxor) rfl (.loc rfl) (.loc rfl)) (fun _ => rfl) (.forN rfl (bI_216_range P) .int (.asg rfl (.bin (op := .bxor) rfl (.bin (op := .fdiv) rfl (.loc rfl) .int) (.bin (op := .mul) rfl .int (.bin (op := .mod) rfl (.loc rfl) .int))) (fun _ => rfl) .nop) .nop)) (.asg rfl (.bin (op := .sub) rfl .int (.loc rfl)) (fun _ => rfl) (.asg rfl (.bin (op := .mod) rfl (.bin (op := .add) rfl (.bin (op := .add) rfl (.bin (op := .fdiv) rfl (.loc rfl) .int) (.bin (op := .mul) rfl (.bin (op := .mod) rfl (.loc rfl) .int) .int)) .int) .int) (fun _ => rfl) .nop)))) (.ret (.by4 (bI_216_bytes P) (.bin (op := .mod) rfl (.loc rfl) .int) (.bin (op := .mod) rfl (.bin (op := .fdiv) rfl (.loc rfl) .int) .int) (.bin (op := .mod) rfl (.bin (op := .fdiv) rfl (.loc rfl) .int) .int) (.bin (op := .fdiv) rfl (.loc rfl) .int))))
noncomputable def r_221_1 : MS := (.ite (.p (.cmp .eq (.loc 8) (.int 10))) (.asg 3 (.bin .add (.loc 3) (.byr (.bin .mul (.bin .mod (.loc 9) (.int 256)) (.bin .mod (.bin .fdiv (.loc 9) (.int 256)) (.int 2))) (.bin .mod (.loc 9) (.int 11)))) .nop) (.asg 3 (.bin .add (.bin .add (.bin .add (.loc 3) (.loc 15)) (.by2 (.bin .mod (.loc 11) (.int 256)) (.bin .fdiv (.loc 11) (.int 256)))) (.loc 14)) .nop) .nop)
noncomputable def r_221_2 : MS := (.ite (.p (.cmp .eq (.loc 8) (.int 9))) (.asg 11 (.bin .add (.bin .add (.loc 11) (.int 1)) (.bin .mod (.bin .fdiv (.loc 9) (.int 9)) (.int 300))) .nop) .nop r_221_1)
noncomputable def r_221_3 : MS := (.ite (.p (.cmp .eq (.loc 8) (.int 8))) (.asg 15 (.bin .add (.sl0 (.loc 15) (.int 3)) (.by1 (.bin .mod (.bin .add (.bin .add (.idx (.loc 15) (.int 3)) (.int 1)) (.bin .mod (.loc 9) (.int 255))) (.int 256)))) .nop) .nop r_221_2)
noncomputable def r_221_4 : MS := (.asg 4 (.or (.cmp .eq (.loc 12) (.int 2)) (.and (.cmp .eq (.loc 12) (.int 3)) (.loc 4))) (.asg 13 (.byc 9 (.loc 11)) (.asg 14 (.bin .add (.by1 (.loc 12)) (.loc 13)) (.asg 15 (.ca2 216 (.loc 2) (.loc 14)) (.ite (.an (.p (.cmp .lt (.loc 8) (.int 8))) (.p (.cmp .ne (.ca3 139 (.loc 12) (.loc 13) (.loc 2)) (.bin .add (.bin .add (.loc 15) (.by2 (.loc 11) (.int 0))) (.loc 14))))) (.ret .none) .nop r_221_3)))))
noncomputable def r_221_5 : MS := (.asg 12 (.loc 8) (.ite (.p (.cmp .eq (.loc 8) (.int 0))) (.asg 12 (.ite (.loc 4) (.int 4) (.int 1)) .nop) (.ite (.p (.cmp .eq (.loc 8) (.int 5))) (.asg 12 (.ite (.loc 4) (.int 3) (.int 2)) .nop) (.ite (.p (.cmp .eq (.loc 8) (.int 6))) (.asg 12 (.int 0) .nop) (.ite (.p (.cmp .eq (.loc 8) (.int 7))) (.asg 12 (.bin .add (.int 5) (.bin .mod (.bin .fdiv (.loc 9) (.int 9)) (.int 251))) .nop) (.ite (.p (.cmp .gt (.loc 8) (.int 7))) (.asg 12 (.bin .add (.int 1) (.bin .mod (.bin .fdiv (.loc 9) (.int 9)) (.int 4))) .nop) .nop .nop) .nop) .nop) .nop) r_221_4))
noncomputable def r_221_6 : MS := (.ite (.p (.cmp .lt (.loc 8) (.int 10))) (.asg 11 (.min (.loc 11) (.bin .sub (.loc 10) (.int 7))) .nop) .nop r_221_5)
noncomputable def r_221_7 : MS := (.asg 11 (.bin .mod (.loc 9) (.int 9)) (.ite (.p (.cmp .eq (.loc 2) (.int 1))) (.asg 11 (.bin .mod (.loc 9) (.int 4)) .nop) .nop r_221_6))
noncomputable def b_221_1 : MS := (.asg 7 (.ca2 209 (.loc 0) (.bin .add (.int 2) (.loc 6))) (.asg 8 (.bin .mod (.loc 7) (.int 12)) (.asg 9 (.bin .fdiv (.loc 7) (.int 12)) (.asg 10 (.bin .sub (.loc 1) (.bin .mod (.len (.loc 3)) (.loc 1))) (.ite (.an (.p (.cmp .lt (.loc 8) (.int 10))) (.p (.cmp .lt (.loc 10) (.int 7)))) (.asg 3 (.bin .add (.loc 3) (.byr (.bin .mod (.loc 9) (.int 256)) (.loc 10))) (.asg 10 (.loc 1) .nop)) .nop r_221_7)))))
noncomputable def r_221_8 : MS := (.ret (.loc 3))
noncomputable def r_221_9 : MS := (.forN 6 (.loc 5) b_221_1 r_221_8)
noncomputable def ms_221 : MS := (.asg 3 (.bys []) (.asg 4 (.bool false) (.asg 5 (.int 3) (.ite (.p (.cmp .eq (.loc 2) (.int 2))) (.asg 5 (.bin .add (.int 3) (.bin .mod (.bin .fdiv (.ca2 209 (.loc 0) (.int 0)) (.int 48)) (.int 4))) .nop) .nop r_221_9))))
theorem is_221 (P : Params) : IsS (Kf P) 184 (fdOf P 221).scope nm_221 false ms_221 (bodyOf P 221) :=
  (.asg rfl (.bys (by decide)) (fun _ => rfl) (.asg rfl .bool (fun _ => rfl) (.asg rfl .int (fun _ => rfl) (.ite (.cmp (op := .eq) rfl (.loc rfl) .int) (.asg rfl (.bin (op := .add) rfl .int (.bin (op := .mod) rfl (.bin (op := .fdiv) rfl (.ca2 (gI_221__law_draw P) (isfn_209 P) (.loc rfl) .int) .int) .int)) (fun _ => rfl) .nop) .nop (.forN rfl (bI_221_range P) (.loc rfl) (.asg rfl (.ca2 (gI_221__law_draw P) (isfn_209 P) (.loc rfl) (.bin (op := .add) rfl .int (.loc rfl))) (fun _ => rfl) (.asg rfl (.bin (op := .mod) rfl (.loc rfl) .int) (fun _ => rfl) (.asg rfl (.bin (op := .fdiv) rfl (.loc rfl) .int) (fun _ => rfl) (.asg rfl (.bin (op := .sub) rfl (.loc rfl) (.bin (op := .mod) rfl (.len (bI_221_len P) (.loc rfl)) (.loc rfl))) (fun _ => rfl) (.ite (.an (.cmp (op := .lt) rfl (.loc rfl) .int) (.an1 (.cmp (op := .lt) rfl (.loc rfl) .int))) (.asg rfl (.bin (op := .add) rfl (.loc rfl) (.byr (bI_221_bytes P) (.bin (op := .mod) rfl (.loc rfl) .int) (.loc rfl))) (fun _ => rfl) (.asg rfl (.loc rfl) (fun _ => rfl) .nop)) .nop (.asg rfl (.bin (op := .mod) rfl (.loc rfl) .int) (fun _ => rfl) (.ite (.cmp (op := .eq) rfl (.loc rfl) .int) (.asg rfl (.bin (op := .mod) rfl (.loc rfl) .int) (fun _ => rfl) .nop) .nop (.ite (.cmp (op := .lt) rfl (.loc rfl) .int) (.asg rfl (.min (bI_221_min P) (.loc rfl) (.bin (op := .sub) rfl (.loc rfl) .int)) (fun _ => rfl) .nop) .nop (.asg rfl (.loc rfl) (fun _ => rfl) (.ite (.cmp (op := .eq) rfl (.loc rfl) .int) (.asg rfl (.ite (.loc rfl) .int .int) (fun _ => rfl) .nop) (.ite (.cmp (op := .eq) rfl (.loc rfl) .int) (.asg rfl (.ite (.loc rfl) .int .int) (fun _ => rfl) .nop) (.ite (.cmp (op := .eq) rfl (.loc rfl) .int) (.asg rfl .int (fun _ => rfl) .nop) (.ite (.cmp (op := .eq) rfl (.loc rfl) .int) (.asg rfl (.bin (op := .add) rfl .int (.bin (op := .mod) rfl (.bin (op := .fdiv) rfl (.loc rfl) .int) .int)) (fun _ => rfl) .nop) (.ite (.cmp (op := .gt) rfl (.loc rfl) .int) (.asg rfl (.bin (op := .add) rfl .int (.bin (op := .mod) rfl (.bin (op := .fdiv) rfl (.loc rfl) .int) .int)) (fun _ => rfl) .nop) .nop .nop) .nop) .nop) .nop) (.asg rfl (.or (.cmp (op := .eq) rfl (.loc rfl) .int) (.and (.cmp (op := .eq) rfl (.loc rfl) .int) (.loc rfl))) (fun _ => rfl) (.asg rfl (.byc (bI_221_bytes P) (bI_221_range P) rfl rfl (.of rfl rfl rfl rfl rfl rfl) (.loc rfl)) (fun _ => rfl) (.asg rfl (.bin (op := .add) rfl (.by1 (bI_221_bytes P) (.loc rfl)) (.loc rfl)) (fun _ => rfl) (.asg rfl (.ca2 (gI_221__law_four P) (isfn_216 P) (.loc rfl) (.loc rfl)) (fun _ => rfl) (.ite (.an (.cmp (op := .lt) rfl (.loc rfl) .int) (.an1 (.cmp (op := .ne) rfl (.ca3 (gI_221_make_fragment P) (isfn_139 P) (.loc rfl) (.loc rfl) (.loc rfl)) (.bin (op := .add) rfl (.bin (op := .add) rfl (.loc rfl) (.by2 (bI_221_bytes P) (.loc rfl) .int)) (.loc rfl))))) (.ret .none) .nop (.ite (.cmp (op := .eq) rfl (.loc rfl) .int) (.asg rfl (.bin (op := .add) rfl (.sl0 (.loc rfl) .int) (.by1 (bI_221_bytes P) (.bin (op := .mod) rfl (.bin (op := .add) rfl (.bin (op := .add) rfl (.idx (.loc rfl) .int) .int) (.bin (op := .mod) rfl (.loc rfl) .int)) .int))) (fun _ => rfl) .nop) .nop (.ite (.cmp (op := .eq) rfl (.loc rfl) .int) (.asg rfl (.bin (op := .add) rfl (.bin (op := .add) rfl (.loc rfl) .int) (.bin (op := .mod) rfl (.bin (op := .fdiv) rfl (.loc rfl) .int) .int)) (fun _ => rfl) .nop) .nop (.ite (.cmp (op := .eq) rfl (.loc rfl) .int) (.asg rfl (.bin (op := .add) rfl (.loc rfl) (.byr (bI_221_bytes P) (.bin (op := .mul) rfl (.bin (op := .mod) rfl (.loc rfl) .int) (.bin (op := .mod) rfl (.bin (op := .fdiv) rfl (.loc rfl) .int) .int)) (.bin (op := .mod) rfl (.loc rfl) .int))) (fun _ => rfl) .nop) (.asg rfl (.bin (op := .add) rfl (.bin (op := .add) rfl (.bin (op := .add) rfl (.loc rfl) (.loc rfl)) (.by2 (bI_221_bytes P) (.bin (op := .mod) rfl (.loc rfl) .int) (.bin (op := .fdiv) rfl (.loc rfl) .int))) (.loc rfl)) (fun _ => rfl) .nop) .nop)))))))))))))))))) (.ret (.loc rfl)))))))
noncomputable def t_228_1 : MT := (.p (.cmp .ge (.loc 8) (.int 0)))
noncomputable def b_228_1 : MS := (.asg 9 (.bin .sub (.len (.loc 6)) (.loc 8)) (.ite (.p (.cmp .lt (.loc 9) (.int 7))) (.asg 4 (.or (.loc 4) (.and (.loc 7) (.cmp .gt (.loc 9) (.int 0)))) (.asg 8 (.int (-1)) .nop)) (.asg 10 (.bin .add (.bin .add (.bin .add (.loc 8) (.int 7)) (.idx (.loc 6) (.bin .add (.loc 8) (.int 4)))) (.bin .mul (.int 256) (.idx (.loc 6) (.bin .add (.loc 8) (.int 5))))) (.asg 11 (.idx (.loc 6) (.bin .add (.loc 8) (.int 6))) (.ite (.an (.p (.cmp .gt (.loc 10) (.len (.loc 6)))) (.p (.loc 7))) (.asg 4 (.bool true) (.asg 8 (.int (-1)) .nop)) (.ite (.an (.p (.cmp .eq (.loc 11) (.int 0))) (.p (.cmp .eq (.loc 10) (.bin .add (.loc 8) (.int 7))))) (.app 3 (.tu4 (.int (-1)) (.bys []) (.int 0) (.int 0)) (.asg 8 (.int (-1)) .nop)) (.ite (.or (.p (.cmp .gt (.loc 10) (.len (.loc 6)))) (.p (.cmp .ne (.sl2 (.loc 6) (.loc 8) (.bin .add (.loc 8) (.int 4))) (.ca2 216 (.loc 2) (.sl2 (.loc 6) (.bin .add (.loc 8) (.int 6)) (.loc 10)))))) (.app 3 (.tu4 (.int (-1)) (.bys []) (.int 0) (.loc 9)) (.asg 8 (.int (-1)) .nop)) (.app 3 (.tu4 (.loc 11) (.sl2 (.loc 6) (.bin .add (.loc 8) (.int 7)) (.loc 10)) (.bin .add (.loc 5) (.loc 10)) (.int 0)) (.asg 8 (.loc 10) .nop)) .nop) .nop) .nop))) .nop))
noncomputable def b_228_2 : MS := (.asg 6 (.sl2 (.loc 0) (.loc 5) (.bin .add (.loc 5) (.loc 1))) (.asg 7 (.cmp .lt (.len (.loc 6)) (.loc 1)) (.asg 8 (.int 0) (.whl t_228_1 b_228_1 .nop))))
noncomputable def r_228_1 : MS := (.ret2 3 (.loc 4))
noncomputable def ms_228 : MS := (.newl 3 (.asg 4 (.bool false) (.forR 5 (.int 0) (.len (.loc 0)) (.loc 1) b_228_2 r_228_1)))
theorem is_228 (P : Params) : IsS (Kf P) 184 (fdOf P 228).scope nm_228 false ms_228 (bodyOf P 228) :=
  (.newl rfl (.asg rfl .bool (fun _ => rfl) (.forR rfl (bI_228_range P) .int (.len (bI_228_len P) (.loc rfl)) (.loc rfl) (.asg rfl (.sl2 (.loc rfl) (.loc rfl) (.bin (op := .add) rfl (.loc rfl) (.loc rfl))) (fun _ => rfl) (.asg rfl (.cmp (op := .lt) rfl (.len (bI_228_len P) (.loc rfl)) (.loc rfl)) (fun _ => rfl) (.asg rfl .int (fun _ => rfl) (.whl (.cmp (op := .ge) rfl (.loc rfl) .int) (.asg rfl (.bin (op := .sub) rfl (.len (bI_228_len P) (.loc rfl)) (.loc rfl)) (fun _ => rfl) (.ite (.cmp (op := .lt) rfl (.loc rfl) .int) (.asg rfl (.or (.loc rfl) (.and (.loc rfl) (.cmp (op := .gt) rfl (.loc rfl) .int))) (fun _ => rfl) (.asg rfl .neg (fun _ => rfl) .nop)) (.asg rfl (.bin (op := .add) rfl (.bin (op := .add) rfl (.bin (op := .add) rfl (.loc rfl) .int) (.idx (.loc rfl) (.bin (op := .add) rfl (.loc rfl) .int))) (.bin (op := .mul) rfl .int (.idx (.loc rfl) (.bin (op := .add) rfl (.loc rfl) .int)))) (fun _ => rfl) (.asg rfl (.idx (.loc rfl) (.bin (op := .add) rfl (.loc rfl) .int)) (fun _ => rfl) (.ite (.an (.cmp (op := .gt) rfl (.loc rfl) (.len (bI_228_len P) (.loc rfl))) (.an1 (.p (.loc rfl) (fun _ _ => rfl)))) (.asg rfl .bool (fun _ => rfl) (.asg rfl .neg (fun _ => rfl) .nop)) (.ite (.an (.cmp (op := .eq) rfl (.loc rfl) .int) (.an1 (.cmp (op := .eq) rfl (.loc rfl) (.bin (op := .add) rfl (.loc rfl) .int)))) (.app rfl (.tu4 .neg (.bys (by decide)) .int .int) rfl (.asg rfl .neg (fun _ => rfl) .nop)) (.ite (.or (.cmp (op := .gt) rfl (.loc rfl) (.len (bI_228_len P) (.loc rfl))) (.or1 (.cmp (op := .ne) rfl (.sl2 (.loc rfl) (.loc rfl) (.bin (op := .add) rfl (.loc rfl) .int)) (.ca2 (gI_228__law_four P) (isfn_216 P) (.loc rfl) (.sl2 (.loc rfl) (.bin (op := .add) rfl (.loc rfl) .int) (.loc rfl)))))) (.app rfl (.tu4 .neg (.bys (by decide)) .int (.loc rfl)) rfl (.asg rfl .neg (fun _ => rfl) .nop)) (.app rfl (.tu4 (.loc rfl) (.sl2 (.loc rfl) (.bin (op := .add) rfl (.loc rfl) .int) (.loc rfl)) (.bin (op := .add) rfl (.loc rfl) (.loc rfl)) .int) rfl (.asg rfl (.loc rfl) (fun _ => rfl) .nop)) .nop) .nop) .nop))) .nop)) .nop)))) (.ret2 rfl (.loc rfl)))))
noncomputable def ms_160 : MS := (.auga 0 6 .add (.loc 1) (.appf 0 7 (.loc 2) .nop))
theorem is_160 (P : Params) : IsS (Kf P) 184 (fdOf P 160).scope nm_160 true ms_160 (bodyOf P 160) :=
  (.auga (f := 6) (op := .add) rfl rfl rfl (.loc rfl) (.appf (f := 7) rfl rfl (.loc rfl) rfl .nop))
noncomputable def ms_167 : MS := (.seta 0 3 (.att (.loc 0) 4) (.seta 0 4 (.min (.len (.att (.loc 0) 0)) (.bin .add (.att (.loc 0) 3) (.att (.loc 0) 1))) (.seta 0 5 (.cmp .lt (.bin .sub (.att (.loc 0) 4) (.att (.loc 0) 3)) (.att (.loc 0) 1)) .nop)))
theorem is_167 (P : Params) : IsS (Kf P) 184 (fdOf P 167).scope nm_167 true ms_167 (bodyOf P 167) :=
  (.seta (f := 3) rfl rfl (.att (f := 4) rfl (.loc rfl)) (fun _ => rfl) (.seta (f := 4) rfl rfl (.min (bI_167_min P) (.len (bI_167_len P) (.att (f := 0) rfl (.loc rfl))) (.bin (op := .add) rfl (.att (f := 3) rfl (.loc rfl)) (.att (f := 1) rfl (.loc rfl)))) (fun _ => rfl) (.seta (f := 5) rfl rfl (.cmp (op := .lt) rfl (.bin (op := .sub) rfl (.att (f := 4) rfl (.loc rfl)) (.att (f := 3) rfl (.loc rfl))) (.att (f := 1) rfl (.loc rfl))) (fun _ => rfl) .nop)))
noncomputable def r_174_1 : MS := (.seta 0 3 (.loc 5) (.ret (.tu2 (.loc 4) (.sl1 (.loc 6) (.int 1)))))
noncomputable def r_174_2 : MS := (.asg 5 (.bin .add (.bin .add (.loc 1) (.int (7))) (.loc 3)) (.asg 6 (.sl2 (.att (.loc 0) 0) (.bin .sub (.bin .add (.loc 1) (.int (7))) (.int 1)) (.loc 5)) (.ite (.p (.cmp .ne (.ca2 89 (.att (.loc 0) 0) (.loc 1)) (.ca2 118 (.att (.loc 0) 2) (.loc 6)))) (.seta 0 3 (.att (.loc 0) 4) (.auga 0 10 .add (.int 1) (.mc2 0 160 (.loc 2) (.str 17) (.ret (.tu2 (.int (-2)) (.bys [])))))) .nop r_174_1)))
noncomputable def r_174_3 : MS := (.auga 0 10 .add (.int 1) (.mc2 0 160 (.loc 2) (.str 17) (.ret (.tu2 (.int (-2)) (.bys [])))))
noncomputable def r_174_4 : MS := (.ite (.an (.p (.cmp .eq (.loc 4) (.int (0)))) (.p (.cmp .eq (.loc 3) (.int 0)))) (.seta 0 3 (.att (.loc 0) 4) (.auga 0 10 .add (.int 1) (.ret (.tu2 (.int (-2)) (.bys []))))) .nop r_174_2)
noncomputable def r_174_5 : MS := (.ret (.tu2 (.int (-1)) (.bys [])))
noncomputable def r_174_6 : MS := (.mc0 0 167 .nop)
noncomputable def t_174_1 : MT := (.p (.cmp .lt (.bin .sub (.att (.loc 0) 4) (.att (.loc 0) 3)) (.int (7))))
noncomputable def b_174_1 : MS := (.ite (.p (.att (.loc 0) 5)) (.ite (.p (.cmp .lt (.att (.loc 0) 3) (.att (.loc 0) 4))) (.seta 0 8 (.bool true) (.seta 0 3 (.att (.loc 0) 4) .nop)) .nop r_174_5) .nop r_174_6)
noncomputable def r_174_7 : MS := (.asg 1 (.att (.loc 0) 3) (.asg 2 (.bin .sub (.att (.loc 0) 4) (.loc 1)) (.asg 3 (.bin .add (.idx (.att (.loc 0) 0) (.bin .add (.loc 1) (.int 4))) (.bin .mul (.idx (.att (.loc 0) 0) (.bin .add (.loc 1) (.int 5))) (.int 256))) (.asg 4 (.idx (.att (.loc 0) 0) (.bin .add (.loc 1) (.int 6))) (.ite (.p (.cmp .gt (.bin .add (.int (7)) (.loc 3)) (.loc 2))) (.seta 0 3 (.att (.loc 0) 4) (.ite (.p (.att (.loc 0) 5)) (.seta 0 8 (.bool true) (.ret (.tu2 (.int (-1)) (.bys [])))) .nop r_174_3)) .nop r_174_4)))))
noncomputable def ms_174 : MS := (.whl t_174_1 b_174_1 r_174_7)
theorem is_174 (P : Params) : IsS (Kf P) 184 (fdOf P 174).scope nm_174 true ms_174 (bodyOf P 174) :=
  (.whl (.cmp (op := .lt) rfl (.bin (op := .sub) rfl (.att (f := 4) rfl (.loc rfl)) (.att (f := 3) rfl (.loc rfl))) (.glb (gI_174_HEADER P))) (.ite (.p (.att (f := 5) rfl (.loc rfl)) (fun _ _ => rfl)) (.ite (.cmp (op := .lt) rfl (.att (f := 3) rfl (.loc rfl)) (.att (f := 4) rfl (.loc rfl))) (.seta (f := 8) rfl rfl .bool (fun _ => rfl) (.seta (f := 3) rfl rfl (.att (f := 4) rfl (.loc rfl)) (fun _ => rfl) .nop)) .nop (.ret (.tu2 (.glb (gI_174_AT_END P)) (.bys (by decide))))) .nop (.mc0 rfl rfl (meth_167 P) rfl .nop)) (.asg rfl (.att (f := 3) rfl (.loc rfl)) (fun _ => rfl) (.asg rfl (.bin (op := .sub) rfl (.att (f := 4) rfl (.loc rfl)) (.loc rfl)) (fun _ => rfl) (.asg rfl (.bin (op := .add) rfl (.idx (.att (f := 0) rfl (.loc rfl)) (.bin (op := .add) rfl (.loc rfl) .int)) (.bin (op := .mul) rfl (.idx (.att (f := 0) rfl (.loc rfl)) (.bin (op := .add) rfl (.loc rfl) .int)) .int)) (fun _ => rfl) (.asg rfl (.idx (.att (f := 0) rfl (.loc rfl)) (.bin (op := .add) rfl (.loc rfl) .int)) (fun _ => rfl) (.ite (.cmp (op := .gt) rfl (.bin (op := .add) rfl (.glb (gI_174_HEADER P)) (.loc rfl)) (.loc rfl)) (.seta (f := 3) rfl rfl (.att (f := 4) rfl (.loc rfl)) (fun _ => rfl) (.ite (.p (.att (f := 5) rfl (.loc rfl)) (fun _ _ => rfl)) (.seta (f := 8) rfl rfl .bool (fun _ => rfl) (.ret (.tu2 (.glb (gI_174_AT_END P)) (.bys (by decide))))) .nop (.auga (f := 10) (op := .add) rfl rfl rfl .int (.mc2 rfl rfl (meth_160 P) (.loc rfl) (.str (by decide +kernel)) rfl (.ret (.tu2 (.glb (gI_174_BROKEN P)) (.bys (by decide)))))))) .nop (.ite (.an (.cmp (op := .eq) rfl (.loc rfl) (.glb (gI_174_ZERO P))) (.an1 (.cmp (op := .eq) rfl (.loc rfl) .int))) (.seta (f := 3) rfl rfl (.att (f := 4) rfl (.loc rfl)) (fun _ => rfl) (.auga (f := 10) (op := .add) rfl rfl rfl .int (.ret (.tu2 (.glb (gI_174_BROKEN P)) (.bys (by decide)))))) .nop (.asg rfl (.bin (op := .add) rfl (.bin (op := .add) rfl (.loc rfl) (.glb (gI_174_HEADER P))) (.loc rfl)) (fun _ => rfl) (.asg rfl (.sl2 (.att (f := 0) rfl (.loc rfl)) (.bin (op := .sub) rfl (.bin (op := .add) rfl (.loc rfl) (.glb (gI_174_HEADER P))) .int) (.loc rfl)) (fun _ => rfl) (.ite (.cmp (op := .ne) rfl (.ca2 (gI_174_read_fixed32 P) (isfn_89 P) (.att (f := 0) rfl (.loc rfl)) (.loc rfl)) (.ca2 (gI_174_checksum P) (isfn_118 P) (.att (f := 2) rfl (.loc rfl)) (.loc rfl))) (.seta (f := 3) rfl rfl (.att (f := 4) rfl (.loc rfl)) (fun _ => rfl) (.auga (f := 10) (op := .add) rfl rfl rfl .int (.mc2 rfl rfl (meth_160 P) (.loc rfl) (.str (by decide +kernel)) rfl (.ret (.tu2 (.glb (gI_174_BROKEN P)) (.bys (by decide))))))) .nop (.seta (f := 3) rfl rfl (.loc rfl) (fun _ => rfl) (.ret (.tu2 (.loc rfl) (.sl1 (.loc rfl) .int))))))))))))))
noncomputable def r_181_1 : MS := (.nb1 2 (.loc 4) (.asg 1 (.bool true) .nop))
noncomputable def r_181_2 : MS := (.ite (.p (.cmp .eq (.loc 3) (.int (1)))) (.seta 0 9 (.att (.loc 0) 3) (.ret (.loc 4))) .nop r_181_1)
noncomputable def r_181_3 : MS := (.nb0 2 (.asg 1 (.bool false) .nop))
noncomputable def r_181_4 : MS := (.ret .none)
noncomputable def r_181_5 : MS := (.ite (.or (.p (.cmp .eq (.loc 3) (.int (1)))) (.p (.cmp .eq (.loc 3) (.int (2))))) (.ite (.p (.loc 1)) (.auga 0 10 .add (.int 1) (.ite (.p (.cmp .gt (.len (.loc 2)) (.int 0))) (.mc2 0 160 (.len (.loc 2)) (.str 26) .nop) .nop .nop)) .nop r_181_2) (.ite (.or (.p (.cmp .eq (.loc 3) (.int (3)))) (.p (.cmp .eq (.loc 3) (.int (4))))) (.ite (.nt (.p (.loc 1))) (.auga 0 10 .add (.int 1) (.mc2 0 160 (.len (.loc 4)) (.str 25) .nop)) (.ext 2 (.loc 4) (.ite (.p (.cmp .eq (.loc 3) (.int (4)))) (.seta 0 9 (.att (.loc 0) 3) (.ret (.bytB (.loc 2)))) .nop .nop)) .nop) (.ite (.p (.cmp .eq (.loc 3) (.int (-2)))) (.ite (.p (.loc 1)) (.mc2 0 160 (.len (.loc 2)) (.str 31) .nop) .nop .nop) (.auga 0 10 .add (.int 1) (.mc2 0 160 (.bin .add (.len (.loc 4)) (.len (.loc 2))) (.bin .add (.str 20) (.strI (.loc 3))) .nop)) r_181_3) .nop) .nop)
noncomputable def t_181_1 : MT := (.p (.bool true))
noncomputable def b_181_1 : MS := (.mu0 3 4 0 174 (.ite (.p (.cmp .eq (.loc 3) (.int (-1)))) (.ite (.p (.loc 1)) (.seta 0 8 (.bool true) .nop) .nop r_181_4) .nop r_181_5))
noncomputable def ms_181 : MS := (.asg 1 (.bool false) (.nb0 2 (.whl t_181_1 b_181_1 .nop)))
theorem is_181 (P : Params) : IsS (Kf P) 184 (fdOf P 181).scope nm_181 true ms_181 (bodyOf P 181) :=
  (.asg rfl .bool (fun _ => rfl) (.nb0 rfl rfl (bI_181_bytearray P) (.whl (.p .bool (fun _ _ => rfl)) (.mu0 rfl rfl rfl rfl (meth_174 P) rfl (.ite (.cmp (op := .eq) rfl (.loc rfl) (.glb (gI_181_AT_END P))) (.ite (.p (.loc rfl) (fun _ _ => rfl)) (.seta (f := 8) rfl rfl .bool (fun _ => rfl) .nop) .nop (.ret .none)) .nop (.ite (.or (.cmp (op := .eq) rfl (.loc rfl) (.glb (gI_181_FULL P))) (.or1 (.cmp (op := .eq) rfl (.loc rfl) (.glb (gI_181_FIRST P))))) (.ite (.p (.loc rfl) (fun _ _ => rfl)) (.auga (f := 10) (op := .add) rfl rfl rfl .int (.ite (.cmp (op := .gt) rfl (.len (bI_181_len P) (.loc rfl)) .int) (.mc2 rfl rfl (meth_160 P) (.len (bI_181_len P) (.loc rfl)) (.str (by decide +kernel)) rfl .nop) .nop .nop)) .nop (.ite (.cmp (op := .eq) rfl (.loc rfl) (.glb (gI_181_FULL P))) (.seta (f := 9) rfl rfl (.att (f := 3) rfl (.loc rfl)) (fun _ => rfl) (.ret (.loc rfl))) .nop (.nb1 rfl rfl (bI_181_bytearray P) (.loc rfl) (.asg rfl .bool (fun _ => rfl) .nop)))) (.ite (.or (.cmp (op := .eq) rfl (.loc rfl) (.glb (gI_181_MIDDLE P))) (.or1 (.cmp (op := .eq) rfl (.loc rfl) (.glb (gI_181_LAST P))))) (.ite (.nt (.p (.loc rfl) (fun _ _ => rfl))) (.auga (f := 10) (op := .add) rfl rfl rfl .int (.mc2 rfl rfl (meth_160 P) (.len (bI_181_len P) (.loc rfl)) (.str (by decide +kernel)) rfl .nop)) (.ext rfl rfl (.loc rfl) rfl (.ite (.cmp (op := .eq) rfl (.loc rfl) (.glb (gI_181_LAST P))) (.seta (f := 9) rfl rfl (.att (f := 3) rfl (.loc rfl)) (fun _ => rfl) (.ret (.bytB (bI_181_bytes P) (.loc rfl)))) .nop .nop)) .nop) (.ite (.cmp (op := .eq) rfl (.loc rfl) (.glb (gI_181_BROKEN P))) (.ite (.p (.loc rfl) (fun _ _ => rfl)) (.mc2 rfl rfl (meth_160 P) (.len (bI_181_len P) (.loc rfl)) (.str (by decide +kernel)) rfl .nop) .nop .nop) (.auga (f := 10) (op := .add) rfl rfl rfl .int (.mc2 rfl rfl (meth_160 P) (.bin (op := .add) rfl (.len (bI_181_len P) (.loc rfl)) (.len (bI_181_len P) (.loc rfl))) (.bin (op := .add) rfl (.str (by decide +kernel)) (.strI (bI_181_str P) (.loc rfl))) rfl .nop)) (.nb0 rfl rfl (bI_181_bytearray P) (.asg rfl .bool (fun _ => rfl) .nop))) .nop) .nop))) .nop)))
noncomputable def t_195_1 : MT := (.an (.p (.notN (.loc 6))) (.p (.cmp .eq (.att (.loc 3) 10) (.int 0))))
noncomputable def b_195_1 : MS := (.app 4 (.loc 6) (.asg 5 (.att (.loc 3) 9) (.ma0 6 3 181 .nop)))
noncomputable def r_195_1 : MS := (.ret2 4 (.loc 5))
noncomputable def ms_195 : MS := (.newo 3 (.loc 0) (.loc 1) (.loc 2) (.newl 4 (.asg 5 (.int 0) (.ma0 6 3 181 (.whl t_195_1 b_195_1 r_195_1)))))
theorem is_195 (P : Params) : IsS (Kf P) 184 (fdOf P 195).scope nm_195 true ms_195 (bodyOf P 195) :=
  (.newo rfl rfl (gI_195_LogReader P) (.loc rfl) (.loc rfl) (.loc rfl) (.newl rfl (.asg rfl .int (fun _ => rfl) (.ma0 rfl rfl rfl (meth_181 P) rfl (.whl (.an (.notN (.loc rfl)) (.an1 (.cmp (op := .eq) rfl (.att (f := 10) rfl (.loc rfl)) .int))) (.app rfl (.loc rfl) rfl (.asg rfl (.att (f := 9) rfl (.loc rfl)) (fun _ => rfl) (.ma0 rfl rfl rfl (meth_181 P) rfl .nop))) (.ret2 rfl (.loc rfl)))))))
noncomputable def b_233_1 : MS := (.asg 20 (.idx (.loc 6) (.loc 17)) .nop)
noncomputable def r_233_1 : MS := (.retd 195 (.loc 0) (.loc 1) (.loc 2) (.tu2 (.cmr 5 19) (.loc 20)))
noncomputable def r_233_2 : MS := (.cfil 19 (.len (.loc 5)) 7 18 (.asg 20 (.int 0) (.forB 17 (.loc 19) b_233_1 r_233_1)))
noncomputable def r_233_3 : MS := (.asg 18 (.len (.loc 3)) (.ite (.p (.cmp .gt (.len (.loc 9)) (.int 0))) (.asg 18 (.idx (.loc 9) (.int 0)) .nop) .nop r_233_2))
noncomputable def r_233_4 : MS := (.ite (.an (.p (.cmp .gt (.len (.loc 5)) (.int 0))) (.p (.cmp .ne (.att (.loc 16) 9) (.idx (.loc 6) (.bin .sub (.len (.loc 6)) (.int 1)))))) (.ret (.bool false)) .nop r_233_3)
noncomputable def r_233_5 : MS := (.ite (.or (.p (.cmp .ne (.att (.loc 16) 6) (.loc 8))) (.or (.p (.cmp .ne (.att (.loc 16) 10) (.len (.loc 9)))) (.p (.cmp .ne (.att (.loc 16) 8) (.loc 4))))) (.ret (.bool false)) .nop r_233_4)
noncomputable def b_233_2 : MS := (.ite (.or (.mne 16 181 (.idx (.loc 5) (.loc 17))) (.p (.cmp .ne (.att (.loc 16) 9) (.idx (.loc 6) (.loc 17))))) (.ret (.bool false)) .nop .nop)
noncomputable def r_233_6 : MS := (.ite (.or (.mnn 16 181) (.mnn 16 181)) (.ret (.bool false)) .nop r_233_5)
noncomputable def t_233_1 : MT := (.an (.p (.cmp .lt (.loc 15) (.len (.loc 3)))) (.p (.cmp .eq (.idx (.idx (.loc 3) (.loc 15)) (.int 0)) (.int 3))))
noncomputable def b_233_3 : MS := (.asg 12 (.bin .add (.loc 12) (.idx (.idx (.loc 3) (.loc 15)) (.int 1))) (.aug 15 .add (.int 1) .nop))
noncomputable def r_233_7 : MS := (.ite (.p (.cmp .eq (.loc 15) (.len (.loc 3)))) (.asg 4 (.bool true) .nop) (.ite (.p (.cmp .eq (.idx (.idx (.loc 3) (.loc 15)) (.int 0)) (.int 4))) (.app 5 (.bin .add (.loc 12) (.idx (.idx (.loc 3) (.loc 15)) (.int 1))) (.app 6 (.idx (.idx (.loc 3) (.loc 15)) (.int 2)) (.app 7 (.loc 15) (.aug 15 .add (.int 1) .nop)))) (.aug 8 .add (.len (.loc 12)) (.ite (.or (.p (.cmp .eq (.idx (.idx (.loc 3) (.loc 15)) (.int 0)) (.int 1))) (.p (.cmp .eq (.idx (.idx (.loc 3) (.loc 15)) (.int 0)) (.int 2)))) (.app 9 (.loc 15) .nop) .nop .nop)) .nop) .nop)
noncomputable def r_233_8 : MS := (.asg 10 (.loc 15) .nop)
noncomputable def t_233_2 : MT := (.p (.cmp .lt (.loc 10) (.len (.loc 3))))
noncomputable def b_233_4 : MS := (.un4 11 12 13 14 (.idx (.loc 3) (.loc 10)) (.asg 15 (.bin .add (.loc 10) (.int 1)) (.ite (.p (.cmp .eq (.loc 11) (.int 2))) (.whl t_233_1 b_233_3 r_233_7) (.ite (.p (.cmp .eq (.loc 11) (.int 1))) (.app 5 (.loc 12) (.app 6 (.loc 13) (.app 7 (.loc 10) .nop))) (.aug 8 .add (.bin .add (.len (.loc 12)) (.loc 14)) (.app 9 (.loc 10) .nop)) .nop) r_233_8)))
noncomputable def r_233_9 : MS := (.newo 16 (.loc 0) (.loc 1) (.loc 2) (.forN 17 (.len (.loc 5)) b_233_2 r_233_6))
noncomputable def ms_233 : MS := (.un2 3 4 (.ca3 228 (.loc 0) (.loc 1) (.loc 2)) (.newl 5 (.newl 6 (.newl 7 (.asg 8 (.int 0) (.newl 9 (.asg 10 (.int 0) (.whl t_233_2 b_233_4 r_233_9))))))))
theorem is_233 (P : Params) : IsS (Kf P) 184 (fdOf P 233).scope nm_233 true ms_233 (bodyOf P 233) :=
  (.un2 rfl rfl (.ca3 (gI_233__law_pieces P) (isfn_228 P) (.loc rfl) (.loc rfl) (.loc rfl)) (fun _ => rfl) (fun _ => rfl) (.newl rfl (.newl rfl (.newl rfl (.asg rfl .int (fun _ => rfl) (.newl rfl (.asg rfl .int (fun _ => rfl) (.whl (.cmp (op := .lt) rfl (.loc rfl) (.len (bI_233_len P) (.loc rfl))) (.un4 rfl rfl rfl rfl (.idx (.loc rfl) (.loc rfl)) (fun _ => rfl) (fun _ => rfl) (.asg rfl (.bin (op := .add) rfl (.loc rfl) .int) (fun _ => rfl) (.ite (.cmp (op := .eq) rfl (.loc rfl) .int) (.whl (.an (.cmp (op := .lt) rfl (.loc rfl) (.len (bI_233_len P) (.loc rfl))) (.an1 (.cmp (op := .eq) rfl (.idx (.idx (.loc rfl) (.loc rfl)) .int) .int))) (.asg rfl (.bin (op := .add) rfl (.loc rfl) (.idx (.idx (.loc rfl) (.loc rfl)) .int)) (fun _ => rfl) (.aug (op := .add) rfl rfl .int .nop)) (.ite (.cmp (op := .eq) rfl (.loc rfl) (.len (bI_233_len P) (.loc rfl))) (.asg rfl .bool (fun _ => rfl) .nop) (.ite (.cmp (op := .eq) rfl (.idx (.idx (.loc rfl) (.loc rfl)) .int) .int) (.app rfl (.bin (op := .add) rfl (.loc rfl) (.idx (.idx (.loc rfl) (.loc rfl)) .int)) rfl (.app rfl (.idx (.idx (.loc rfl) (.loc rfl)) .int) rfl (.app rfl (.loc rfl) rfl (.aug (op := .add) rfl rfl .int .nop)))) (.aug (op := .add) rfl rfl (.len (bI_233_len P) (.loc rfl)) (.ite (.or (.cmp (op := .eq) rfl (.idx (.idx (.loc rfl) (.loc rfl)) .int) .int) (.or1 (.cmp (op := .eq) rfl (.idx (.idx (.loc rfl) (.loc rfl)) .int) .int))) (.app rfl (.loc rfl) rfl .nop) .nop .nop)) .nop) .nop)) (.ite (.cmp (op := .eq) rfl (.loc rfl) .int) (.app rfl (.loc rfl) rfl (.app rfl (.loc rfl) rfl (.app rfl (.loc rfl) rfl .nop))) (.aug (op := .add) rfl rfl (.bin (op := .add) rfl (.len (bI_233_len P) (.loc rfl)) (.loc rfl)) (.app rfl (.loc rfl) rfl .nop)) .nop) (.asg rfl (.loc rfl) (fun _ => rfl) .nop)))) (.newo rfl rfl (gI_233_LogReader P) (.loc rfl) (.loc rfl) (.loc rfl) (.forN rfl (bI_233_range P) (.len (bI_233_len P) (.loc rfl)) (.ite (.or (.mne rfl rfl (meth_181 P) (.idx (.loc rfl) (.loc rfl)) rfl) (.or1 (.cmp (op := .ne) rfl (.att (f := 9) rfl (.loc rfl)) (.idx (.loc rfl) (.loc rfl))))) (.ret .bool) .nop .nop) (.ite (.or (.mnn rfl rfl (meth_181 P) rfl) (.or1 (.mnn rfl rfl (meth_181 P) rfl))) (.ret .bool) .nop (.ite (.or (.cmp (op := .ne) rfl (.att (f := 6) rfl (.loc rfl)) (.loc rfl)) (.or (.cmp (op := .ne) rfl (.att (f := 10) rfl (.loc rfl)) (.len (bI_233_len P) (.loc rfl))) (.or1 (.cmp (op := .ne) rfl (.att (f := 8) rfl (.loc rfl)) (.loc rfl))))) (.ret .bool) .nop (.ite (.an (.cmp (op := .gt) rfl (.len (bI_233_len P) (.loc rfl)) .int) (.an1 (.cmp (op := .ne) rfl (.att (f := 9) rfl (.loc rfl)) (.idx (.loc rfl) (.bin (op := .sub) rfl (.len (bI_233_len P) (.loc rfl)) .int))))) (.ret .bool) .nop (.asg rfl (.len (bI_233_len P) (.loc rfl)) (fun _ => rfl) (.ite (.cmp (op := .gt) rfl (.len (bI_233_len P) (.loc rfl)) .int) (.asg rfl (.idx (.loc rfl) .int) (fun _ => rfl) .nop) .nop (.cfil rfl rfl (bI_233_range P) (.len (bI_233_len P) (.loc rfl)) rfl rfl rfl rfl (.of rfl rfl rfl rfl rfl rfl rfl rfl rfl rfl) (fun env h => by cases env; cases h; rfl) (.asg rfl .int (fun _ => rfl) (.forB rfl (.loc rfl) (fun _ _ => rfl) (.asg rfl (.idx (.loc rfl) (.loc rfl)) (fun _ => rfl) .nop) (.retd rfl (gI_233_read_prefix P) (isfn_195 P) (.loc rfl) (.loc rfl) (.loc rfl) (.tu2 (.cmr rfl rfl rfl (.of rfl rfl rfl rfl rfl rfl)) (.loc rfl)))))))))))))))))))))
end Mine
end

section
open PySem PySem.W PyProof.Rows PySem.Calls
set_option autoImplicit false
set_option maxRecDepth 100000
namespace Mine

noncomputable def crcStep (c : Nat) : Nat := c / 2 ^^^ 2197175160 * (c % 2)
noncomputable def crc4 (c : Nat) : Nat := crcStep (crcStep (crcStep (crcStep c)))
noncomputable def crcByte (c b : Nat) : Nat := crc4 (crc4 (c ^^^ b))
noncomputable def crcBits (l : List UInt8) : Nat := l.foldl (fun c b => crcByte c b.toNat) 4294967295
noncomputable def maskN (r : Nat) : Nat := (r / 32768 + r % 32768 * 131072 + 2726488792) % 4294967296
noncomputable def sumB (l : List UInt8) : Nat := (l.map fun c => c.toNat).sum
noncomputable def ckN (check : Int) (l : List UInt8) : Nat := if check = 2 then (sumB l * 251 + l.length * 65537 + 7) % 4294967296 else maskN (4294967295 - crcBits l)
noncomputable def le4 (n : Nat) : List UInt8 := [n.toUInt8, (n / 256).toUInt8, (n / 65536).toUInt8, (n / 16777216).toUInt8]

theorem crcStep_lt {c : Nat} (h : c < 4294967296) : crcStep c < 4294967296 := by
  unfold crcStep
  refine Nat.xor_lt_two_pow (n := 32) (by omega) ?_
  have : c % 2 < 2 := Nat.mod_lt _ (by decide)
  have : 2197175160 * (c % 2) ≤ 2197175160 * 1 := Nat.mul_le_mul_left _ (by omega)
  omega
theorem crc4_lt {c : Nat} (h : c < 4294967296) : crc4 c < 4294967296 := crcStep_lt (crcStep_lt (crcStep_lt (crcStep_lt h)))
theorem crcByte_lt {c b : Nat} (h : c < 4294967296) (hb : b < 256) : crcByte c b < 4294967296 := crc4_lt (crc4_lt (Nat.xor_lt_two_pow (n := 32) h (by omega)))
theorem crcFold_lt : ∀ (l : List UInt8) {c : Nat}, c < 4294967296 → l.foldl (fun c b => crcByte c b.toNat) c < 4294967296
  | [], _, h => h
  | b :: l, _, h => crcFold_lt l (crcByte_lt h b.toNat_lt)
theorem crcBits_lt (l : List UInt8) : crcBits l < 4294967296 := crcFold_lt l (by decide)
theorem maskN_lt (r : Nat) : maskN r < 4294967296 := Nat.mod_lt _ (by decide)
theorem ckN_lt (check : Int) (l : List UInt8) : ckN check l < 4294967296 := by
  unfold ckN
  split
  · exact Nat.mod_lt _ (by decide)
  · exact maskN_lt _

theorem crcStep_xor (a b : Nat) : crcStep (a ^^^ b) = crcStep a ^^^ crcStep b := by
  unfold crcStep
  have h : (a ^^^ b) % 2 = (a % 2) ^^^ (b % 2) := by
    have := @Nat.xor_mod_two_pow a b 1
    simpa using this
  rw [Nat.xor_div_two, h]
  have ha : a % 2 = 0 ∨ a % 2 = 1 := by omega
  have hb : b % 2 = 0 ∨ b % 2 = 1 := by omega
  rcases ha with ha | ha <;> rcases hb with hb | hb <;> rw [ha, hb]
  · simp
  · simp [Nat.xor_assoc]
  · simp only [Nat.mul_one, Nat.mul_zero, Nat.xor_zero, Nat.zero_xor, Nat.xor_self]
    rw [Nat.xor_assoc, Nat.xor_comm (b / 2), ← Nat.xor_assoc]
  · simp only [Nat.mul_one, Nat.mul_zero, Nat.xor_zero, Nat.xor_self]
    rw [Nat.xor_assoc, Nat.xor_comm 2197175160 (b / 2 ^^^ 2197175160), Nat.xor_assoc (b / 2), Nat.xor_self, Nat.xor_zero]
theorem crc4_xor (a b : Nat) : crc4 (a ^^^ b) = crc4 a ^^^ crc4 b := by
  unfold crc4; rw [crcStep_xor, crcStep_xor, crcStep_xor, crcStep_xor]
theorem crcStep_even (x : Nat) : crcStep (2 * x) = x := by
  unfold crcStep
  rw [Nat.mul_div_cancel_left _ (by decide), Nat.mul_mod_right]; simp
theorem crc4_hi (x : Nat) : crc4 (16 * x) = x := by
  unfold crc4
  rw [show 16 * x = 2 * (2 * (2 * (2 * x))) from by omega, crcStep_even, crcStep_even, crcStep_even, crcStep_even]
theorem split16 (c : Nat) : c = 16 * (c / 16) ^^^ (c &&& 15) := by
  have h1 : (c &&& 15) = c % 16 := Nat.and_two_pow_sub_one_eq_mod c 4
  rw [h1]
  have h2 := nat_xor_and (16 * (c / 16)) (c % 16)
  have h3 : 16 * (c / 16) &&& c % 16 = 0 := by
    apply Nat.eq_of_testBit_eq
    intro i
    rw [Nat.testBit_and, Nat.zero_testBit]
    by_cases hi : i < 4
    · have : (16 * (c / 16)).testBit i = false := by
        rw [show 16 * (c / 16) = 2 ^ 4 * (c / 16) from rfl, Nat.testBit_two_pow_mul]
        simp; omega
      rw [this]; rfl
    · have : (c % 16).testBit i = false := by
        rw [show c % 16 = c % 2 ^ 4 from rfl, Nat.testBit_mod_two_pow]
        simp; omega
      rw [this, Bool.and_false]
  omega
/-- four bits at once by a table -/
theorem crc4_tab (c : Nat) : crc4 c = c / 16 ^^^ crc4 (c &&& 15) := by
  have h := congrArg crc4 (split16 c)
  rw [crc4_xor, crc4_hi] at h
  exact h

theorem xor_max {x : Nat} (h : x < 4294967296) : x ^^^ 4294967295 = 4294967295 - x := by
  have h1 := nat_xor_and x 4294967295
  have h2 : x &&& 4294967295 = x % 2 ^ 32 := Nat.and_two_pow_sub_one_eq_mod x 32
  rw [Nat.mod_eq_of_lt h] at h2
  omega
theorem and_max (x : Nat) : x &&& 4294967295 = x % 4294967296 := Nat.and_two_pow_sub_one_eq_mod x 32
/-- the rotation -/
theorem mask_eq {c : Nat} (h : c < 4294967296) : ((c / 32768 ||| c * 131072) + 2726488792) &&& 4294967295 = maskN c := by
  have hor : c / 32768 ||| c * 131072 = c / 32768 + c * 131072 := by
    have h1 := nat_or_add_and (c / 32768) (c * 131072)
    have h3 : c / 32768 &&& c * 131072 = 0 := by
      apply Nat.eq_of_testBit_eq
      intro i
      rw [Nat.testBit_and, Nat.zero_testBit]
      by_cases hi : i < 17
      · have : (c * 131072).testBit i = false := by
          rw [show c * 131072 = 2 ^ 17 * c from by omega, Nat.testBit_two_pow_mul]
          simp; omega
        rw [this, Bool.and_false]
      · have : (c / 32768).testBit i = false := Nat.testBit_lt_two_pow (Nat.lt_of_lt_of_le (show c / 32768 < 2 ^ 17 by omega) (Nat.pow_le_pow_right (by decide) (by omega)))
        rw [this]; rfl
    omega
  rw [hor, and_max]
  unfold maskN
  have e : c * 131072 = c % 32768 * 131072 + 4294967296 * (c / 32768) := by omega
  omega
end Mine
end

section
open PySem PySem.W PyProof.Rows PySem.Calls PySem.Builtin
set_option Elab.async false
set_option autoImplicit false
set_option maxRecDepth 100000
namespace Mine

theorem bAdd (a b : Int) (Q : V → Prop) : binS .add (.int a) (.int b) Q = Q (.int (a + b)) := rfl
theorem bAddB (a b : List UInt8) (Q : V → Prop) : binS .add (.bytes a) (.bytes b) Q = (a.length + b.length ≤ 1000000 ∧ Q (.bytes (a ++ b))) := rfl
theorem bAddS (a b : Nat) (Q : V → Prop) : binS .add (.str a) (.str b) Q = (a + b ≤ 1000 ∧ Q (.str (a + b))) := rfl
theorem bSub (a b : Int) (Q : V → Prop) : binS .sub (.int a) (.int b) Q = Q (.int (a - b)) := rfl
theorem bMul (a b : Int) (Q : V → Prop) : binS .mul (.int a) (.int b) Q = (Sm a ∧ Q (.int (a * b))) := rfl
theorem bDiv (a b : Int) (Q : V → Prop) : binS .fdiv (.int a) (.int b) Q = ((0 < b ∧ Sm b) ∧ Q (.int (a / b))) := rfl
theorem bMod (a b : Int) (Q : V → Prop) : binS .mod (.int a) (.int b) Q = (0 < b ∧ Q (.int (a % b))) := rfl
theorem bAnd (a b : Int) (Q : V → Prop) : binS .band (.int a) (.int b) Q = ((0 ≤ a ∧ 0 ≤ b) ∧ Q (.int ((a.toNat &&& b.toNat : Nat) : Int))) := rfl
theorem bOr (a b : Int) (Q : V → Prop) : binS .bor (.int a) (.int b) Q = ((0 ≤ a ∧ 0 ≤ b) ∧ Q (.int ((a.toNat ||| b.toNat : Nat) : Int))) := rfl
theorem bXor (a b : Int) (Q : V → Prop) : binS .bxor (.int a) (.int b) Q = ((0 ≤ a ∧ 0 ≤ b) ∧ Q (.int ((a.toNat ^^^ b.toNat : Nat) : Int))) := rfl
theorem bShl (a b : Int) (Q : V → Prop) : binS .shl (.int a) (.int b) Q = ((Sm a ∧ 0 ≤ b ∧ b ≤ 64) ∧ Q (.int (a * 2 ^ b.toNat))) := rfl
theorem bShr (a b : Int) (Q : V → Prop) : binS .shr (.int a) (.int b) Q = (0 ≤ b ∧ Q (.int (a / 2 ^ b.toNat))) := rfl
theorem cLt (a b : Int) (Q : Bool → Prop) : cmpS .lt (.int a) (.int b) Q = Q (decide (a < b)) := rfl
theorem cLe (a b : Int) (Q : Bool → Prop) : cmpS .le (.int a) (.int b) Q = Q (decide (a ≤ b)) := rfl
theorem cGt (a b : Int) (Q : Bool → Prop) : cmpS .gt (.int a) (.int b) Q = Q (decide (b < a)) := rfl
theorem cGe (a b : Int) (Q : Bool → Prop) : cmpS .ge (.int a) (.int b) Q = Q (decide (b ≤ a)) := rfl
theorem cEq (a b : Int) (Q : Bool → Prop) : cmpS .eq (.int a) (.int b) Q = Q (decide (a = b)) := rfl
theorem cNe (a b : Int) (Q : Bool → Prop) : cmpS .ne (.int a) (.int b) Q = Q (decide (a ≠ b)) := rfl
theorem cNeB (a b : List UInt8) (Q : Bool → Prop) : cmpS .ne (.bytes a) (.bytes b) Q = Q (decide (a ≠ b)) := rfl
theorem cNeO (a b : Bool) (Q : Bool → Prop) : cmpS .ne (.bool a) (.bool b) Q = Q (decide (a ≠ b)) := rfl
theorem trB (b : Bool) (Q : Bool → Prop) : trS (.bool b) Q = Q b := rfl
theorem trI (b : Int) (Q : Bool → Prop) : trS (.int b) Q = Q (decide (b ≠ 0)) := rfl
theorem iB (H : HM) (b : List UInt8) (i : Int) (Q : V → Prop) : idxS H (.bytes b) (.int i) Q = ((0 ≤ i ∧ i < b.length) ∧ Q (.int (b.getD i.toNat 0).toNat)) := rfl
theorem iL (H : HM) (b : List V) (i : Int) (Q : V → Prop) : idxS H (.lst b) (.int i) Q = ((0 ≤ i ∧ i < b.length) ∧ Q (b.getD i.toNat .none)) := rfl
theorem iR {H : HM} {a : Nat} {b : List V} (h : H a = some (.lst b)) (i : Int) (Q : V → Prop) : idxS H (.ref a) (.int i) Q = ((0 ≤ i ∧ i < b.length) ∧ Q (b.getD i.toNat .none)) := by
  show (match H a with | some (.lst vs) => _ | _ => False) = _
  rw [h]
theorem i40 (H : HM) (a b c d : V) (Q : V → Prop) : idxS H (.t4 a b c d) (.int 0) Q = Q a := rfl
theorem i41 (H : HM) (a b c d : V) (Q : V → Prop) : idxS H (.t4 a b c d) (.int 1) Q = Q b := rfl
theorem i42 (H : HM) (a b c d : V) (Q : V → Prop) : idxS H (.t4 a b c d) (.int 2) Q = Q c := rfl
theorem nI (i : Int) (Q : Int → Prop) : intS (.int i) Q = Q i := rfl
theorem yB (b : List UInt8) (Q : List UInt8 → Prop) : bysS (.bytes b) Q = Q b := rfl
theorem lB (H : HM) (b : List UInt8) (Q : V → Prop) : lenS H (.bytes b) Q = Q (.int b.length) := rfl
theorem lL (H : HM) (b : List V) (Q : V → Prop) : lenS H (.lst b) Q = Q (.int b.length) := rfl
theorem aAdd (a b : Int) (Q : V → Prop) : augS .add (.int a) (.int b) Q = Q (.int (a + b)) := rfl
theorem aXor (a b : Int) (Q : V → Prop) : augS .bxor (.int a) (.int b) Q = ((0 ≤ a ∧ 0 ≤ b) ∧ Q (.int ((a.toNat ^^^ b.toNat : Nat) : Int))) := rfl
theorem aShr (a b : Int) (Q : V → Prop) : augS .shr (.int a) (.int b) Q = (0 ≤ b ∧ Q (.int (a / 2 ^ b.toNat))) := rfl
theorem lcS (v : V) (l : Loc) (i : Nat) (Q : V → Prop) (h : lget l i = some v) : locS l i Q = Q v := by unfold locS; rw [h]
theorem tN15 : Int.toNat 15 = 15 := rfl
theorem tN16 : Int.toNat 16 = 16 := rfl
theorem tN255 : Int.toNat 255 = 255 := rfl
theorem tNmax : Int.toNat 4294967295 = 4294967295 := rfl

noncomputable def F1 : FT := addF noF 82 1 nm_82 [] ms_82
noncomputable def F2 : FT := addF F1 89 2 nm_89 [] ms_89
noncomputable def F3 : FT := addF F2 96 0 nm_96 [] ms_96
noncomputable def F4 : FT := addF F3 104 1 nm_104 [(.int 0, .int 0 310)] ms_104
noncomputable def F5 : FT := addF F4 111 1 nm_111 [] ms_111
noncomputable def F6 : FT := addF F5 118 2 nm_118 [] ms_118
noncomputable def F7 : FT := addF F6 139 3 nm_139 [] ms_139
noncomputable def F8 : FT := addF F7 125 1 nm_125 [] ms_125
noncomputable def F9 : FT := addF F8 132 1 nm_132 [] ms_132
noncomputable def F10 : FT := addF F9 202 0 nm_202 [] ms_202
noncomputable def F11 : FT := addF F10 209 2 nm_209 [] ms_209
noncomputable def F12 : FT := addF F11 216 2 nm_216 [] ms_216
noncomputable def F13 : FT := addF F12 221 3 nm_221 [] ms_221
noncomputable def F14 : FT := addF F13 228 3 nm_228 [] ms_228

theorem mask_W {c : Nat} {P : V → Prop} (hs : c < 4294967296) (hp : P (.int (maskN c))) : F5 111 [.int c] P := by
  refine .inr ⟨rfl, rfl, ?_⟩
  rw [show argL nm_111 ([.int (c : Int)] ++ _) = [some (.int c)] from rfl]
  simp only [ms_111, wq27, pq1, pq6, pq7, locS, lget, bAdd, bAnd, bOr, bShl, bShr, OutV]
  have e1 : (c : Int) / 2 ^ Int.toNat 15 = ((c / 32768 : Nat) : Int) := by simp
  have e2 : (c : Int) * 2 ^ Int.toNat 17 = ((c * 131072 : Nat) : Int) := by simp
  rw [e1, e2]
  refine ⟨by decide, ⟨⟨by omega, by omega⟩, by decide, by decide⟩, ⟨by omega, by omega⟩, ⟨by omega, by decide⟩, ?_⟩
  have e3 : ((((((c / 32768 : Nat) : Int)).toNat ||| (((c * 131072 : Nat) : Int)).toNat : Nat) : Int) + 2726488792).toNat &&& (4294967295 : Int).toNat = maskN c := by
    rw [← mask_eq hs]
    simp only [Int.toNat_natCast]
    congr 1
  rw [e3]; exact hp
theorem toB_nat (n : Nat) : toB (n : Int) = n.toUInt8 := rfl
theorem u8_mod (n : Nat) : (n % 256).toUInt8 = n.toUInt8 := by
  apply UInt8.toNat_inj.mp
  simp
theorem put_W {n : Nat} {P : V → Prop} (hs : n < 4294967296) (hp : P (.bytes (le4 n))) : F1 82 [.int n] P := by
  refine .inr ⟨rfl, rfl, ?_⟩
  rw [show argL nm_82 ([.int (n : Int)] ++ _) = [some (.int n)] from rfl]
  have h1 : decide ((n : Int) < 0) = false := by simp
  have h2 : decide ((4294967295 : Int) < (n : Int)) = false := by simp; omega
  simp only [ms_82, r_82_1, wq1, wq2, wq22, wq27, tq1, tq4, pq1, pq6, pq7, pq8, pq25, locS, lget, bAnd, bShr, cLt, cGt, trB, nI, OutV, h1, h2]
  have a1 : ∀ m : Nat, (m : Int).toNat &&& (255 : Int).toNat = m % 256 := fun m => Nat.and_two_pow_sub_one_eq_mod m 8
  have e1 : (n : Int) / 2 ^ Int.toNat 8 = ((n / 256 : Nat) : Int) := by simp
  have e2 : (n : Int) / 2 ^ Int.toNat 16 = ((n / 65536 : Nat) : Int) := by simp
  have e3 : (n : Int) / 2 ^ Int.toNat 24 = ((n / 16777216 : Nat) : Int) := by simp
  rw [e1, e2, e3, a1, a1, a1]
  refine ⟨fun q => by simp at q, fun _ => ⟨fun q => by simp at q, fun _ => ⟨⟨by omega, by decide⟩, by decide, ⟨by omega, by decide⟩, by decide, ⟨by omega, by decide⟩, by decide, ⟨⟨by omega, by omega⟩, ⟨by omega, by omega⟩, ⟨by omega, by omega⟩, ⟨by omega, by omega⟩⟩, ?_⟩⟩⟩
  simp only [toB_nat, u8_mod]
  exact hp
end Mine
end

section
open PySem PySem.W PyProof.Rows PySem.Calls PySem.Builtin
set_option Elab.async false
set_option autoImplicit false
set_option maxRecDepth 100000
namespace Mine

noncomputable def bt (d : List UInt8) (i : Nat) : Nat := (d.getD i 0).toNat
theorem bt_lt (d : List UInt8) (i : Nat) : bt d i < 256 := UInt8.toNat_lt _
noncomputable def rd4 (d : List UInt8) (i : Nat) : Nat := bt d i + bt d (i + 1) * 256 + bt d (i + 2) * 65536 + bt d (i + 3) * 16777216

theorem or_add {a b k : Nat} (h : a < 2 ^ k) : a ||| b * 2 ^ k = a + b * 2 ^ k := by
  have := Nat.two_pow_add_eq_or_of_lt h b
  rw [Nat.or_comm, Nat.mul_comm b, ← this]; omega
theorem rd4_or (d : List UInt8) (i : Nat) : ((bt d i ||| bt d (i + 1) * 256) ||| bt d (i + 2) * 65536) ||| bt d (i + 3) * 16777216 = rd4 d i := by
  have b0 := bt_lt d i
  have b1 := bt_lt d (i + 1)
  have b2 := bt_lt d (i + 2)
  rw [show (256 : Nat) = 2 ^ 8 from rfl, or_add (k := 8) b0, show (65536 : Nat) = 2 ^ 16 from rfl, or_add (k := 16) (by omega), show (16777216 : Nat) = 2 ^ 24 from rfl, or_add (k := 24) (by omega)]
  rfl
theorem p8 : (2 : Int) ^ Int.toNat 8 = 256 := by decide
theorem p16 : (2 : Int) ^ Int.toNat 16 = 65536 := by decide
theorem p24 : (2 : Int) ^ Int.toNat 24 = 16777216 := by decide
theorem mulN (x : Nat) (k : Nat) : ((x : Int) * ((k : Nat) : Int)).toNat = x * k := by
  rw [← Int.natCast_mul, Int.toNat_natCast]

theorem read_W {d : List UInt8} {i : Nat} {P : V → Prop} (h : i + 4 ≤ d.length) (hp : P (.int (rd4 d i))) : F2 89 [.bytes d, .int i] P := by
  refine .inr ⟨rfl, rfl, ?_⟩
  rw [show argL nm_89 ([.bytes d, .int (i : Int)] ++ _) = [some (.bytes d), some (.int i)] from rfl]
  have h1 : decide ((i : Int) < 0) = false := by simp
  have h2 : decide ((d.length : Int) < (i : Int) + 4) = false := by simp; omega
  have t1 : ((i : Int) + 1).toNat = i + 1 := by omega
  have t2 : ((i : Int) + 2).toNat = i + 2 := by omega
  have t3 : ((i : Int) + 3).toNat = i + 3 := by omega
  simp only [ms_89, r_89_1, wq1, wq2, wq22, wq27, tq1, tq4, pq1, pq6, pq7, pq8, pq14, pq18, locS, lget, bAdd, bOr, bShl, cLt, cGt, trB, lB, iB, OutV, h1, h2, t1, t2, t3, p8, p16, p24, Int.toNat_natCast]
  have b0 := bt_lt d i
  have b1 := bt_lt d (i + 1)
  have b2 := bt_lt d (i + 2)
  have b3 := bt_lt d (i + 3)
  show _ ∧ _
  refine ⟨fun q => by simp at q, fun _ => ⟨fun q => by simp at q, fun _ => ⟨⟨by omega, by omega⟩, ⟨by omega, by omega⟩, ⟨?_, by decide, by decide⟩, ?_⟩⟩⟩
  · unfold bt at b1; constructor <;> omega
  refine ⟨⟨by omega, by omega⟩, ⟨by omega, by omega⟩, ⟨?_, by decide, by decide⟩, ⟨by omega, by omega⟩, ⟨by omega, by omega⟩, ⟨?_, by decide, by decide⟩, ⟨by omega, by omega⟩, ?_⟩
  · unfold bt at b2; constructor <;> omega
  · unfold bt at b3; constructor <;> omega
  have e := rd4_or d i
  unfold bt at e
  have q1 : (((d.getD (i + 1) 0).toNat : Int) * 256).toNat = (d.getD (i + 1) 0).toNat * 256 := mulN _ 256
  have q2 : (((d.getD (i + 2) 0).toNat : Int) * 65536).toNat = (d.getD (i + 2) 0).toNat * 65536 := mulN _ 65536
  have q3 : (((d.getD (i + 3) 0).toNat : Int) * 16777216).toNat = (d.getD (i + 3) 0).toNat * 16777216 := mulN _ 16777216
  rw [q1, q2, q3, e]; exact hp

/-- the table of sixteen -/
noncomputable def tabN : List Nat := (List.range 16).map crc4
noncomputable def tabV : List V := tabN.map fun (x : Nat) => V.int (x : Int)

theorem seti_96 {F : FT} {a : Nat} {H : HM} {vs : List V} {c half low x y : Nat} {Q : Out → Loc → HM → Prop} (ha : H a = some (.lst vs)) (h1 : vs.getD low .none = .int (x : Int)) (h2 : low + half < vs.length) (hc : x ^^^ c = y)
    (h : Q .next [some (.ref a), some (.int (c : Int)), some (.int (half : Int)), some (.int (low : Int))] (up H a (.lst (vs.set (low + half) (.int (y : Int)))))) :
    W F noF noM b_96_1 [some (.ref a), some (.int (c : Int)), some (.int (half : Int)), some (.int (low : Int))] H Q := by
  have t1 : ((low : Int) + (half : Int)).toNat = low + half := by omega
  simp only [b_96_1, wq1, wq9, lget, ha, pq6, pq7, pq14, locS, iR ha, Int.toNat_natCast, h1, bAdd, bXor, nI, t1]
  subst hc
  exact ⟨⟨by omega, by omega⟩, ⟨by omega, by omega⟩, ⟨by omega, by omega⟩, h⟩
end Mine
end

section
open PySem PySem.W PyProof.Rows PySem.Calls PySem.Builtin
set_option Elab.async false
set_option autoImplicit false
set_option maxRecDepth 100000
namespace Mine

noncomputable def iV (l : List Nat) : List V := l.map fun (x : Nat) => V.int (x : Int)
noncomputable def tabIn (half c : Nat) (T lows : List Nat) : List Nat := lows.foldl (fun T low => T.set (low + half) (T.getD low 0 ^^^ c)) T
theorem iV_get {l : List Nat} {i : Nat} (h : i < l.length) : (iV l).getD i .none = .int ((l.getD i 0 : Nat) : Int) := by
  unfold iV
  rw [List.getD_eq_getElem?_getD, List.getElem?_map, List.getElem?_eq_getElem h, List.getD_eq_getElem?_getD, List.getElem?_eq_getElem h]
  rfl
theorem iV_len (l : List Nat) : (iV l).length = l.length := List.length_map ..
theorem iV_set (l : List Nat) (i y : Nat) : (iV l).set i (.int (y : Int)) = iV (l.set i y) := by
  unfold iV; rw [List.map_set]

theorem each_96 {F : FT} {a : Nat} {c half : Nat} {fin : Loc → HM → Prop} {Q : Out → Loc → HM → Prop} : ∀ (lows T : List Nat) (v3 : Option V) (H : HM), H a = some (.lst (iV T)) → (∀ low ∈ lows, low + half < T.length) →
    (∀ v3 H', H' a = some (.lst (iV (tabIn half c T lows))) → fin [some (.ref a), some (.int (c : Int)), some (.int (half : Int)), v3] H') →
    eachW 3 (W F noF noM b_96_1) fin Q (iV lows) [some (.ref a), some (.int (c : Int)), some (.int (half : Int)), v3] H
  | [], T, v3, H, ha, _, hf => hf v3 H ha
  | low :: lows, T, v3, H, ha, hl, hf => by
    have h1 := hl low List.mem_cons_self
    refine seti_96 (vs := iV T) ha (iV_get (by omega)) (by rw [iV_len]; exact h1) rfl ?_
    rw [iV_set]
    refine each_96 lows (T.set (low + half) (T.getD low 0 ^^^ c)) _ _ up_self (fun l hl' => by rw [List.length_set]; exact hl l (List.mem_cons_of_mem _ hl')) hf

noncomputable def cNext (c : Nat) : Nat := if c % 2 = 1 then c / 2 ^^^ 2197175160 else c / 2
theorem while_96 {F : FT} {a n : Nat} {c half : Nat} {T lows : List Nat} {v3 : Option V} {H : HM} {fin : Loc → HM → Prop} {Q : Out → Loc → HM → Prop} (ha : H a = some (.lst (iV T))) (hh : 0 < half) (hh' : half ≤ 8)
    (hl : ∀ low ∈ lows, low + half < T.length) (hi : ((List.range ((16 + 2 * (half : Int) - 1) / (2 * (half : Int))).toNat).map fun (j : Nat) => V.int (j * (2 * (half : Int)))) = iV lows)
    (h : ∀ v3 H', H' a = some (.lst (iV (tabIn half (cNext c) T lows))) → loopW (fun l H k => WT F noF noM l t_96_1 H fun c H' => k c l H') (W F noF noM b_96_2) fin Q n [some (.ref a), some (.int (cNext c : Int)), some (.int ((half / 2 : Nat) : Int)), v3] H') :
    loopW (fun l H k => WT F noF noM l t_96_1 H fun c H' => k c l H') (W F noF noM b_96_2) fin Q (n + 1) [some (.ref a), some (.int (c : Int)), some (.int (half : Int)), v3] H := by
  have hd : decide ((0 : Int) < (half : Int)) = true := by simp; omega
  have rest : W F noF noM r_96_2 [some (.ref a), some (.int (cNext c : Int)), some (.int (half : Int)), v3] H (fun o l' H' => match o with
      | .next => loopW (fun l H k => WT F noF noM l t_96_1 H fun c H' => k c l H') (W F noF noM b_96_2) fin Q n l' H'
      | .ret v => Q (.ret v) l' H') := by
    simp only [r_96_2, wq26, pq1, pq6, pq7, locS, lget, bMul, nI]
    refine ⟨⟨by decide, by decide⟩, ⟨trivial, by decide, by decide, by omega, by omega⟩, ?_⟩
    rw [hi]
    refine each_96 lows T v3 H ha hl fun v3' H' h' => ?_
    simp only [r_96_1, wq1, wq21, locS, lget, lset, pq1, aShr]
    refine ⟨by decide, ?_⟩
    have e : (half : Int) / 2 ^ Int.toNat 1 = ((half / 2 : Nat) : Int) := by simp
    rw [e]
    exact h v3' H' h'
  show WT F noF noM _ t_96_1 H _
  simp only [t_96_1, tq1, pq1, pq6, pq8, locS, lget, cGt, trB, hd]
  refine ⟨fun _ => ?_, fun q => by cases q⟩
  have a1 : (c : Int).toNat &&& (1 : Int).toNat = c % 2 := by
    rw [Int.toNat_natCast]; exact Nat.and_two_pow_sub_one_eq_mod c 1
  have e2 : (c : Int) / 2 ^ Int.toNat 1 = ((c / 2 : Nat) : Int) := by simp
  simp only [b_96_2, wq1, wq3, wq21, wq22, tq1, pq1, pq6, pq7, locS, lget, lset, bAnd, bXor, bShr, aShr, trI, a1, e2]
  refine ⟨⟨by omega, by decide⟩, fun q => ?_, fun q => ?_⟩
  · have q' : c % 2 = 1 := by simp at q; omega
    have e3 : ((((c / 2 : Nat) : Int)).toNat ^^^ (2197175160 : Int).toNat : Nat) = cNext c := by
      unfold cNext; rw [if_pos q']; rfl
    rw [e3]
    exact ⟨by decide, ⟨by omega, by decide⟩, rest⟩
  · have q' : ¬ c % 2 = 1 := by simp at q; omega
    have e3 : (c / 2 : Nat) = cNext c := by unfold cNext; rw [if_neg q']
    rw [e3]
    exact ⟨by decide, rest⟩

theorem tab_eq : tabIn 1 (cNext (cNext (cNext (cNext 1)))) (tabIn 2 (cNext (cNext (cNext 1))) (tabIn 4 (cNext (cNext 1)) (tabIn 8 (cNext 1) (List.replicate 16 0) [0]) [0, 8]) [0, 4, 8, 12]) [0, 2, 4, 6, 8, 10, 12, 14] = tabN := by decide +kernel

theorem crctab_W {P : V → Prop} (hp : P (.lst (iV tabN))) : F3 96 [] P := by
  refine .inr ⟨rfl, rfl, ?_⟩
  rw [show argL nm_96 ([] ++ _) = [none, none, none, none] from rfl]
  simp only [ms_96, wq3, wq5, wq23, pq1, nI]
  refine ⟨by decide, fun a _ => ⟨5, ?_⟩⟩
  refine while_96 (T := List.replicate 16 0) (lows := [0]) (c := 1) (half := 8) up_self (by decide) (by decide) (by decide) rfl fun v3 H h => ?_
  refine while_96 (lows := [0, 8]) (half := 4) h (by decide) (by decide) (by decide) rfl fun v3 H h => ?_
  refine while_96 (lows := [0, 4, 8, 12]) (half := 2) h (by decide) (by decide) (by decide) rfl fun v3 H h => ?_
  refine while_96 (lows := [0, 2, 4, 6, 8, 10, 12, 14]) (half := 1) h (by decide) (by decide) (by decide) rfl fun v3 H h => ?_
  rw [tab_eq] at h
  show WT _ noF noM _ t_96_1 H _
  have hd : decide ((0 : Int) < ((1 / 2 : Nat) : Int)) = false := by decide
  simp only [t_96_1, tq1, pq1, pq6, pq8, locS, lget, cGt, trB, hd]
  refine ⟨fun q => (by cases q), fun _ => ?_⟩
  simp only [r_96_3, wq28, lget, h, OutV]
  exact hp
end Mine
end

section
open PySem PySem.W PyProof.Rows PySem.Calls PySem.Builtin
set_option Elab.async false
set_option autoImplicit false
set_option maxRecDepth 100000
namespace Mine

noncomputable def bV (l : List UInt8) : List V := l.map fun (c : UInt8) => V.int (c.toNat : Int)
theorem tabN_get {i : Nat} (h : i < 16) : tabN.getD i 0 = crc4 i := by
  unfold tabN
  rw [List.getD_eq_getElem?_getD, List.getElem?_map, List.getElem?_range h]; rfl
theorem tabN_len : tabN.length = 16 := by decide +kernel

theorem step_104 {F : FT} {d : V} {v1 : Option V} {c b : Nat} {Q : Out → Loc → HM → Prop} (h : Q .next [some d, v1, some (.lst (iV tabN)), some (.int (crcByte c b : Int)), some (.int (b : Int))] noH) :
    W F noF noM b_104_1 [some d, v1, some (.lst (iV tabN)), some (.int (c : Int)), some (.int (b : Int))] noH Q := by
  have nib : ∀ x : Nat, ((x : Int) / 2 ^ Int.toNat 4) = ((x / 16 : Nat) : Int) := fun x => by simp
  have lt15 : ∀ x : Nat, (x &&& 15) < 16 := fun x => by
    have := Nat.and_two_pow_sub_one_eq_mod x 4
    have h2 : x &&& 15 = x % 16 := this
    omega
  have get : ∀ x : Nat, (iV tabN).getD (x &&& 15) .none = .int ((crc4 (x &&& 15) : Nat) : Int) := fun x => by
    rw [iV_get (by rw [tabN_len]; exact lt15 x), tabN_get (lt15 x)]
  simp only [b_104_1, wq1, wq3, wq21, locS, lget, lset, pq1, pq6, pq7, pq14, aXor, bXor, bShr, bAnd, iL, nib, tN15, Int.toNat_natCast, get, iV_len, tabN_len]
  have l1 := lt15 (c ^^^ b)
  have l2 := lt15 ((c ^^^ b) / 16 ^^^ crc4 ((c ^^^ b) &&& 15))
  refine ⟨⟨by omega, by omega⟩, by decide, ⟨by omega, by decide⟩, ⟨by omega, by omega⟩, ⟨by omega, by omega⟩, by decide, ⟨by omega, by decide⟩, ⟨by omega, by omega⟩, ⟨by omega, by omega⟩, ?_⟩
  rw [← crc4_tab, ← crc4_tab]
  exact h
theorem each_104 {F : FT} {d : V} {v1 : Option V} {fin : Loc → HM → Prop} {Q : Out → Loc → HM → Prop} : ∀ (l : List UInt8) (c : Nat) (v4 : Option V),
    (∀ v4, fin [some d, v1, some (.lst (iV tabN)), some (.int ((l.foldl (fun c b => crcByte c b.toNat) c : Nat) : Int)), v4] noH) →
    eachW 4 (W F noF noM b_104_1) fin Q (bV l) [some d, v1, some (.lst (iV tabN)), some (.int (c : Int)), v4] noH
  | [], c, v4, h => h v4
  | b :: l, c, v4, h => step_104 (each_104 l (crcByte c b.toNat) _ h)
theorem crc_W {d : List UInt8} {P : V → Prop} (hp : P (.int ((4294967295 - crcBits d : Nat) : Int))) : F4 104 [.bytes d] P := by
  refine .inr ⟨rfl, rfl, ?_⟩
  rw [show argL nm_104 ([.bytes d] ++ _) = [some (.bytes d), some (.int 0), none, none, none] from rfl]
  simp only [ms_104, wq3, wq24, pq1, pq6, pq7, pq33, callS]
  refine crctab_W ?_
  simp only [locS, lget, lset, bXor, itemsS]
  refine ⟨⟨by decide, by decide⟩, ?_⟩
  refine each_104 d 4294967295 none fun v4 => ?_
  have hlt := crcBits_lt d
  have e : ((((d.foldl (fun c b => crcByte c b.toNat) 4294967295 : Nat) : Int)).toNat ^^^ (4294967295 : Int).toNat : Nat) = 4294967295 - crcBits d := by
    rw [Int.toNat_natCast]
    exact xor_max hlt
  simp only [r_104_1, wq27, pq1, pq6, pq7, locS, lget, bXor, OutV, e]
  exact ⟨⟨by omega, by decide⟩, hp⟩

theorem sum_nat (l : List UInt8) : (l.map fun c => (c.toNat : Int)).sum = ((sumB l : Nat) : Int) := by
  unfold sumB
  induction l with
  | nil => rfl
  | cons c l ih => simp only [List.map_cons, List.sum_cons, ih, Int.natCast_add]
theorem sumB_le (l : List UInt8) : sumB l ≤ 255 * l.length := by
  unfold sumB
  induction l with
  | nil => simp
  | cons c l ih => have := c.toNat_lt; simp only [List.map_cons, List.sum_cons, List.length_cons]; omega
theorem cks_W {ck : Int} {d : List UInt8} {P : V → Prop} (hk : ck = 1 ∨ ck = 2) (hd : d.length ≤ 1000000) (hp : P (.int ((ckN ck d : Nat) : Int))) : F6 118 [.int ck, .bytes d] P := by
  refine .inr ⟨rfl, rfl, ?_⟩
  rw [show argL nm_118 ([.int ck, .bytes d] ++ _) = [some (.int ck), some (.bytes d)] from rfl]
  have hs := sumB_le d
  rcases hk with rfl | rfl
  · have h1 : decide ((1 : Int) = 1) = true := rfl
    simp only [ms_118, wq1, wq22, wq27, tq1, pq1, pq6, pq8, pq34, callS, locS, lget, cEq, trB]
    refine ⟨fun _ => .inl (crc_W (mask_W (by have := crcBits_lt d; omega) ?_)), fun q => by cases q⟩
    simp only [OutV]
    have e : ckN 1 d = maskN (4294967295 - crcBits d) := if_neg (by decide)
    rw [← e]; exact hp
  · have h1 : decide ((2 : Int) = 1) = false := rfl
    have h2 : decide ((2 : Int) = 2) = true := rfl
    simp only [ms_118, r_118_1, wq1, wq2, wq22, wq27, tq1, pq1, pq6, pq7, pq8, pq18, pq19, pq34, callS, locS, lget, cEq, trB, h1, yB, sum_nat, lB, bAdd, bMul, bAnd, OutV]
    refine ⟨fun q => (by cases q), fun _ => ⟨fun _ => ⟨⟨by omega, by omega⟩, ⟨by omega, by omega⟩, ⟨by omega, by decide⟩, ?_⟩, fun q => by cases q⟩⟩
    have e : ((((sumB d : Nat) : Int) * 251 + ((d.length : Nat) : Int) * 65537 + 7).toNat &&& (4294967295 : Int).toNat : Nat) = ckN 2 d := by
      have e1 : (((sumB d : Nat) : Int) * 251 + ((d.length : Nat) : Int) * 65537 + 7).toNat = sumB d * 251 + d.length * 65537 + 7 := by omega
      rw [e1]
      show _ &&& 4294967295 = _
      rw [and_max]
      exact (if_pos rfl).symm
    rw [e]; exact hp
end Mine
end

section
open PySem PySem.W PyProof.Rows PySem.Calls PySem.Builtin
set_option Elab.async false
set_option autoImplicit false
set_option maxRecDepth 100000
namespace Mine

theorem toBn (n : Nat) : toB ((n : Nat) : Int) = n.toUInt8 := rfl
theorem by_lt {n : Nat} (h : n < 256) : By ((n : Nat) : Int) := ⟨by omega, by omega⟩

theorem frag_W {kind ck : Int} {kd : Nat} {data : List UInt8} {P : V → Prop} (hkd : kind = (kd : Int)) (hkl : kd < 256) (hk : ck = 1 ∨ ck = 2) (hd : data.length ≤ 1000)
    (hp : P (.bytes ((le4 (ckN ck (kd.toUInt8 :: data)) ++ [data.length.toUInt8, (data.length / 256).toUInt8]) ++ (kd.toUInt8 :: data)))) : F7 139 [.int kind, .bytes data, .int ck] P := by
  subst hkd
  refine .inr ⟨rfl, rfl, ?_⟩
  rw [show argL nm_139 ([.int (kd : Int), .bytes data, .int ck] ++ _) = [some (.int kd), some (.bytes data), some (.int ck), none, none] from rfl]
  simp only [ms_139, wq3, wq27, pq1, pq6, pq7, pq18, pq23, pq24, pq34, pq35, callS, locS, lget, lset, lB, nI, bAddB, toBn]
  refine ⟨by_lt hkl, by simp; omega, cks_W hk (by simp; omega) (.inl (.inl (.inl (.inl (.inl (put_W (ckN_lt _ _) ?_))))))⟩
  have e1 : ((data.length : Nat) : Int) % 256 = ((data.length % 256 : Nat) : Int) := by simp
  have e2 : ((data.length : Nat) : Int) / 256 = ((data.length / 256 : Nat) : Int) := by simp
  simp only [bMod, bDiv, nI, e1, e2, toBn, bAddB, OutV]
  refine ⟨by decide, ⟨by decide, by decide⟩, ⟨by_lt (Nat.mod_lt _ (by decide)), by_lt (by omega)⟩, by simp [le4], by simp [le4]; omega, ?_⟩
  rw [u8_mod]
  exact hp
theorem cb_W {b : Int} {P : V → Prop} (h1 : 8 ≤ b) (h2 : b ≤ 65542) (hp : P .none) : F8 125 [.int b] P := by
  refine .inr ⟨rfl, rfl, ?_⟩
  rw [show argL nm_125 ([.int b] ++ _) = [some (.int b)] from rfl]
  have d1 : decide (b < 7 + 1) = false := by simp; omega
  have d2 : decide (65542 < b) = false := by simp; omega
  simp only [ms_125, wq1, wq2, wq22, tq1, tq4, pq1, pq6, pq7, pq8, locS, lget, bAdd, cLt, cGt, trB, d1, d2, OutV]
  exact ⟨fun q => (by cases q), fun _ => ⟨fun q => (by cases q), fun _ => hp⟩⟩
theorem ckd_W {b : Int} {P : V → Prop} (h1 : b = 1 ∨ b = 2) (hp : P .none) : F9 132 [.int b] P := by
  refine .inr ⟨rfl, rfl, ?_⟩
  rw [show argL nm_132 ([.int b] ++ _) = [some (.int b)] from rfl]
  simp only [ms_132, wq1, wq2, wq22, tq1, tq3, pq1, pq6, pq8, locS, lget, cNe, trB, OutV]
  rcases h1 with rfl | rfl
  · exact ⟨fun q => (by simp at q), fun _ => ⟨fun q => (by cases q), fun _ => hp⟩⟩
  · exact ⟨fun _ => ⟨fun q => (by simp at q), fun _ => hp⟩, fun _ => ⟨fun q => (by cases q), fun _ => hp⟩⟩
noncomputable def drawI (ns : List Int) (i : Nat) : Int := ns.getD (i % ns.length) 0 + 31 * ((i / ns.length : Nat) : Int)
theorem draw_W {ns : List Int} {i : Nat} {P : V → Prop} (hn : 0 < ns.length) (hl : ns.length ≤ 100) (hp : P (.int (drawI ns i))) : F11 209 [.lst (ns.map .int), .int (i : Int)] P := by
  refine .inr ⟨rfl, rfl, ?_⟩
  rw [show argL nm_209 ([.lst (ns.map .int), .int (i : Int)] ++ _) = [some (.lst (ns.map .int)), some (.int i)] from rfl]
  have e1 : (i : Int) % ((ns.length : Nat) : Int) = ((i % ns.length : Nat) : Int) := by simp
  have e2 : (i : Int) / ((ns.length : Nat) : Int) = ((i / ns.length : Nat) : Int) := by simp
  have hlt := Nat.mod_lt i hn
  have g : (ns.map V.int).getD (i % ns.length) .none = .int (ns.getD (i % ns.length) 0) := by
    rw [List.getD_eq_getElem?_getD, List.getElem?_map, List.getElem?_eq_getElem hlt, List.getD_eq_getElem?_getD, List.getElem?_eq_getElem hlt]; rfl
  simp only [ms_209, wq27, pq1, pq6, pq7, pq14, pq18, locS, lget, lL, List.length_map, bMod, bDiv, e1, e2, iL, Int.toNat_natCast, g, bMul, bAdd, OutV]
  exact ⟨by omega, ⟨by omega, by omega⟩, ⟨by omega, by omega, by omega⟩, ⟨by decide, by decide⟩, hp⟩

/-! the four octets -/
theorem each_216i {F : FT} {d : V} {v1 : Option V} {v3 : Option V} {fin : Loc → HM → Prop} {Q : Out → Loc → HM → Prop} : ∀ (js : List V) (c : Nat) (v4 : Option V), c < 4294967296 →
    (∀ v4, fin [v1, some d, some (.int ((Nat.repeat crcStep js.length c : Nat) : Int)), v3, v4] noH) →
    eachW 4 (W F noF noM b_216_1) fin Q js [v1, some d, some (.int (c : Int)), v3, v4] noH
  | [], c, v4, _, h => h v4
  | j :: js, c, v4, hc, h => by
    have e1 : (c : Int) / 2 = ((c / 2 : Nat) : Int) := by simp
    have e2 : (2197175160 : Int) * ((c : Int) % 2) = ((2197175160 * (c % 2) : Nat) : Int) := by omega
    have s : W F noF noM b_216_1 [v1, some d, some (.int (c : Int)), v3, some j] noH (fun o l' H' => match o with
      | .next => eachW 4 (W F noF noM b_216_1) fin Q js l' H'
      | .ret v => Q (.ret v) l' H') := by
      simp only [b_216_1, wq1, wq3, pq1, pq6, pq7, locS, lget, lset, bDiv, bMod, bMul, bXor, e1, e2, Int.toNat_natCast]
      refine ⟨⟨by decide, by decide⟩, by decide, ⟨by decide, by decide⟩, ⟨by omega, by omega⟩, ?_⟩
      refine each_216i (F := F) js (crcStep c) _ (crcStep_lt hc) fun v4 => ?_
      have := h v4
      have e : ∀ n c, Nat.repeat crcStep (n + 1) c = Nat.repeat crcStep n (crcStep c) := fun n => by
        induction n with
        | zero => intro c; rfl
        | succ n ih => intro c; exact congrArg crcStep (ih c)
      rw [List.length_cons, e] at this
      exact this
    exact s
theorem each_216 {F : FT} {d : V} {v1 : Option V} {fin : Loc → HM → Prop} {Q : Out → Loc → HM → Prop} : ∀ (l : List UInt8) (c : Nat) (v3 v4 : Option V), c < 4294967296 →
    (∀ v3 v4, fin [v1, some d, some (.int ((l.foldl (fun c b => crcByte c b.toNat) c : Nat) : Int)), v3, v4] noH) →
    eachW 3 (W F noF noM b_216_2) fin Q (bV l) [v1, some d, some (.int (c : Int)), v3, v4] noH
  | [], c, v3, v4, _, h => h v3 v4
  | b :: l, c, v3, v4, hc, h => by
    have hb := b.toNat_lt
    have s : W F noF noM b_216_2 [v1, some d, some (.int (c : Int)), some (.int (b.toNat : Int)), v4] noH (fun o l' H' => match o with
      | .next => eachW 3 (W F noF noM b_216_2) fin Q (bV l) l' H'
      | .ret v => Q (.ret v) l' H') := by
      simp only [b_216_2, wq1, wq3, wq25, pq1, pq6, pq7, locS, lget, lset, bXor, nI, Int.toNat_natCast]
      refine ⟨⟨by omega, by omega⟩, ⟨by decide, by decide⟩, ?_⟩
      refine each_216i (F := F) _ (c ^^^ b.toNat) _ (Nat.xor_lt_two_pow (n := 32) hc (by omega)) fun v4 => ?_
      exact each_216 (F := F) l (crcByte c b.toNat) _ _ (crcByte_lt hc hb) h
    exact s
theorem four_W {ck : Int} {d : List UInt8} {P : V → Prop} (hk : ck = 1 ∨ ck = 2) (hd : d.length ≤ 1000000) (hp : P (.bytes (le4 (ckN ck d)))) : F12 216 [.int ck, .bytes d] P := by
  refine .inr ⟨rfl, rfl, ?_⟩
  rw [show argL nm_216 ([.int ck, .bytes d] ++ _) = [some (.int ck), some (.bytes d), none, none, none] from rfl]
  have hs := sumB_le d
  have fin : ∀ {v3 v4 : Option V}, W F11 noF noM r_216_2 [some (.int ck), some (.bytes d), some (.int ((ckN ck d : Nat) : Int)), v3, v4] noH (OutV P) := fun {v3 v4} => by
    have hlt := ckN_lt ck d
    have e1 : ((ckN ck d : Nat) : Int) % 256 = ((ckN ck d % 256 : Nat) : Int) := by simp
    have e2 : ((ckN ck d : Nat) : Int) / 256 % 256 = ((ckN ck d / 256 % 256 : Nat) : Int) := by simp
    have e3 : ((ckN ck d : Nat) : Int) / 65536 % 256 = ((ckN ck d / 65536 % 256 : Nat) : Int) := by simp
    have e4 : ((ckN ck d : Nat) : Int) / 16777216 = ((ckN ck d / 16777216 : Nat) : Int) := by simp
    simp only [r_216_2, wq27, pq1, pq6, pq7, pq25, locS, lget, bMod, bDiv, nI, e1, e2, e3, e4, toBn, u8_mod, OutV]
    exact ⟨by decide, ⟨by decide, by decide⟩, by decide, ⟨by decide, by decide⟩, by decide, ⟨by decide, by decide⟩, ⟨by_lt (Nat.mod_lt _ (by decide)), by_lt (Nat.mod_lt _ (by decide)), by_lt (Nat.mod_lt _ (by decide)), by_lt (by omega)⟩, hp⟩
  rcases hk with rfl | rfl
  · have h1 : decide ((1 : Int) = 2) = false := rfl
    simp only [ms_216, wq1, wq3, wq22, wq24, tq1, pq1, pq6, pq7, pq8, pq18, pq19, locS, lget, lset, cEq, trB, h1, itemsS]
    refine ⟨fun q => (by cases q), fun _ => ?_⟩
    refine each_216 d 4294967295 none none (by decide) fun v3 v4 => ?_
    have hc := crcBits_lt d
    have e1 : (4294967295 : Int) - ((d.foldl (fun c b => crcByte c b.toNat) 4294967295 : Nat) : Int) = ((4294967295 - crcBits d : Nat) : Int) := by unfold crcBits at hc ⊢; omega
    simp only [r_216_1, wq1, wq3, pq1, pq6, pq7, locS, lget, lset, bSub, bDiv, bMod, bMul, bAdd, e1]
    have e2 : (((4294967295 - crcBits d : Nat) : Int) / 32768 + ((4294967295 - crcBits d : Nat) : Int) % 32768 * 131072 + 2726488792) % 4294967296 = ((ckN 1 d : Nat) : Int) := by
      unfold ckN maskN
      rw [if_neg (by decide)]
      omega
    rw [e2]
    exact ⟨⟨by decide, by decide⟩, by decide, ⟨by omega, by omega⟩, by decide, fin⟩
  · have h1 : decide ((2 : Int) = 2) = true := rfl
    simp only [ms_216, wq1, wq3, wq22, wq24, tq1, pq1, pq6, pq7, pq8, pq18, pq19, locS, lget, lset, cEq, trB, yB, sum_nat, lB, bMul, bAdd, bMod]
    have e2 : (((sumB d : Nat) : Int) * 251 + ((d.length : Nat) : Int) * 65537 + 7) % 4294967296 = ((ckN 2 d : Nat) : Int) := by
      unfold ckN
      rw [if_pos rfl]
      omega
    rw [e2]
    exact ⟨fun _ => ⟨⟨by omega, by omega⟩, ⟨by omega, by omega⟩, by decide, fin⟩, fun q => by cases q⟩
end Mine
end

section
open PySem PySem.W PyProof.Rows PySem.Calls PySem.Builtin
set_option Elab.async false
set_option autoImplicit false
set_option maxRecDepth 100000
namespace Mine
theorem vint {i j : Int} (h : i = j) : V.int i = V.int j := by rw [h]
section
variable {F D : FT} {M : MTab} {H : HM} {l : Loc} {Q : Out → Loc → HM → Prop} {o f m : Nat} {e : ME} {r : MS} {v u : V}
/-- what an expression comes to -/
noncomputable def Ev (F : FT) (H : HM) (l : Loc) (e : ME) (v : V) : Prop := ∀ Q, Q v → Pe F H l e Q
theorem ev_loc {i : Nat} (h : lget l i = some v) : Ev F H l (.loc i) v := fun Q q => by rw [pq6, lcS _ _ _ _ h]; exact q
theorem ev_int {i : Int} : Ev F H l (.int i) (.int i) := fun Q q => by rw [pq1]; exact q
theorem ev_bool {i : Bool} : Ev F H l (.bool i) (.bool i) := fun Q q => by rw [pq2]; exact q
theorem ev_str {i : Nat} : Ev F H l (.str i) (.str i) := fun Q q => by rw [pq5]; exact q
theorem ev_bys {b : List UInt8} : Ev F H l (.bys b) (.bytes b) := fun Q q => by rw [pq4]; exact q
theorem ev_bin {op : Op} {e2 : ME} {w x : V} (h1 : Ev F H l e v) (h2 : Ev F H l e2 u) (h3 : ∀ Q, Q x → binS op v u Q) : Ev F H l (.bin op e e2) x := fun Q q => by
  rw [pq7]; exact h1 _ (h2 _ (h3 _ q))
theorem ev_add {e2 : ME} {i j : Int} (h1 : Ev F H l e (.int i)) (h2 : Ev F H l e2 (.int j)) : Ev F H l (.bin .add e e2) (.int (i + j)) := fun Q q => by
  rw [pq7]; exact h1 _ (h2 _ q)
theorem ev_sub {e2 : ME} {i j : Int} (h1 : Ev F H l e (.int i)) (h2 : Ev F H l e2 (.int j)) : Ev F H l (.bin .sub e e2) (.int (i - j)) := fun Q q => by
  rw [pq7]; exact h1 _ (h2 _ q)
theorem ev_mul {e2 : ME} {i j : Int} (h1 : Ev F H l e (.int i)) (h2 : Ev F H l e2 (.int j)) (hs : Sm i) : Ev F H l (.bin .mul e e2) (.int (i * j)) := fun Q q => by
  rw [pq7]; exact h1 _ (h2 _ ⟨hs, q⟩)
theorem ev_cmp {op : Cp} {e2 : ME} {c : Bool} (h1 : Ev F H l e v) (h2 : Ev F H l e2 u) (h3 : ∀ Q, Q c → cmpS op v u Q) : Ev F H l (.cmp op e e2) (.bool c) := fun Q q => by
  rw [pq8]; exact h1 _ (h2 _ (h3 _ q))
theorem ev_lt {e2 : ME} {i j : Int} {c : Bool} (h1 : Ev F H l e (.int i)) (h2 : Ev F H l e2 (.int j)) (hc : decide (i < j) = c) : Ev F H l (.cmp .lt e e2) (.bool c) := fun Q q => by
  subst hc; rw [pq8]; exact h1 _ (h2 _ q)
theorem ev_gt {e2 : ME} {i j : Int} {c : Bool} (h1 : Ev F H l e (.int i)) (h2 : Ev F H l e2 (.int j)) (hc : decide (j < i) = c) : Ev F H l (.cmp .gt e e2) (.bool c) := fun Q q => by
  subst hc; rw [pq8]; exact h1 _ (h2 _ q)
theorem ev_eq {e2 : ME} {i j : Int} {c : Bool} (h1 : Ev F H l e (.int i)) (h2 : Ev F H l e2 (.int j)) (hc : decide (i = j) = c) : Ev F H l (.cmp .eq e e2) (.bool c) := fun Q q => by
  subst hc; rw [pq8]; exact h1 _ (h2 _ q)
theorem ev_ne {e2 : ME} {i j : Int} {c : Bool} (h1 : Ev F H l e (.int i)) (h2 : Ev F H l e2 (.int j)) (hc : decide (i ≠ j) = c) : Ev F H l (.cmp .ne e e2) (.bool c) := fun Q q => by
  subst hc; rw [pq8]; exact h1 _ (h2 _ q)
theorem ev_lenB {b : List UInt8} (h1 : Ev F H l e (.bytes b)) : Ev F H l (.len e) (.int (b.length : Int)) := fun Q q => by
  rw [pq18]; exact h1 _ q
theorem ev_lenL {b : List V} (h1 : Ev F H l e (.lst b)) : Ev F H l (.len e) (.int (b.length : Int)) := fun Q q => by
  rw [pq18]; exact h1 _ q
theorem ev_lenRL {b : Nat} {vs : List V} (h1 : Ev F H l e (.ref b)) (h : H b = some (.lst vs)) : Ev F H l (.len e) (.int (vs.length : Int)) := fun Q q => by
  rw [pq18]; refine h1 _ ?_
  show match H b with | some (.lst vs) => _ | some (.barr b) => _ | _ => False
  rw [h]; exact q
theorem ev_lenRB {b : Nat} {vs : List UInt8} (h1 : Ev F H l e (.ref b)) (h : H b = some (.barr vs)) : Ev F H l (.len e) (.int (vs.length : Int)) := fun Q q => by
  rw [pq18]; refine h1 _ ?_
  show match H b with | some (.lst vs) => _ | some (.barr b) => _ | _ => False
  rw [h]; exact q
theorem ev_idxB {e2 : ME} {b : List UInt8} {i : Nat} (h1 : Ev F H l e (.bytes b)) (h2 : Ev F H l e2 (.int (i : Int))) (hi : i < b.length) : Ev F H l (.idx e e2) (.int (bt b i : Int)) := fun Q q => by
  rw [pq14]; exact h1 _ (h2 _ ⟨⟨by omega, by omega⟩, by rw [Int.toNat_natCast]; exact q⟩)
theorem ev_idxL {e2 : ME} {b : List V} {i : Nat} (h1 : Ev F H l e (.lst b)) (h2 : Ev F H l e2 (.int (i : Int))) (hi : b[i]? = some v) : Ev F H l (.idx e e2) v := fun Q q => by
  have hlt := (List.getElem?_eq_some_iff.mp hi).1
  rw [pq14]; refine h1 _ (h2 _ ⟨⟨by omega, by omega⟩, ?_⟩)
  rw [Int.toNat_natCast, List.getD_eq_getElem?_getD, hi]; exact q
theorem ev_sl2 {e2 e3 : ME} {b : List UInt8} {i j : Nat} (h1 : Ev F H l e (.bytes b)) (h2 : Ev F H l e2 (.int (i : Int))) (h3 : Ev F H l e3 (.int (j : Int))) : Ev F H l (.sl2 e e2 e3) (.bytes ((b.drop i).take (j - i))) := fun Q q => by
  rw [pq17]; refine h1 _ (h2 _ (h3 _ ?_))
  show _ ∧ _
  refine ⟨⟨by omega, by omega⟩, ?_⟩
  rw [Int.toNat_natCast, Int.toNat_natCast]; exact q
theorem ev_sl1 {e2 : ME} {b : List UInt8} {i : Nat} (h1 : Ev F H l e (.bytes b)) (h2 : Ev F H l e2 (.int (i : Int))) : Ev F H l (.sl1 e e2) (.bytes (b.drop i)) := fun Q q => by
  rw [pq16]; refine h1 _ (h2 _ ?_)
  show _ ∧ _
  refine ⟨by omega, ?_⟩
  rw [Int.toNat_natCast]; exact q
theorem ev_min {e2 : ME} {i j : Int} (h1 : Ev F H l e (.int i)) (h2 : Ev F H l e2 (.int j)) (hv : v = .int (if j < i then j else i)) : Ev F H l (.min e e2) v := fun Q q => by
  subst hv
  rw [pq20]; exact h1 _ (h2 _ q)
theorem ev_tu2 {e2 : ME} (h1 : Ev F H l e v) (h2 : Ev F H l e2 u) : Ev F H l (.tu2 e e2) (.t2 v u) := fun Q q => by
  rw [pq29]; exact h1 _ (h2 _ q)
theorem Ev.cast (h : Ev F H l e v) (q : v = u) : Ev F H l e u := q ▸ h
theorem w_asg {i : Nat} (hv : Ev F H l e v) (h : W F D M r (lset l i v) H Q) : W F D M (.asg i e r) l H Q := by
  rw [wq3]; exact hv _ h
theorem w_ret (hv : Ev F H l e v) (h : Q (.ret v) l H) : W F D M (.ret e) l H Q := by
  rw [wq27]; exact hv _ h
theorem w_ite {t : MT} {x y : MS} {c : Bool} (hc : ∀ Q, Q c H → WT F D M l t H Q) (h1 : c = true → W F D M x l H fun o l' H' => match o with
        | .next => W F D M r l' H' Q
        | .ret v => Q (.ret v) l' H') (h2 : c = false → W F D M y l H fun o l' H' => match o with
        | .next => W F D M r l' H' Q
        | .ret v => Q (.ret v) l' H') : W F D M (.ite t x y r) l H Q := by
  rw [wq22]; exact hc _ ⟨h1, h2⟩
noncomputable def Tv (F D : FT) (M : MTab) (H : HM) (l : Loc) (t : MT) (c : Bool) : Prop := ∀ Q, Q c H → WT F D M l t H Q
theorem tv_p {c : Bool} (h : Ev F H l e (.bool c)) : Tv F D M H l (.p e) c := fun Q q => by rw [tq1]; exact h _ q
theorem tv_an {s t : MT} {c d : Bool} (h1 : Tv F D M H l s c) (h2 : c = true → Tv F D M H l t d) : Tv F D M H l (.an s t) (c && d) := fun Q q => by
  rw [tq3]
  refine h1 _ ⟨fun hc => h2 hc _ ?_, fun hc => ?_⟩
  · rw [hc] at q; exact q
  · rw [hc] at q; exact q
theorem tv_or {s t : MT} {c d : Bool} (h1 : Tv F D M H l s c) (h2 : c = false → Tv F D M H l t d) : Tv F D M H l (.or s t) (c || d) := fun Q q => by
  rw [tq4]
  refine h1 _ ⟨fun hc => ?_, fun hc => h2 hc _ ?_⟩
  · rw [hc] at q; exact q
  · rw [hc] at q; exact q
theorem tv_nt {s : MT} {c : Bool} (h1 : Tv F D M H l s c) : Tv F D M H l (.nt s) (!c) := fun Q q => by rw [tq2]; exact h1 _ q
theorem Tv.cast {t : MT} {c d : Bool} (h : Tv F D M H l t c) (q : c = d) : Tv F D M H l t d := q ▸ h
theorem w_ite0 {t : MT} {x y : MS} {c : Bool} (hc : Tv F D M H l t c) (h1 : c = true → W F D M x l H Q) (h2 : c = false → W F D M y l H Q) : W F D M (.ite t x y .nop) l H Q := by
  have e : (fun o l' H' => match o with
        | .next => W F D M .nop l' H' Q
        | .ret v => Q (.ret v) l' H') = Q := by
    funext o l' H'; cases o <;> rfl
  exact w_ite hc (fun q => (congrArg (W F D M x l H) e).mpr (h1 q)) fun q => (congrArg (W F D M y l H) e).mpr (h2 q)
theorem w_aug {i : Nat} {op : Op} {old w : V} (hl : lget l i = some old) (hv : Ev F H l e v) (ha : ∀ Q, Q w → augS op old v Q) (h : W F D M r (lset l i w) H Q) : W F D M (.aug i op e r) l H Q := by
  rw [wq21, lcS _ _ _ _ hl]
  exact hv _ (ha _ h)
theorem ev_addB {e2 : ME} {x y : List UInt8} (h1 : Ev F H l e (.bytes x)) (h2 : Ev F H l e2 (.bytes y)) (hn : x.length + y.length ≤ 1000000) : Ev F H l (.bin .add e e2) (.bytes (x ++ y)) := fun Q q => by
  rw [pq7]; exact h1 _ (h2 _ ⟨hn, q⟩)
theorem ev_mod {e2 : ME} {i j : Int} (h1 : Ev F H l e (.int i)) (h2 : Ev F H l e2 (.int j)) (hj : 0 < j) : Ev F H l (.bin .mod e e2) (.int (i % j)) := fun Q q => by
  rw [pq7]; exact h1 _ (h2 _ ⟨hj, q⟩)
theorem ev_div {e2 : ME} {i j : Int} (h1 : Ev F H l e (.int i)) (h2 : Ev F H l e2 (.int j)) (hj : 0 < j ∧ Sm j) : Ev F H l (.bin .fdiv e e2) (.int (i / j)) := fun Q q => by
  rw [pq7]; exact h1 _ (h2 _ ⟨hj, q⟩)
theorem ev_modN {x k : Nat} (h1 : Ev F H l e (.int (x : Int))) (hk : 0 < k) : Ev F H l (.bin .mod e (.int (k : Int))) (.int ((x % k : Nat) : Int)) := (ev_mod h1 ev_int (Int.natCast_pos.mpr hk)).cast (vint (Int.natCast_emod x k).symm)
theorem ev_divN {x k : Nat} (h1 : Ev F H l e (.int (x : Int))) (hk : 0 < k ∧ k < 9223372036854775808) : Ev F H l (.bin .fdiv e (.int (k : Int))) (.int ((x / k : Nat) : Int)) :=
  (ev_div h1 ev_int ⟨Int.natCast_pos.mpr hk.1, by have := hk.2; constructor <;> omega⟩).cast (vint (Int.natCast_ediv x k).symm)
theorem ev_addN {e2 : ME} {x y : Nat} (h1 : Ev F H l e (.int (x : Int))) (h2 : Ev F H l e2 (.int (y : Int))) : Ev F H l (.bin .add e e2) (.int ((x + y : Nat) : Int)) := ev_add h1 h2
theorem ev_mulN {e2 : ME} {x y : Nat} (h1 : Ev F H l e (.int (x : Int))) (h2 : Ev F H l e2 (.int (y : Int))) (hx : x < 9223372036854775808) : Ev F H l (.bin .mul e e2) (.int ((x * y : Nat) : Int)) :=
  (ev_mul h1 h2 ⟨by omega, by omega⟩).cast (vint (Int.natCast_mul x y).symm)
theorem ev_by1 {x : Nat} (h1 : Ev F H l e (.int (x : Int))) (hx : x < 256) : Ev F H l (.by1 e) (.bytes [x.toUInt8]) := fun Q q => by
  rw [pq23]; exact h1 _ ⟨by_lt hx, q⟩
theorem ev_by2 {e2 : ME} {x y : Nat} (h1 : Ev F H l e (.int (x : Int))) (h2 : Ev F H l e2 (.int (y : Int))) (hx : x < 256) (hy : y < 256) : Ev F H l (.by2 e e2) (.bytes [x.toUInt8, y.toUInt8]) := fun Q q => by
  rw [pq24]; exact h1 _ (h2 _ ⟨⟨by_lt hx, by_lt hy⟩, q⟩)
theorem ev_byr {e2 : ME} {x n : Nat} (h1 : Ev F H l e (.int (x : Int))) (h2 : Ev F H l e2 (.int (n : Int))) (hx : x < 256) (hn : n ≤ 1000) : Ev F H l (.byr e e2) (.bytes (List.replicate n x.toUInt8)) := fun Q q => by
  rw [pq26]; exact h1 _ (h2 _ ⟨⟨by_lt hx, by omega, by omega⟩, q⟩)
end
end Mine
end

section
open PySem PySem.W PyProof.Rows PySem.Calls PySem.Builtin
set_option Elab.async false
set_option autoImplicit false
set_option maxRecDepth 100000
namespace Mine

section
variable {nums : V} {B ck : Int} {v5 v6 v7 v10 : Option V} {y size kind : Nat} {way : Int} {bg : Bool} {O dt bd f : List UInt8} {v13 : Option V} {Q : Out → Loc → HM → Prop}

/-- what a turn of the laying leaves -/
noncomputable abbrev LayQ (nums : V) (B ck : Int) (v5 v6 : Option V) (n : Nat) (Q : Out → Loc → HM → Prop) : Prop :=
  ∀ (O : List UInt8) (bg : Bool) (v7 v8 v9 v10 v11 v12 v13 v14 v15 : Option V), O.length ≤ n → Q .next [some nums, some (.int B), some (.int ck), some (.bytes O), some (.bool bg), v5, v6, v7, v8, v9, v10, v11, v12, v13, v14, v15] noH

theorem lay1 {n : Nat} {v12 : Option V} (hO : O.length + 30 ≤ n) (hn : n ≤ 10000) (hf : f.length = 4) (hb : bd.length ≤ 20) (hs : size < 65536) (hQ : LayQ nums B ck v5 v6 n Q) :
    W F12 noF noM r_221_1 [some nums, some (.int B), some (.int ck), some (.bytes O), some (.bool bg), v5, v6, v7, some (.int way), some (.int (y : Int)), v10, some (.int (size : Int)), v12, v13, some (.bytes bd), some (.bytes f)] noH Q := by
  have l3 : y % 11 ≤ 10 := Nat.le_of_lt_succ (Nat.mod_lt _ (by decide))
  have hm : y % 256 * (y / 256 % 2) < 256 := Nat.lt_of_le_of_lt (Nat.mul_le_mul_left _ (Nat.le_of_lt_succ (Nat.mod_lt _ (by decide)))) (by rw [Nat.mul_one]; exact Nat.mod_lt _ (by decide))
  unfold r_221_1
  refine w_ite0 (tv_p (ev_eq (ev_loc rfl) ev_int rfl)) (fun _ => ?_) (fun _ => ?_)
  · refine w_asg (ev_addB (ev_loc rfl) (ev_byr (ev_mulN (ev_modN (k := 256) (ev_loc rfl) (by decide)) (ev_modN (k := 2) (ev_divN (k := 256) (ev_loc rfl) (by decide)) (by decide)) (Nat.lt_trans (Nat.mod_lt _ (by decide)) (by decide))) (ev_modN (k := 11) (ev_loc rfl) (by decide)) hm (Nat.le_trans l3 (by decide))) ?_) ?_
    · rw [List.length_replicate]; omega
    · rw [wq1]
      refine hQ _ _ _ _ _ _ _ _ _ _ _ ?_
      rw [List.length_append, List.length_replicate]; omega
  · have hfb : (O ++ f ++ [(size % 256).toUInt8, (size / 256).toUInt8] ++ bd).length = O.length + 6 + bd.length := by simp only [List.length_append, List.length_cons, List.length_nil, hf]
    refine w_asg (ev_addB (ev_addB (ev_addB (ev_loc rfl) (ev_loc rfl) (by omega)) (ev_by2 (ev_modN (k := 256) (ev_loc rfl) (by decide)) (ev_divN (k := 256) (ev_loc rfl) (by decide)) (Nat.mod_lt _ (by decide)) (by omega)) (by rw [List.length_append, hf]; show _ + 2 ≤ _; omega)) (ev_loc rfl) (by simp only [List.length_append, List.length_cons, List.length_nil, hf]; omega)) ?_
    rw [wq1]
    exact hQ _ _ _ _ _ _ _ _ _ _ _ (by rw [hfb]; omega)

theorem lay2 {n : Nat} {v12 : Option V} (hO : O.length + 30 ≤ n) (hn : n ≤ 10000) (hf : f.length = 4) (hb : bd.length ≤ 20) (hs : size < 1000) (hQ : LayQ nums B ck v5 v6 n Q) :
    W F12 noF noM r_221_2 [some nums, some (.int B), some (.int ck), some (.bytes O), some (.bool bg), v5, v6, v7, some (.int way), some (.int (y : Int)), v10, some (.int (size : Int)), v12, v13, some (.bytes bd), some (.bytes f)] noH Q := by
  unfold r_221_2
  refine w_ite (tv_p (ev_eq (ev_loc rfl) ev_int rfl)) (fun _ => ?_) (fun _ => ?_)
  · refine w_asg (ev_addN (ev_addN (y := 1) (ev_loc rfl) ev_int) (ev_modN (k := 300) (ev_divN (k := 9) (ev_loc rfl) (by decide)) (by decide))) ?_
    rw [wq1]
    exact lay1 hO hn hf hb (by have : y / 9 % 300 < 300 := Nat.mod_lt _ (by decide); omega) hQ
  · rw [wq1]
    exact lay1 hO hn hf hb (Nat.lt_trans hs (by decide)) hQ

theorem lay3 {n : Nat} {v12 : Option V} (hO : O.length + 30 ≤ n) (hn : n ≤ 10000) (hf : f.length = 4) (hb : bd.length ≤ 20) (hs : size < 1000) (hQ : LayQ nums B ck v5 v6 n Q) :
    W F12 noF noM r_221_3 [some nums, some (.int B), some (.int ck), some (.bytes O), some (.bool bg), v5, v6, v7, some (.int way), some (.int (y : Int)), v10, some (.int (size : Int)), v12, v13, some (.bytes bd), some (.bytes f)] noH Q := by
  unfold r_221_3
  refine w_ite (tv_p (ev_eq (ev_loc rfl) ev_int rfl)) (fun _ => ?_) (fun _ => ?_)
  · have e0 : Ev F12 noH [some nums, some (.int B), some (.int ck), some (.bytes O), some (.bool bg), v5, v6, v7, some (.int way), some (.int (y : Int)), v10, some (.int (size : Int)), v12, v13, some (.bytes bd), some (.bytes f)] (.sl0 (.loc 15) (.int 3)) (.bytes (f.take 3)) := fun Q q => by
      rw [pq15, pq6, lcS _ _ _ _ rfl, pq1, yB, nI]; exact ⟨by decide, q⟩
    have hx := bt_lt f 3
    refine w_asg (ev_addB e0 (ev_by1 (ev_modN (k := 256) (ev_addN (ev_addN (y := 1) (ev_idxB (i := 3) (ev_loc rfl) ev_int (by rw [hf]; decide)) ev_int) (ev_modN (k := 255) (ev_loc rfl) (by decide))) (by decide)) (Nat.mod_lt _ (by decide))) ?_) ?_
    · rw [List.length_take, hf]; show 3 + 1 ≤ 1000000; decide
    · rw [wq1]
      exact lay2 hO hn (by rw [List.length_append, List.length_take, hf]; rfl) hb hs hQ
  · rw [wq1]
    exact lay2 hO hn hf hb hs hQ
end
end Mine
end

section
open PySem PySem.W PyProof.Rows PySem.Calls PySem.Builtin
set_option Elab.async false
set_option autoImplicit false
set_option maxRecDepth 100000
namespace Mine
section
variable {nums : V} {B ck : Int} {v5 v6 v7 v10 : Option V} {y size kd : Nat} {way : Int} {bg : Bool} {O : List UInt8} {v13 v14 v15 : Option V} {Q : Out → Loc → HM → Prop}

theorem lay4 {n : Nat} (hk : ck = 1 ∨ ck = 2) (hO : O.length + 30 ≤ n) (hn : n ≤ 10000) (hs : size ≤ 8) (hkd : kd < 256) (hQ : LayQ nums B ck v5 v6 n Q) :
    W F12 noF noM r_221_4 [some nums, some (.int B), some (.int ck), some (.bytes O), some (.bool bg), v5, v6, v7, some (.int way), some (.int (y : Int)), v10, some (.int (size : Int)), some (.int (kd : Int)), v13, v14, v15] noH Q := by
  have e0 : ∃ bg', Ev F12 noH [some nums, some (.int B), some (.int ck), some (.bytes O), some (.bool bg), v5, v6, v7, some (.int way), some (.int (y : Int)), v10, some (.int (size : Int)), some (.int (kd : Int)), v13, v14, v15] (.or (.cmp .eq (.loc 12) (.int 2)) (.and (.cmp .eq (.loc 12) (.int 3)) (.loc 4))) (.bool bg') := by
    by_cases h2 : (kd : Int) = 2
    · exact ⟨true, fun Q q => by rw [pq12]; exact ev_eq (ev_loc rfl) ev_int (decide_eq_true h2) _ ⟨fun _ => q, fun q => (by cases q)⟩⟩
    by_cases h3 : (kd : Int) = 3
    · exact ⟨bg, fun Q q => by
        rw [pq12]; refine ev_eq (ev_loc rfl) ev_int (decide_eq_false h2) _ ⟨fun q => (by cases q), fun _ => ?_⟩
        rw [pq11]; refine ev_eq (ev_loc rfl) ev_int (decide_eq_true h3) _ ⟨fun _ => ev_loc rfl _ q, fun q => (by cases q)⟩⟩
    · exact ⟨false, fun Q q => by
        rw [pq12]; refine ev_eq (ev_loc rfl) ev_int (decide_eq_false h2) _ ⟨fun q => (by cases q), fun _ => ?_⟩
        rw [pq11]; refine ev_eq (ev_loc rfl) ev_int (decide_eq_false h3) _ ⟨fun q => (by cases q), fun _ => q⟩⟩
  obtain ⟨bg', e0⟩ := e0
  unfold r_221_4
  refine w_asg e0 ?_
  have hlen : (((List.range (size : Int).toNat).map fun (j : Nat) => toB (((y : Int) + 3 * (j : Int)) % 256))).length = size := by simp
  refine w_asg (v := .bytes ((List.range (size : Int).toNat).map fun (j : Nat) => toB (((y : Int) + 3 * (j : Int)) % 256))) (fun Q q => by
    rw [pq27, lcS _ _ _ _ rfl, nI]
    refine ev_loc rfl _ ?_
    exact ⟨⟨by omega, by omega⟩, q⟩) ?_
  generalize ((List.range (size : Int).toNat).map fun (j : Nat) => toB (((y : Int) + 3 * (j : Int)) % 256)) = dt at hlen
  have hl1 : (kd.toUInt8 :: dt).length = size + 1 := by rw [List.length_cons, hlen]
  refine w_asg (v := .bytes (kd.toUInt8 :: dt)) (ev_addB (ev_by1 (ev_loc rfl) hkd) (ev_loc rfl) (by rw [hlen]; show 1 + size ≤ _; omega)) ?_
  refine w_asg (v := .bytes (le4 (ckN ck (kd.toUInt8 :: dt)))) (fun Q q => by
    rw [pq35, pq6, lcS _ _ _ _ rfl, pq6, lcS _ _ _ _ rfl]
    exact four_W hk (by rw [hl1]; omega) q) ?_
  have fin : W F12 noF noM r_221_3 [some nums, some (.int B), some (.int ck), some (.bytes O), some (.bool bg'), v5, v6, v7, some (.int way), some (.int (y : Int)), v10, some (.int (size : Int)), some (.int (kd : Int)), some (.bytes dt), some (.bytes (kd.toUInt8 :: dt)), some (.bytes (le4 (ckN ck (kd.toUInt8 :: dt))))] noH Q :=
    lay3 hO hn rfl (by rw [hl1]; omega) (by omega) hQ
  refine w_ite (c := false) ((tv_an (d := false) (tv_p (ev_lt (ev_loc rfl) ev_int rfl)) fun _ => tv_p fun Q q => ?_).cast (Bool.and_false _)) (fun q => by cases q) fun _ => ?_
  · rw [pq8, pq36, pq6, lcS _ _ _ _ rfl, pq6, lcS _ _ _ _ rfl, pq6, lcS _ _ _ _ rfl]
    refine .inl (.inl (.inl (.inl (.inl (frag_W rfl hkd hk (by omega) ?_)))))
    refine ev_addB (ev_addB (ev_loc rfl) (ev_by2 (y := 0) (ev_loc rfl) ev_int (by omega) (by decide)) ?_) (ev_loc rfl) ?_ _ ?_
    · show 4 + 2 ≤ 1000000; decide
    · rw [hl1]; show 4 + 2 + (size + 1) ≤ _; omega
    · rw [hlen, Nat.div_eq_of_lt (show size < 256 by omega)]
      show Q (.bool (decide ((_ : List UInt8) ≠ _)))
      rw [decide_eq_false (fun h => h rfl)]
      exact q
  · rw [wq1]
    exact fin
end
end Mine
end

section
open PySem PySem.W PyProof.Rows PySem.Calls PySem.Builtin
set_option Elab.async false
set_option autoImplicit false
set_option maxRecDepth 100000
namespace Mine
section
variable {nums : V} {B ck : Int} {v5 v6 v7 v10 : Option V} {y size kd : Nat} {way : Int} {bg : Bool} {O : List UInt8} {v13 v14 v15 : Option V} {Q : Out → Loc → HM → Prop}
theorem lay5 {n : Nat} {v12 : Option V} {wy : Nat} (hw : way = (wy : Int)) (hwy : wy < 12) (hk : ck = 1 ∨ ck = 2) (hO : O.length + 30 ≤ n) (hn : n ≤ 10000) (hs : size ≤ 8) (hQ : LayQ nums B ck v5 v6 n Q) :
    W F12 noF noM r_221_5 [some nums, some (.int B), some (.int ck), some (.bytes O), some (.bool bg), v5, v6, v7, some (.int way), some (.int (y : Int)), v10, some (.int (size : Int)), v12, v13, v14, v15] noH Q := by
  subst hw
  have fin : ∀ {kd : Nat}, kd < 256 → W F12 noF noM r_221_4 [some nums, some (.int B), some (.int ck), some (.bytes O), some (.bool bg), v5, v6, v7, some (.int (wy : Int)), some (.int (y : Int)), v10, some (.int (size : Int)), some (.int (kd : Int)), v13, v14, v15] noH Q := fun h => lay4 hk hO hn hs h hQ
  unfold r_221_5
  refine w_asg (ev_loc rfl) ?_
  have ei : ∀ {a b : Nat}, Ev F12 noH [some nums, some (.int B), some (.int ck), some (.bytes O), some (.bool bg), v5, v6, v7, some (.int (wy : Int)), some (.int (y : Int)), v10, some (.int (size : Int)), some (.int (wy : Int)), v13, v14, v15] (.ite (.loc 4) (.int (a : Int)) (.int (b : Int))) (.int ((if bg then a else b : Nat) : Int)) := fun {a b} Q q => by
    rw [pq13]
    refine ev_loc rfl _ ?_
    show (_ → _) ∧ (_ → _)
    cases bg <;> exact ⟨fun h => by cases h <;> (rw [pq1]; exact q), fun h => by cases h <;> (rw [pq1]; exact q)⟩
  refine w_ite (tv_p (ev_eq (ev_loc rfl) ev_int rfl)) (fun _ => w_asg (ei (a := 4) (b := 1)) (by rw [wq1]; exact fin (by split <;> decide))) fun _ => ?_
  refine w_ite0 (tv_p (ev_eq (ev_loc rfl) ev_int rfl)) (fun _ => w_asg (ei (a := 3) (b := 2)) (by rw [wq1]; exact fin (by split <;> decide))) fun _ => ?_
  refine w_ite0 (tv_p (ev_eq (ev_loc rfl) ev_int rfl)) (fun _ => w_asg ev_int (by rw [wq1]; exact fin (kd := 0) (by decide))) fun _ => ?_
  refine w_ite0 (tv_p (ev_eq (ev_loc rfl) ev_int rfl)) (fun _ => w_asg (ev_addN (x := 5) ev_int (ev_modN (k := 251) (ev_divN (k := 9) (ev_loc rfl) (by decide)) (by decide))) (by rw [wq1]; exact fin (Nat.add_lt_add_left (Nat.mod_lt _ (by decide)) 5))) fun _ => ?_
  refine w_ite0 (tv_p (ev_gt (ev_loc rfl) ev_int rfl)) (fun _ => w_asg (ev_addN (x := 1) ev_int (ev_modN (k := 4) (ev_divN (k := 9) (ev_loc rfl) (by decide)) (by decide))) (by rw [wq1]; exact fin (Nat.lt_trans (Nat.add_lt_add_left (Nat.mod_lt _ (by decide)) 1) (by decide)))) fun _ => ?_
  rw [wq1]
  exact fin (Nat.lt_trans hwy (by decide))

theorem min_e {wy room size : Nat} (hr : wy < 10 → 7 ≤ room) (q : (wy : Int) < 10) : (if (room : Int) - 7 < (size : Int) then (room : Int) - 7 else (size : Int)) = ((min size (room - 7) : Nat) : Int) := by
  have h7 := hr (by omega)
  split <;> omega
theorem lay6g {a0 a1 a2 a3 a4 a5 a6 a7 a9 a12 a13 a14 a15 : Option V} {wi r s : Int} (h1 : wi < 10 → W F12 noF noM r_221_5 [a0, a1, a2, a3, a4, a5, a6, a7, some (.int wi), a9, some (.int r), some (.int (if r - 7 < s then r - 7 else s)), a12, a13, a14, a15] noH Q)
    (h2 : ¬ wi < 10 → W F12 noF noM r_221_5 [a0, a1, a2, a3, a4, a5, a6, a7, some (.int wi), a9, some (.int r), some (.int s), a12, a13, a14, a15] noH Q) :
    W F12 noF noM r_221_6 [a0, a1, a2, a3, a4, a5, a6, a7, some (.int wi), a9, some (.int r), some (.int s), a12, a13, a14, a15] noH Q := by
  unfold r_221_6
  generalize r_221_5 = R at *
  rw [wq22, tq1, pq8, pq6, lcS _ _ _ _ rfl, pq1, cLt, trB]
  refine ⟨fun q => ?_, fun q => ?_⟩
  · rw [wq3, pq20, pq6, lcS _ _ _ _ rfl, pq7, pq6, lcS _ _ _ _ rfl, pq1, bSub, nI, nI]
    exact h1 (of_decide_eq_true q)
  · exact h2 (of_decide_eq_false q)
theorem lay6 {n : Nat} {v12 : Option V} {wy room : Nat} (hwy : wy < 12) (hk : ck = 1 ∨ ck = 2) (hO : O.length + 30 ≤ n) (hn : n ≤ 10000) (hs : size ≤ 8) (hr : wy < 10 → 7 ≤ room) (hQ : LayQ nums B ck v5 v6 n Q) :
    W F12 noF noM r_221_6 [some nums, some (.int B), some (.int ck), some (.bytes O), some (.bool bg), v5, v6, v7, some (.int (wy : Int)), some (.int (y : Int)), some (.int (room : Int)), some (.int (size : Int)), v12, v13, v14, v15] noH Q := by
  refine lay6g (fun q => ?_) fun _ => lay5 rfl hwy hk hO hn hs hQ
  rw [min_e hr q]
  exact lay5 rfl hwy hk hO hn (by omega) hQ
end
end Mine
end

section
open PySem PySem.W PyProof.Rows PySem.Calls PySem.Builtin
set_option Elab.async false
set_option autoImplicit false
set_option maxRecDepth 100000
namespace Mine
section
variable {nums : V} {B ck : Int} {v5 v6 v7 v10 : Option V} {y size kd : Nat} {way : Int} {bg : Bool} {O : List UInt8} {v13 v14 v15 : Option V} {Q : Out → Loc → HM → Prop}
theorem lay7 {n : Nat} {v11 v12 : Option V} {wy room : Nat} (hwy : wy < 12) (hk : ck = 1 ∨ ck = 2) (hO : O.length + 30 ≤ n) (hn : n ≤ 10000) (hr : wy < 10 → 7 ≤ room) (hQ : LayQ nums B ck v5 v6 n Q) :
    W F12 noF noM r_221_7 [some nums, some (.int B), some (.int ck), some (.bytes O), some (.bool bg), v5, v6, v7, some (.int (wy : Int)), some (.int (y : Int)), some (.int (room : Int)), v11, v12, v13, v14, v15] noH Q := by
  have l9 : y % 9 < 9 := Nat.mod_lt _ (by decide)
  have l4 : y % 4 < 4 := Nat.mod_lt _ (by decide)
  unfold r_221_7
  refine w_asg (ev_modN (k := 9) (ev_loc rfl) (by decide)) ?_
  refine w_ite (tv_p (ev_eq (ev_loc rfl) ev_int rfl)) (fun _ => w_asg (ev_modN (k := 4) (ev_loc rfl) (by decide)) ?_) fun _ => ?_
  · rw [wq1]; exact lay6 hwy hk hO hn (Nat.le_of_lt (Nat.lt_trans l4 (by decide))) hr hQ
  · rw [wq1]; exact lay6 hwy hk hO hn (Nat.le_of_lt_succ l9) hr hQ
end
end Mine
end

section
open PySem PySem.W PyProof.Rows PySem.Calls PySem.Builtin
set_option Elab.async false
set_option autoImplicit false
set_option maxRecDepth 100000
namespace Mine
section
variable {nums : V} {B ck : Int} {v5 v6 v7 v10 : Option V} {y size kd : Nat} {way : Int} {bg : Bool} {O : List UInt8} {v13 v14 v15 : Option V} {Q : Out → Loc → HM → Prop}

noncomputable def ite_221 : MS := .ite (.an (.p (.cmp .lt (.loc 8) (.int 10))) (.p (.cmp .lt (.loc 10) (.int 7)))) (.asg 3 (.bin .add (.loc 3) (.byr (.bin .mod (.loc 9) (.int 256)) (.loc 10))) (.asg 10 (.loc 1) .nop)) .nop r_221_7

theorem lay8g {O : List UInt8} {bk wy y room : Nat} {a0 a2 a4 a5 a6 a7 a11 a12 a13 a14 a15 : Option V} (hr : room ≤ 1000) (hO : O.length ≤ 100000)
    (h1 : wy < 10 → room < 7 → W F12 noF noM r_221_7 [a0, some (.int (bk : Int)), a2, some (.bytes (O ++ List.replicate room (toB ((y % 256 : Nat) : Int)))), a4, a5, a6, a7, some (.int (wy : Int)), some (.int (y : Int)), some (.int (bk : Int)), a11, a12, a13, a14, a15] noH Q)
    (h2 : ¬ (wy < 10 ∧ room < 7) → W F12 noF noM r_221_7 [a0, some (.int (bk : Int)), a2, some (.bytes O), a4, a5, a6, a7, some (.int (wy : Int)), some (.int (y : Int)), some (.int (room : Int)), a11, a12, a13, a14, a15] noH Q) :
    W F12 noF noM ite_221 [a0, some (.int (bk : Int)), a2, some (.bytes O), a4, a5, a6, a7, some (.int (wy : Int)), some (.int (y : Int)), some (.int (room : Int)), a11, a12, a13, a14, a15] noH Q := by
  unfold ite_221
  generalize r_221_7 = R at *
  have e256 : (y : Int) % 256 = ((y % 256 : Nat) : Int) := by simp
  rw [wq22, tq3, tq1, pq8, pq6, lcS _ _ _ _ rfl, pq1, cLt, trB]
  refine ⟨fun q => ?_, fun q => ?_⟩
  · rw [tq1, pq8, pq6, lcS _ _ _ _ rfl, pq1, cLt, trB]
    refine ⟨fun q2 => ?_, fun q2 => ?_⟩
    · rw [wq3, pq7, pq6, lcS _ _ _ _ rfl, pq26, pq7, pq6, lcS _ _ _ _ rfl, pq1, bMod]
      refine ⟨by decide, ?_⟩
      rw [pq6, lcS _ _ _ _ rfl, nI, nI, e256, bAddB]
      refine ⟨⟨by_lt (Nat.mod_lt _ (by decide)), by omega, by omega⟩, by simp; omega, ?_⟩
      rw [wq3, pq6, lcS _ _ _ _ rfl]
      exact h1 (by have := of_decide_eq_true q; omega) (by have := of_decide_eq_true q2; omega)
    · exact h2 (by have := of_decide_eq_false q2; omega)
  · refine ⟨fun q => by (cases q), fun _ => ?_⟩
    exact h2 (by have := of_decide_eq_false q; omega)

/-- one turn of the laying -/
theorem lay_turn {ns : List Int} {B ck : Int} {bk i m : Nat} {v5 v7 v8 v9 v10 v11 v12 v13 v14 v15 : Option V} {bg : Bool} {O : List UInt8} {Q : Out → Loc → HM → Prop} (hB : B = (bk : Int)) (hb1 : 8 ≤ bk) (hb2 : bk ≤ 23) (hk : ck = 1 ∨ ck = 2) (hn : 0 < ns.length) (hl : ns.length ≤ 100) (hd : 0 ≤ drawI ns (2 + i))
    (hO : O.length + 40 ≤ m) (hm : m ≤ 10000) (hQ : LayQ (.lst (ns.map .int)) B ck v5 (some (.int (i : Int))) m Q) :
    W F12 noF noM b_221_1 [some (.lst (ns.map .int)), some (.int B), some (.int ck), some (.bytes O), some (.bool bg), v5, some (.int (i : Int)), v7, v8, v9, v10, v11, v12, v13, v14, v15] noH Q := by
  subst hB
  obtain ⟨x, hx⟩ := Int.eq_ofNat_of_zero_le hd
  have e2 : (2 : Int) + (i : Int) = ((2 + i : Nat) : Int) := by simp
  have ew : (x : Int) % 12 = ((x % 12 : Nat) : Int) := by simp
  have ey : (x : Int) / 12 = ((x / 12 : Nat) : Int) := by simp
  have lw : x % 12 < 12 := Nat.mod_lt _ (by decide)
  have lm : O.length % bk < bk := Nat.mod_lt _ (by omega)
  have er : (bk : Int) - ((O.length : Nat) : Int) % (bk : Int) = ((bk - O.length % bk : Nat) : Int) := by
    have : ((O.length : Nat) : Int) % (bk : Int) = ((O.length % bk : Nat) : Int) := by simp
    rw [this]; omega
  unfold b_221_1
  change W F12 noF noM (.asg 7 (.ca2 209 (.loc 0) (.bin .add (.int 2) (.loc 6))) (.asg 8 (.bin .mod (.loc 7) (.int 12)) (.asg 9 (.bin .fdiv (.loc 7) (.int 12)) (.asg 10 (.bin .sub (.loc 1) (.bin .mod (.len (.loc 3)) (.loc 1))) ite_221)))) _ _ _
  have hite : ∀ R, R = ite_221 → W F12 noF noM (.asg 7 (.ca2 209 (.loc 0) (.bin .add (.int 2) (.loc 6))) (.asg 8 (.bin .mod (.loc 7) (.int 12)) (.asg 9 (.bin .fdiv (.loc 7) (.int 12)) (.asg 10 (.bin .sub (.loc 1) (.bin .mod (.len (.loc 3)) (.loc 1))) R)))) [some (.lst (ns.map .int)), some (.int (bk : Int)), some (.int ck), some (.bytes O), some (.bool bg), v5, some (.int (i : Int)), v7, v8, v9, v10, v11, v12, v13, v14, v15] noH Q := by
    intro R hR
    rw [wq3, pq35, pq6, lcS _ _ _ _ rfl, pq7, pq1, pq6, lcS _ _ _ _ rfl, bAdd, e2]
    refine .inl (draw_W hn hl ?_)
    rw [hx, wq3, pq7, pq6, lcS _ _ _ _ rfl, pq1]
    show binS .mod (.int (x : Int)) (.int 12) _
    rw [bMod, ew]
    refine ⟨by decide, ?_⟩
    rw [wq3, pq7, pq6, lcS _ _ _ _ rfl, pq1]
    show binS .fdiv (.int (x : Int)) (.int 12) _
    rw [bDiv, ey]
    refine ⟨⟨by decide, by decide⟩, ?_⟩
    rw [wq3, pq7, pq6, lcS _ _ _ _ rfl, pq7, pq18, pq6, lcS _ _ _ _ rfl, lB, pq6, lcS _ _ _ _ rfl, bMod]
    refine ⟨by omega, ?_⟩
    rw [bSub, er, hR]
    have hroom : bk - O.length % bk ≤ 1000 := by omega
    refine lay8g hroom (by omega) (fun q1 q2 => ?_) fun q => ?_
    · exact lay7 lw hk (by simp; omega) hm (fun _ => by omega) hQ
    · exact lay7 lw hk (by omega) hm (fun h => by omega) hQ
  exact hite _ rfl

theorem lay_loop {ns : List Int} {B ck : Int} {bk : Nat} {v5 : Option V} {fin : Loc → HM → Prop} {Q : Out → Loc → HM → Prop} (hB : B = (bk : Int)) (hb1 : 8 ≤ bk) (hb2 : bk ≤ 23) (hk : ck = 1 ∨ ck = 2) (hn : 0 < ns.length) (hl : ns.length ≤ 100) (hd : ∀ i, 0 ≤ drawI ns i) :
    ∀ (is : List Nat) (O : List UInt8) (m : Nat) (bg : Bool) (v6 v7 v8 v9 v10 v11 v12 v13 v14 v15 : Option V), O.length ≤ m → m + 40 * is.length ≤ 5000 →
    (∀ (O : List UInt8) (bg : Bool) (v6 v7 v8 v9 v10 v11 v12 v13 v14 v15 : Option V), O.length ≤ m + 40 * is.length → fin [some (.lst (ns.map .int)), some (.int B), some (.int ck), some (.bytes O), some (.bool bg), v5, v6, v7, v8, v9, v10, v11, v12, v13, v14, v15] noH) →
    eachW 6 (W F12 noF noM b_221_1) fin Q (is.map fun (j : Nat) => .int (j : Int)) [some (.lst (ns.map .int)), some (.int B), some (.int ck), some (.bytes O), some (.bool bg), v5, v6, v7, v8, v9, v10, v11, v12, v13, v14, v15] noH
  | [], O, m, bg, v6, v7, v8, v9, v10, v11, v12, v13, v14, v15, hO, hm, h => h O bg v6 v7 v8 v9 v10 v11 v12 v13 v14 v15 (by omega)
  | i :: is, O, m, bg, v6, v7, v8, v9, v10, v11, v12, v13, v14, v15, hO, hm, h => by
    rw [List.length_cons] at hm
    rw [List.map_cons, eachW]
    refine lay_turn (m := m + 40) (i := i) hB hb1 hb2 hk hn hl (hd _) (by omega) (by omega) fun O' bg' u7 u8 u9 u10 u11 u12 u13 u14 u15 hO' => ?_
    refine lay_loop hB hb1 hb2 hk hn hl hd is O' (m + 40) bg' _ _ _ _ _ _ _ _ _ _ hO' (by omega) fun O'' bg'' w6 w7 w8 w9 w10 w11 w12 w13 w14 w15 hO'' => ?_
    exact h O'' bg'' w6 w7 w8 w9 w10 w11 w12 w13 w14 w15 (by rw [List.length_cons]; omega)

theorem lay_W {ns : List Int} {B ck : Int} {bk : Nat} {P : V → Prop} (hB : B = (bk : Int)) (hb1 : 8 ≤ bk) (hb2 : bk ≤ 23) (hk : ck = 1 ∨ ck = 2) (hn : 0 < ns.length) (hl : ns.length ≤ 100) (hd : ∀ i, 0 ≤ drawI ns i)
    (hp : ∀ D : List UInt8, D.length ≤ 1000 → P (.bytes D)) : F13 221 [.lst (ns.map .int), .int B, .int ck] P := by
  refine .inr ⟨rfl, rfl, ?_⟩
  rw [show argL nm_221 ([.lst (ns.map .int), .int B, .int ck] ++ _) = [some (.lst (ns.map .int)), some (.int B), some (.int ck), none, none, none, none, none, none, none, none, none, none, none, none, none] from rfl]
  have loop : ∀ c : Nat, c ≤ 6 → W F12 noF noM r_221_9 [some (.lst (ns.map .int)), some (.int B), some (.int ck), some (.bytes []), some (.bool false), some (.int (c : Int)), none, none, none, none, none, none, none, none, none, none] noH (OutV P) := fun c hc => by
    unfold r_221_9
    rw [wq25, pq6, lcS _ _ _ _ rfl, nI, Int.toNat_natCast]
    refine ⟨⟨by omega, by omega⟩, lay_loop (m := 0) hB hb1 hb2 hk hn hl hd (List.range c) [] false _ _ _ _ _ _ _ _ _ _ (Nat.le_refl _) (by rw [List.length_range]; omega) fun O bg v6 v7 v8 v9 v10 v11 v12 v13 v14 v15 hO => ?_⟩
    rw [List.length_range] at hO
    unfold r_221_8
    rw [wq27, pq6, lcS _ _ _ _ rfl]
    exact hp O (by omega)
  unfold ms_221
  rw [wq3, pq4, wq3, pq2, wq3, pq1, wq22, tq1, pq8, pq6, lcS _ _ _ _ rfl, pq1, cEq, trB]
  refine ⟨fun _ => ?_, fun _ => loop 3 (by decide)⟩
  obtain ⟨x, hx⟩ := Int.eq_ofNat_of_zero_le (hd 0)
  rw [wq3, pq7, pq1, pq7, pq7, pq35, pq6, lcS _ _ _ _ rfl, pq1]
  refine .inl (draw_W (i := 0) hn hl ?_)
  rw [hx, pq1]
  show binS .fdiv (.int (x : Int)) (.int 48) _
  have e1 : (x : Int) / 48 = ((x / 48 : Nat) : Int) := by simp
  have e2 : (((x / 48 : Nat) : Int)) % 4 = ((x / 48 % 4 : Nat) : Int) := by simp
  have e3 : (3 : Int) + ((x / 48 % 4 : Nat) : Int) = ((3 + x / 48 % 4 : Nat) : Int) := by simp
  rw [bDiv, e1]
  refine ⟨⟨by decide, by decide⟩, ?_⟩
  rw [pq1, bMod, e2]
  refine ⟨by decide, ?_⟩
  rw [bAdd, e3]
  exact loop _ (by omega)
end
end Mine
end

section
open PySem PySem.W PyProof.Rows PySem.Calls PySem.Builtin
set_option Elab.async false
set_option autoImplicit false
set_option maxRecDepth 100000
namespace Mine

/-- a piece: its kind (-1: broken), its octets, where it ends, how many octets are given up -/
structure Pc where
  k : Int
  o : List UInt8
  e : Nat
  m : Nat
noncomputable def pcV (p : Pc) : V := .t4 (.int p.k) (.bytes p.o) (.int (p.e : Int)) (.int (p.m : Int))

inductive Nx where
  | stop (t : Bool)
  | pc (p : Pc) (a : Nat)

noncomputable def nup (d : List UInt8) (at' : Nat) : Nat := at' + 7 + bt d (at' + 4) + 256 * bt d (at' + 5)
noncomputable def nbad (d : List UInt8) (ck : Int) (a : Nat) : Bool := decide ((d.drop a).take 4 ≠ le4 (ckN ck ((d.drop (a + 6)).take (nup d a - (a + 6)))))
/-- what stands at a place of a block -/
noncomputable def nx (d : List UInt8) (ck : Int) (a e : Nat) (sh : Bool) : Nx :=
  if e - a < 7 then .stop (sh && decide (a < e))
  else if e < nup d a ∧ sh = true then .stop true
  else if bt d (a + 6) = 0 ∧ nup d a = a + 7 then .pc ⟨-1, [], 0, 0⟩ e
  else if e < nup d a ∨ nbad d ck a = true then .pc ⟨-1, [], 0, e - a⟩ e
  else .pc ⟨bt d (a + 6), (d.drop (a + 7)).take (nup d a - (a + 7)), nup d a, 0⟩ (nup d a)

/-- the pieces that are left from a place of a block, and whether the end is torn -/
inductive Rst (d : List UInt8) (B : Nat) (ck : Int) : Nat → Nat → Bool → List Pc → Bool → Prop
  | nil {a e : Nat} {t : Bool} : a ≤ e → e ≤ d.length → nx d ck a e true = .stop t → Rst d B ck a e true [] t
  | turn {a e : Nat} {l : List Pc} {t t0 : Bool} : a ≤ e → e ≤ d.length → nx d ck a e false = .stop t0 →
      Rst d B ck e (min d.length (e + B)) (decide (min d.length (e + B) - e < B)) l t → Rst d B ck a e false l t
  | go {a e : Nat} {sh : Bool} {p : Pc} {a' : Nat} {l : List Pc} {t : Bool} : a ≤ e → e ≤ d.length → nx d ck a e sh = .pc p a' → Rst d B ck a' e sh l t → Rst d B ck a e sh (p :: l) t

theorem nx_pc {d : List UInt8} {ck : Int} {a e : Nat} {sh : Bool} {p : Pc} {a' : Nat} (h : nx d ck a e sh = .pc p a') : a + 7 ≤ a' ∧ a' ≤ e ∧ p.o.length + 7 + a ≤ a' ∧ p.k ≤ 255 ∧ -1 ≤ p.k ∧ (p.k ≠ -1 → p.m = 0 ∧ p.e = a') ∧ (p.k = -1 → p.o = [] ∧ a' = e) := by
  unfold nx at h
  split at h
  · cases h
  split at h
  · cases h
  split at h
  · cases h; simp; omega
  split at h
  · cases h; simp; omega
  · cases h
    have hb := bt_lt d (a + 6)
    have : a + 7 ≤ nup d a := by unfold nup; omega
    simp only [List.length_take, List.length_drop, Int.natCast_nonneg]
    refine ⟨by omega, by omega, by omega, by omega, by omega, by simp, fun q => by omega⟩

noncomputable def totP (l : List Pc) : Nat := (l.map fun p => p.o.length + 1).sum
theorem totP_cons (p : Pc) (l : List Pc) : totP (p :: l) = p.o.length + 1 + totP l := rfl
theorem totP_len : ∀ (l : List Pc), l.length ≤ totP l
  | [] => Nat.le_refl _
  | p :: l => by rw [totP_cons, List.length_cons]; have := totP_len l; omega
theorem Rst.tot {d : List UInt8} {B : Nat} {ck : Int} {a e : Nat} {sh : Bool} {l : List Pc} {t : Bool} (h : Rst d B ck a e sh l t) : totP l + a ≤ d.length := by
  induction h with
  | nil h1 h2 _ => show 0 + _ ≤ _; omega
  | turn h1 h2 _ _ ih => omega
  | go h1 h2 h3 _ ih => rw [totP_cons]; have := nx_pc h3; omega

theorem Rst.ex {d : List UInt8} {B : Nat} {ck : Int} (hB : 0 < B) : ∀ (n a e : Nat) (sh : Bool), (if sh then 0 else 1) + (d.length - a) + (d.length - e) ≤ n → a ≤ e → e ≤ d.length → ∃ l t, Rst d B ck a e sh l t := by
  intro n
  induction n with
  | zero =>
    intro a e sh h h1 h2
    have h3 : a = d.length := by omega
    have h4 : e = d.length := by omega
    cases sh with
    | false => simp at h
    | true =>
      refine ⟨[], false, .nil h1 h2 ?_⟩
      unfold nx
      rw [if_pos (by omega)]
      simp; omega
  | succ n ih =>
    intro a e sh h h1 h2
    cases hx : nx d ck a e sh with
    | stop t =>
      cases sh with
      | true => exact ⟨[], t, .nil h1 h2 hx⟩
      | false =>
        obtain ⟨l, t', hr⟩ := ih e (min d.length (e + B)) (decide (min d.length (e + B) - e < B)) (by
          simp only [Bool.false_eq_true, if_false] at h
          by_cases q : min d.length (e + B) - e < B
          · rw [if_pos (decide_eq_true q)]; omega
          · rw [if_neg (by simp; omega)]; omega) (by omega) (by omega)
        exact ⟨l, t', .turn h1 h2 hx hr⟩
    | pc p a' =>
      have := nx_pc hx
      obtain ⟨l, t', hr⟩ := ih a' e sh (by omega) (by omega) h2
      exact ⟨p :: l, t', .go h1 h2 hx hr⟩
theorem Rst.all {d : List UInt8} {B : Nat} {ck : Int} (hB : 0 < B) : ∃ l t, Rst d B ck 0 0 false l t := Rst.ex hB _ 0 0 false (Nat.le_refl _) (Nat.le_refl _) (Nat.zero_le _)
theorem Rst.len {d : List UInt8} {B : Nat} {ck : Int} {l : List Pc} {t : Bool} (h : Rst d B ck d.length d.length true l t) : l = [] ∧ t = false := by
  have hx : nx d ck d.length d.length true = .stop false := by
    unfold nx; rw [if_pos (by omega)]; simp
  cases h with
  | nil _ _ h => rw [hx] at h; cases h; exact ⟨rfl, rfl⟩
  | go _ _ h _ => rw [hx] at h; cases h

theorem bt_part {d : List UInt8} {s n i : Nat} (h : i < n) : bt ((d.drop s).take n) i = bt d (s + i) := by
  unfold bt
  rw [List.getD_eq_getElem?_getD, List.getD_eq_getElem?_getD, List.getElem?_take, if_pos h, List.getElem?_drop]
theorem part_slice {d : List UInt8} {s n r k : Nat} (h : r + k ≤ n) : (((d.drop s).take n).drop r).take k = (d.drop (s + r)).take k := by
  rw [List.drop_take, List.take_take, List.drop_drop, Nat.min_eq_left (by omega)]

theorem u8_eq {n : Nat} {b : UInt8} : b = n.toUInt8 ↔ b.toNat = n % 256 := by
  constructor
  · rintro rfl; simp
  · intro h; apply UInt8.toNat_inj.mp; rw [h]; simp
theorem take4 {d : List UInt8} {a : Nat} (h : a + 4 ≤ d.length) : (d.drop a).take 4 = [d.getD a 0, d.getD (a + 1) 0, d.getD (a + 2) 0, d.getD (a + 3) 0] := by
  apply List.ext_getElem?
  intro i
  rw [List.getElem?_take]
  split
  · rename_i hi
    rw [List.getElem?_drop, List.getElem?_eq_getElem (by omega)]
    have g : ∀ j, j < 4 → d[a + j]? = some (d.getD (a + j) 0) := fun j hj => by
      rw [List.getD_eq_getElem?_getD, List.getElem?_eq_getElem (by omega)]; rfl
    rw [← List.getElem?_eq_getElem, g i hi]
    match i, hi with
    | 0, _ => rfl
    | 1, _ => rfl
    | 2, _ => rfl
    | 3, _ => rfl
  · rename_i hi
    exact (List.getElem?_eq_none (by simp; omega)).symm
theorem rd4_iff {d : List UInt8} {a n : Nat} (h : a + 4 ≤ d.length) (hn : n < 4294967296) : (d.drop a).take 4 = le4 n ↔ rd4 d a = n := by
  rw [take4 h]
  unfold le4 rd4 bt
  have h0 := (d.getD a 0).toNat_lt
  have h1 := (d.getD (a + 1) 0).toNat_lt
  have h2 := (d.getD (a + 2) 0).toNat_lt
  have h3 := (d.getD (a + 3) 0).toNat_lt
  simp only [List.cons.injEq, and_true, u8_eq]
  omega
end Mine
end

section
open PySem PySem.W PyProof.Rows PySem.Calls PySem.Builtin
set_option Elab.async false
set_option autoImplicit false
set_option maxRecDepth 100000
namespace Mine

noncomputable def pcs (l : List Pc) : List V := l.map pcV
noncomputable abbrev pH (a : Nat) (l : List Pc) : HM := up noH a (.lst (pcs l))
theorem pH_get {a : Nat} {l : List Pc} : pH a l a = some (.lst (pcs l)) := up_self
theorem pH_app {a : Nat} {l : List Pc} {p : Pc} : up (pH a l) a (.lst (pcs l ++ [pcV p])) = pH a (l ++ [p]) := by
  unfold pH; rw [up_up]; simp [pcs]

noncomputable def x_228_3 : MS := .ite (.or (.p (.cmp .gt (.loc 10) (.len (.loc 6)))) (.p (.cmp .ne (.sl2 (.loc 6) (.loc 8) (.bin .add (.loc 8) (.int 4))) (.ca2 216 (.loc 2) (.sl2 (.loc 6) (.bin .add (.loc 8) (.int 6)) (.loc 10)))))) (.app 3 (.tu4 (.int (-1)) (.bys []) (.int 0) (.loc 9)) (.asg 8 (.int (-1)) .nop)) (.app 3 (.tu4 (.loc 11) (.sl2 (.loc 6) (.bin .add (.loc 8) (.int 7)) (.loc 10)) (.bin .add (.loc 5) (.loc 10)) (.int 0)) (.asg 8 (.loc 10) .nop)) .nop
noncomputable def x_228_2 : MS := .ite (.an (.p (.cmp .eq (.loc 11) (.int 0))) (.p (.cmp .eq (.loc 10) (.bin .add (.loc 8) (.int 7))))) (.app 3 (.tu4 (.int (-1)) (.bys []) (.int 0) (.int 0)) (.asg 8 (.int (-1)) .nop)) x_228_3 .nop
noncomputable def x_228_1 : MS := .ite (.an (.p (.cmp .gt (.loc 10) (.len (.loc 6)))) (.p (.loc 7))) (.asg 4 (.bool true) (.asg 8 (.int (-1)) .nop)) x_228_2 .nop
noncomputable def x_228_0 : MS := .asg 10 (.bin .add (.bin .add (.bin .add (.loc 8) (.int 7)) (.idx (.loc 6) (.bin .add (.loc 8) (.int 4)))) (.bin .mul (.int 256) (.idx (.loc 6) (.bin .add (.loc 8) (.int 5))))) (.asg 11 (.idx (.loc 6) (.bin .add (.loc 8) (.int 6))) x_228_1)

section
variable {d part : List UInt8} {B ck : Int} {pa s r lf up' kd : Nat} {tn sh : Bool} {acc : List Pc} {Q : Out → Loc → HM → Prop} {v9 v10 v11 : Option V}

noncomputable abbrev pL (d : List UInt8) (B ck : Int) (pa : Nat) (tn : Bool) (s : Nat) (part : List UInt8) (sh : Bool) (r : Int) (v9 v10 v11 : Option V) : Loc := [some (.bytes d), some (.int B), some (.int ck), some (.ref pa), some (.bool tn), some (.int (s : Int)), some (.bytes part), some (.bool sh), some (.int r), v9, v10, v11]

/-- whole or broken -/
theorem pc3 (hk : ck = 1 ∨ ck = 2) (hacc : acc.length < 1000000) (hd : part.length ≤ 100000) (hr7 : r + 7 ≤ up') (h1 : (part.length < up' ∨ (part.drop r).take 4 ≠ le4 (ckN ck ((part.drop (r + 6)).take (up' - (r + 6))))) → Q .next (pL d B ck pa tn s part sh (-1) (some (.int (lf : Int))) (some (.int (up' : Int))) (some (.int (kd : Int)))) (pH pa (acc ++ [⟨-1, [], 0, lf⟩])))
    (h2 : ¬ (part.length < up' ∨ (part.drop r).take 4 ≠ le4 (ckN ck ((part.drop (r + 6)).take (up' - (r + 6))))) → Q .next (pL d B ck pa tn s part sh (up' : Int) (some (.int (lf : Int))) (some (.int (up' : Int))) (some (.int (kd : Int)))) (pH pa (acc ++ [⟨kd, (part.drop (r + 7)).take (up' - (r + 7)), s + up', 0⟩]))) :
    W F13 noF noM x_228_3 (pL d B ck pa tn s part sh (r : Int) (some (.int (lf : Int))) (some (.int (up' : Int))) (some (.int (kd : Int)))) (pH pa acc) Q := by
  have bad : (part.length < up' ∨ (part.drop r).take 4 ≠ le4 (ckN ck ((part.drop (r + 6)).take (up' - (r + 6))))) → W F13 noF noM (.app 3 (.tu4 (.int (-1)) (.bys []) (.int 0) (.loc 9)) (.asg 8 (.int (-1)) .nop)) (pL d B ck pa tn s part sh (r : Int) (some (.int (lf : Int))) (some (.int (up' : Int))) (some (.int (kd : Int)))) (pH pa acc) Q := fun q => by
    rw [wq10]
    show match pH pa acc pa with | some (.lst vs) => _ | _ => False
    rw [pH_get]
    show Pe _ _ _ _ _
    rw [pq30, pq1, pq4, pq1, pq6, lcS _ _ _ _ rfl]
    refine ⟨by simp [pcs]; exact hacc, ?_⟩
    rw [wq3, pq1, wq1]
    have := h1 q
    rw [← pH_app] at this
    exact this
  have good : ¬ (part.length < up' ∨ (part.drop r).take 4 ≠ le4 (ckN ck ((part.drop (r + 6)).take (up' - (r + 6))))) → W F13 noF noM (.app 3 (.tu4 (.loc 11) (.sl2 (.loc 6) (.bin .add (.loc 8) (.int 7)) (.loc 10)) (.bin .add (.loc 5) (.loc 10)) (.int 0)) (.asg 8 (.loc 10) .nop)) (pL d B ck pa tn s part sh (r : Int) (some (.int (lf : Int))) (some (.int (up' : Int))) (some (.int (kd : Int)))) (pH pa acc) Q := fun q => by
    rw [wq10]
    show match pH pa acc pa with | some (.lst vs) => _ | _ => False
    rw [pH_get]
    show Pe _ _ _ _ _
    rw [pq30, pq6, lcS _ _ _ _ rfl, pq17, pq6, lcS _ _ _ _ rfl, pq7, pq6, lcS _ _ _ _ rfl, pq1, bAdd, pq6, lcS _ _ _ _ rfl, yB, nI, nI]
    refine ⟨⟨by omega, by omega⟩, ?_⟩
    rw [pq7, pq6, lcS _ _ _ _ rfl, pq6, lcS _ _ _ _ rfl, bAdd, pq1]
    refine ⟨by simp [pcs]; exact hacc, ?_⟩
    rw [wq3, pq6, lcS _ _ _ _ rfl, wq1]
    have := h2 q
    rw [← pH_app] at this
    have e1 : ((r : Int) + 7).toNat = r + 7 := by omega
    have e2 : (s : Int) + (up' : Int) = ((s + up' : Nat) : Int) := by omega
    rw [e1, e2, Int.toNat_natCast]
    exact this
  unfold x_228_3
  rw [wq22, tq4, tq1, pq8, pq6, lcS _ _ _ _ rfl, pq18, pq6, lcS _ _ _ _ rfl, lB, cGt, trB]
  refine ⟨fun q => ?_, fun q => ?_⟩
  · have q := of_decide_eq_true q
    exact ⟨fun _ => bad (.inl (by omega)), fun q => (by cases q)⟩
  · have q := of_decide_eq_false q
    rw [tq1, pq8, pq17, pq6, lcS _ _ _ _ rfl, pq6, lcS _ _ _ _ rfl, pq7, pq6, lcS _ _ _ _ rfl, pq1, bAdd, yB, nI, nI]
    refine ⟨⟨by omega, by omega⟩, ?_⟩
    rw [pq35, pq6, lcS _ _ _ _ rfl, pq17, pq6, lcS _ _ _ _ rfl, pq7, pq6, lcS _ _ _ _ rfl, pq1, bAdd, pq6, lcS _ _ _ _ rfl, yB, nI, nI]
    refine ⟨⟨by omega, by omega⟩, ?_⟩
    have e1 : ((r : Int) + 4).toNat - (r : Int).toNat = 4 := by omega
    have e2 : ((r : Int) + 6).toNat = r + 6 := by omega
    rw [e1, e2, Int.toNat_natCast, Int.toNat_natCast]
    refine .inl (four_W hk (by simp; omega) ?_)
    rw [cNeB, trB]
    refine ⟨fun q2 => bad (.inr (of_decide_eq_true q2)), fun q2 => good ?_⟩
    have q2 := of_decide_eq_false q2
    rintro (q3 | q3)
    · omega
    · exact q2 q3

noncomputable def pbad (part : List UInt8) (ck : Int) (r up' : Nat) : Prop := part.length < up' ∨ (part.drop r).take 4 ≠ le4 (ckN ck ((part.drop (r + 6)).take (up' - (r + 6))))
theorem pc2 (hk : ck = 1 ∨ ck = 2) (hacc : acc.length < 1000000) (hd : part.length ≤ 100000) (hr7 : r + 7 ≤ up')
    (h0 : kd = 0 ∧ up' = r + 7 → Q .next (pL d B ck pa tn s part sh (-1) (some (.int (lf : Int))) (some (.int (up' : Int))) (some (.int (kd : Int)))) (pH pa (acc ++ [⟨-1, [], 0, 0⟩])))
    (h1 : ¬ (kd = 0 ∧ up' = r + 7) → pbad part ck r up' → Q .next (pL d B ck pa tn s part sh (-1) (some (.int (lf : Int))) (some (.int (up' : Int))) (some (.int (kd : Int)))) (pH pa (acc ++ [⟨-1, [], 0, lf⟩])))
    (h2 : ¬ (kd = 0 ∧ up' = r + 7) → ¬ pbad part ck r up' → Q .next (pL d B ck pa tn s part sh (up' : Int) (some (.int (lf : Int))) (some (.int (up' : Int))) (some (.int (kd : Int)))) (pH pa (acc ++ [⟨kd, (part.drop (r + 7)).take (up' - (r + 7)), s + up', 0⟩]))) :
    W F13 noF noM x_228_2 (pL d B ck pa tn s part sh (r : Int) (some (.int (lf : Int))) (some (.int (up' : Int))) (some (.int (kd : Int)))) (pH pa acc) Q := by
  have nxt : ¬ (kd = 0 ∧ up' = r + 7) → W F13 noF noM x_228_3 (pL d B ck pa tn s part sh (r : Int) (some (.int (lf : Int))) (some (.int (up' : Int))) (some (.int (kd : Int)))) (pH pa acc) (fun o l' H' => match o with
        | .next => W F13 noF noM .nop l' H' Q
        | .ret v => Q (.ret v) l' H') := fun q => pc3 hk hacc hd hr7 (fun q2 => by rw [wq1]; exact h1 q q2) fun q2 => by rw [wq1]; exact h2 q q2
  unfold x_228_2
  generalize x_228_3 = R at *
  rw [wq22, tq3, tq1, pq8, pq6, lcS _ _ _ _ rfl, pq1, cEq, trB]
  refine ⟨fun q => ?_, fun q => ⟨fun q2 => (by cases q2), fun _ => nxt fun q2 => of_decide_eq_false q (by rw [q2.1]; rfl)⟩⟩
  have q := of_decide_eq_true q
  rw [tq1, pq8, pq6, lcS _ _ _ _ rfl, pq7, pq6, lcS _ _ _ _ rfl, pq1, bAdd, cEq, trB]
  refine ⟨fun q2 => ?_, fun q2 => nxt fun q3 => of_decide_eq_false q2 (by omega)⟩
  have q2 := of_decide_eq_true q2
  rw [wq10]
  show match pH pa acc pa with | some (.lst vs) => _ | _ => False
  rw [pH_get]
  show Pe _ _ _ _ _
  rw [pq30, pq1, pq4, pq1, pq1]
  refine ⟨by simp [pcs]; exact hacc, ?_⟩
  rw [wq3, pq1, wq1]
  have := h0 ⟨by omega, by omega⟩
  rw [← pH_app] at this
  exact this

theorem pc1 (hk : ck = 1 ∨ ck = 2) (hacc : acc.length < 1000000) (hd : part.length ≤ 100000) (hr7 : r + 7 ≤ up')
    (ht : part.length < up' ∧ sh = true → Q .next (pL d B ck pa true s part sh (-1) (some (.int (lf : Int))) (some (.int (up' : Int))) (some (.int (kd : Int)))) (pH pa acc))
    (h0 : ¬ (part.length < up' ∧ sh = true) → kd = 0 ∧ up' = r + 7 → Q .next (pL d B ck pa tn s part sh (-1) (some (.int (lf : Int))) (some (.int (up' : Int))) (some (.int (kd : Int)))) (pH pa (acc ++ [⟨-1, [], 0, 0⟩])))
    (h1 : ¬ (part.length < up' ∧ sh = true) → ¬ (kd = 0 ∧ up' = r + 7) → pbad part ck r up' → Q .next (pL d B ck pa tn s part sh (-1) (some (.int (lf : Int))) (some (.int (up' : Int))) (some (.int (kd : Int)))) (pH pa (acc ++ [⟨-1, [], 0, lf⟩])))
    (h2 : ¬ (part.length < up' ∧ sh = true) → ¬ (kd = 0 ∧ up' = r + 7) → ¬ pbad part ck r up' → Q .next (pL d B ck pa tn s part sh (up' : Int) (some (.int (lf : Int))) (some (.int (up' : Int))) (some (.int (kd : Int)))) (pH pa (acc ++ [⟨kd, (part.drop (r + 7)).take (up' - (r + 7)), s + up', 0⟩]))) :
    W F13 noF noM x_228_1 (pL d B ck pa tn s part sh (r : Int) (some (.int (lf : Int))) (some (.int (up' : Int))) (some (.int (kd : Int)))) (pH pa acc) Q := by
  have nxt : ¬ (part.length < up' ∧ sh = true) → W F13 noF noM x_228_2 (pL d B ck pa tn s part sh (r : Int) (some (.int (lf : Int))) (some (.int (up' : Int))) (some (.int (kd : Int)))) (pH pa acc) (fun o l' H' => match o with
        | .next => W F13 noF noM .nop l' H' Q
        | .ret v => Q (.ret v) l' H') := fun q => pc2 hk hacc hd hr7 (fun q2 => by rw [wq1]; exact h0 q q2) (fun q2 q3 => by rw [wq1]; exact h1 q q2 q3) fun q2 q3 => by rw [wq1]; exact h2 q q2 q3
  unfold x_228_1
  generalize x_228_2 = R at *
  rw [wq22, tq3, tq1, pq8, pq6, lcS _ _ _ _ rfl, pq18, pq6, lcS _ _ _ _ rfl, lB, cGt, trB]
  refine ⟨fun q => ?_, fun q => ⟨fun q2 => (by cases q2), fun _ => nxt fun q2 => of_decide_eq_false q (by omega)⟩⟩
  have q := of_decide_eq_true q
  rw [tq1, pq6, lcS _ _ _ _ rfl, trB]
  refine ⟨fun q2 => ?_, fun q2 => nxt fun q3 => by rw [q2] at q3; cases q3.2⟩
  rw [wq3, pq2, wq3, pq1, wq1]
  exact ht ⟨by omega, q2⟩

theorem part_slice' {d : List UInt8} {s n r U : Nat} (h : U ≤ n) : (((d.drop s).take n).drop r).take (U - r) = (d.drop (s + r)).take (U - r) := by
  rw [List.drop_take, List.take_take, List.drop_drop, Nat.min_eq_left (Nat.sub_le_sub_right h r)]
theorem part_slice4 {d : List UInt8} {s n r : Nat} (h : r + 4 ≤ n) : (((d.drop s).take n).drop r).take 4 = (d.drop (s + r)).take 4 := part_slice h
theorem num_a {s r U : Nat} {x y : Nat} (h : r + 7 + x + 256 * y = U) : s + r + 7 + x + 256 * y = s + U := by omega
theorem num_b {s r L : Nat} : s + L - (s + r) = L - r := Nat.add_sub_add_left s L r
theorem num_c {s U L : Nat} : s + L < s + U ↔ L < U := Nat.add_lt_add_iff_left
theorem num_d {s r U : Nat} : s + U = s + r + 7 ↔ U = r + 7 := by rw [Nat.add_assoc, Nat.add_left_cancel_iff]
theorem nup_part {s r L U : Nat} (h7 : r + 7 ≤ L) (hU : r + 7 + bt ((d.drop s).take L) (r + 4) + 256 * bt ((d.drop s).take L) (r + 5) = U) : nup d (s + r) = s + U := by
  unfold nup
  rw [bt_part (Nat.lt_of_lt_of_le (Nat.add_lt_add_left (by decide) r) h7), bt_part (Nat.lt_of_lt_of_le (Nat.add_lt_add_left (by decide) r) h7), ← Nat.add_assoc, ← Nat.add_assoc] at hU
  exact num_a hU
theorem bad_part {s r L U : Nat} (hL : s + L ≤ d.length) (h7 : r + 7 ≤ L) (hn : nup d (s + r) = s + U) : (s + L < nup d (s + r) ∨ nbad d ck (s + r) = true) ↔ pbad ((d.drop s).take L) ck r U := by
  have hpl : ((d.drop s).take L).length = L := by rw [List.length_take, List.length_drop]; exact Nat.min_eq_left (by omega)
  unfold nbad pbad
  rw [decide_eq_true_iff, hn, hpl, num_c]
  by_cases q : L < U
  · exact ⟨fun _ => .inl q, fun _ => .inl q⟩
  · have e1 : s + U - (s + r + 6) = U - (r + 6) := by rw [Nat.add_assoc, num_b]
    rw [part_slice4 (Nat.le_trans (Nat.add_le_add_left (by decide) r) h7), part_slice' (Nat.le_of_not_lt q), e1, ← Nat.add_assoc]

/-- what stands at a place, told by the block alone -/
theorem nx_part {s r L U : Nat} (hL : s + L ≤ d.length) (h7 : r + 7 ≤ L) (hU : r + 7 + bt ((d.drop s).take L) (r + 4) + 256 * bt ((d.drop s).take L) (r + 5) = U) :
    (L < U ∧ sh = true → nx d ck (s + r) (s + L) sh = .stop true) ∧
    (¬ (L < U ∧ sh = true) → bt ((d.drop s).take L) (r + 6) = 0 ∧ U = r + 7 → nx d ck (s + r) (s + L) sh = .pc ⟨-1, [], 0, 0⟩ (s + L)) ∧
    (¬ (L < U ∧ sh = true) → ¬ (bt ((d.drop s).take L) (r + 6) = 0 ∧ U = r + 7) → pbad ((d.drop s).take L) ck r U → nx d ck (s + r) (s + L) sh = .pc ⟨-1, [], 0, L - r⟩ (s + L)) ∧
    (¬ (L < U ∧ sh = true) → ¬ (bt ((d.drop s).take L) (r + 6) = 0 ∧ U = r + 7) → ¬ pbad ((d.drop s).take L) ck r U → nx d ck (s + r) (s + L) sh = .pc ⟨bt ((d.drop s).take L) (r + 6), (((d.drop s).take L).drop (r + 7)).take (U - (r + 7)), s + U, 0⟩ (s + U)) := by
  have hn := nup_part h7 hU
  have hb := bad_part (ck := ck) hL h7 hn
  have hpl : ((d.drop s).take L).length = L := by rw [List.length_take, List.length_drop]; exact Nat.min_eq_left (by omega)
  have b6 : bt ((d.drop s).take L) (r + 6) = bt d (s + r + 6) := by rw [bt_part (Nat.lt_of_lt_of_le (Nat.add_lt_add_left (by decide) r) h7), Nat.add_assoc]
  have n1 : ¬ (L - r < 7) := by omega
  clear hU hL h7
  unfold nx
  rw [num_b, if_neg n1, ← b6, hn]
  rw [hn] at hb
  have i1 : (s + L < s + U ∧ sh = true) → (L < U ∧ sh = true) := fun q => ⟨num_c.mp q.1, q.2⟩
  have i2 : (bt ((d.drop s).take L) (r + 6) = 0 ∧ s + U = s + r + 7) → (bt ((d.drop s).take L) (r + 6) = 0 ∧ U = r + 7) := fun q => ⟨q.1, num_d.mp q.2⟩
  refine ⟨fun q => ?_, fun q1 q2 => ?_, fun q1 q2 q3 => ?_, fun q1 q2 q3 => ?_⟩
  · rw [if_pos ⟨num_c.mpr q.1, q.2⟩]
  · rw [if_neg (fun q => q1 (i1 q)), if_pos ⟨q2.1, num_d.mpr q2.2⟩]
  · rw [if_neg (fun q => q1 (i1 q)), if_neg (fun q => q2 (i2 q)), if_pos (hb.mpr q3)]
  · have hle : U ≤ L := Nat.le_of_not_lt fun q => q3 (.inl (hpl.symm ▸ q))
    rw [if_neg (fun q => q1 (i1 q)), if_neg (fun q => q2 (i2 q)), if_neg (fun q => q3 (hb.mp q)), part_slice' hle, Nat.add_assoc s r 7, num_b]

theorem pc0r {lf : Nat} (hr : r + 7 ≤ part.length) (h : ∀ U : Nat, r + 7 + bt part (r + 4) + 256 * bt part (r + 5) = U → W F13 noF noM x_228_1 (pL d B ck pa tn s part sh (r : Int) (some (.int (lf : Int))) (some (.int (U : Int))) (some (.int (bt part (r + 6) : Int)))) (pH pa acc) Q) :
    W F13 noF noM x_228_0 (pL d B ck pa tn s part sh (r : Int) (some (.int (lf : Int))) v10 v11) (pH pa acc) Q := by
  have t4 : ((r : Int) + 4).toNat = r + 4 := by omega
  have t5 : ((r : Int) + 5).toNat = r + 5 := by omega
  have t6 : ((r : Int) + 6).toNat = r + 6 := by omega
  have hU := h _ rfl
  have eu : (r : Int) + 7 + (bt part (r + 4) : Int) + 256 * (bt part (r + 5) : Int) = ((r + 7 + bt part (r + 4) + 256 * bt part (r + 5) : Nat) : Int) := by omega
  rw [← eu] at hU
  clear h eu
  unfold x_228_0
  generalize x_228_1 = R at *
  rw [wq3, pq7, pq7, pq7, pq6, lcS _ _ _ _ rfl, pq1, bAdd, pq14, pq6, lcS _ _ _ _ rfl, pq7, pq6, lcS _ _ _ _ rfl, pq1, bAdd, iB]
  refine ⟨⟨by omega, by omega⟩, ?_⟩
  rw [bAdd, pq7, pq1, pq14, pq6, lcS _ _ _ _ rfl, pq7, pq6, lcS _ _ _ _ rfl, pq1, bAdd, iB]
  refine ⟨⟨by omega, by omega⟩, ?_⟩
  rw [bMul]
  refine ⟨⟨by decide, by decide⟩, ?_⟩
  rw [bAdd, wq3, pq14, pq6, lcS _ _ _ _ rfl, pq7, pq6, lcS _ _ _ _ rfl, pq1, bAdd, iB]
  refine ⟨⟨by omega, by omega⟩, ?_⟩
  rw [t4, t5, t6]
  exact hU

/-- one turn within a block -/
theorem pc0 {s r L : Nat} (hk : ck = 1 ∨ ck = 2) (hacc : acc.length < 1000000) (hd : d.length ≤ 100000) (hL : s + L ≤ d.length) (hr : r ≤ L)
    (ht : ∀ t v9 v10 v11, nx d ck (s + r) (s + L) sh = .stop t → Q .next (pL d B ck pa t s ((d.drop s).take L) sh (-1) v9 v10 v11) (pH pa acc))
    (hg : ∀ p a' v9 v10 v11 (r' : Int), nx d ck (s + r) (s + L) sh = .pc p a' → (∃ U : Nat, a' = s + U ∧ r' = (U : Int)) ∨ r' = -1 ∧ a' = s + L → Q .next (pL d B ck pa false s ((d.drop s).take L) sh r' v9 v10 v11) (pH pa (acc ++ [p]))) :
    W F13 noF noM b_228_1 (pL d B ck pa false s ((d.drop s).take L) sh (r : Int) v9 v10 v11) (pH pa acc) Q := by
  have hpl : ((d.drop s).take L).length = L := by rw [List.length_take, List.length_drop]; exact Nat.min_eq_left (by omega)
  have el : ((L : Nat) : Int) - (r : Int) = ((L - r : Nat) : Int) := (Int.ofNat_sub hr).symm
  have rest : r + 7 ≤ L → W F13 noF noM x_228_0 (pL d B ck pa false s ((d.drop s).take L) sh (r : Int) (some (.int ((L - r : Nat) : Int))) v10 v11) (pH pa acc) (fun o l' H' => match o with
        | .next => W F13 noF noM .nop l' H' Q
        | .ret v => Q (.ret v) l' H') := fun h7 => pc0r (by rw [hpl]; exact h7) fun U hU => by
    obtain ⟨k1, k2, k3, k4⟩ := nx_part (sh := sh) (ck := ck) hL h7 hU
    have hlen : ((d.drop s).take L).length ≤ 100000 := by rw [hpl]; exact Nat.le_trans (Nat.le_trans (Nat.le_add_left L s) hL) hd
    have hr7 : r + 7 ≤ U := by rw [← hU, Nat.add_assoc (r + 7)]; exact Nat.le_add_right _ _
    refine pc1 hk hacc hlen hr7 (fun q => ?_) (fun q1 q2 => ?_) (fun q1 q2 q3 => ?_) fun q1 q2 q3 => ?_
    · rw [hpl] at q
      show W _ _ _ _ _ _ _
      rw [wq1]
      exact ht true _ _ _ (k1 q)
    · rw [hpl] at q1
      show W _ _ _ _ _ _ _
      rw [wq1]
      exact hg _ _ _ _ _ (-1) (k2 q1 q2) (.inr ⟨rfl, rfl⟩)
    · rw [hpl] at q1
      show W _ _ _ _ _ _ _
      rw [wq1]
      exact hg _ _ _ _ _ (-1) (k3 q1 q2 q3) (.inr ⟨rfl, rfl⟩)
    · rw [hpl] at q1
      show W _ _ _ _ _ _ _
      rw [wq1]
      exact hg _ _ _ _ _ _ (k4 q1 q2 q3) (.inl ⟨U, rfl, rfl⟩)
  change W F13 noF noM (.asg 9 (.bin .sub (.len (.loc 6)) (.loc 8)) (.ite (.p (.cmp .lt (.loc 9) (.int 7))) (.asg 4 (.or (.loc 4) (.and (.loc 7) (.cmp .gt (.loc 9) (.int 0)))) (.asg 8 (.int (-1)) .nop)) x_228_0 .nop)) _ _ _
  clear hg
  generalize x_228_0 = R at *
  rw [wq3, pq7, pq18, pq6, lcS _ _ _ _ rfl, lB, pq6, lcS _ _ _ _ rfl, bSub, hpl, el, wq22, tq1, pq8, pq6, lcS _ _ _ _ rfl, pq1, cLt, trB]
  refine ⟨fun q => ?_, fun q => ?_⟩
  · have q : L - r < 7 := Int.ofNat_lt.mp (of_decide_eq_true q)
    have hx : nx d ck (s + r) (s + L) sh = .stop (sh && decide (s + r < s + L)) := by unfold nx; rw [num_b, if_pos q]
    rw [wq3, pq12, pq6, lcS _ _ _ _ rfl, trB]
    refine ⟨fun q => (by cases q), fun _ => ?_⟩
    rw [pq11, pq6, lcS _ _ _ _ rfl, trB]
    refine ⟨fun q2 => ?_, fun q2 => ?_⟩
    · rw [pq8, pq6, lcS _ _ _ _ rfl, pq1, cGt, wq3, pq1, wq1]
      show W F13 noF noM .nop _ _ Q
      rw [wq1]
      have e1 : decide ((0 : Int) < ((L - r : Nat) : Int)) = (sh && decide (s + r < s + L)) := by
        rw [q2, Bool.true_and]
        exact decide_eq_decide.mpr (by rw [Nat.add_lt_add_iff_left, ← Nat.sub_pos_iff_lt]; exact Int.natCast_pos)
      rw [e1]
      exact ht _ _ _ _ hx
    · rw [wq3, pq1, wq1]
      show W F13 noF noM .nop _ _ Q
      rw [wq1]
      subst q2
      exact ht _ _ _ _ hx
  · have q : ¬ L - r < 7 := fun q' => of_decide_eq_false q (Int.ofNat_lt.mpr q')
    exact rest (by omega)
end
end Mine
end

section
open PySem PySem.W PyProof.Rows PySem.Calls PySem.Builtin
set_option Elab.async false
set_option autoImplicit false
set_option maxRecDepth 100000
namespace Mine

inductive Starts (len B : Nat) : Nat → List V → Prop
  | nil {s : Nat} : len ≤ s → Starts len B s []
  | cons {s : Nat} {vs : List V} : s < len → Starts len B (s + B) vs → Starts len B s (.int (s : Int) :: vs)

theorem Starts.range {len B : Nat} (hB : 0 < B) : ∀ (n k : Nat), len ≤ (k + n) * B → (0 < n → (k + n - 1) * B < len) → Starts len B (k * B) ((List.range' k n).map fun (j : Nat) => V.int ((j : Int) * (B : Int)))
  | 0, k, h, _ => .nil (by simpa using h)
  | n + 1, k, h, h2 => by
    rw [List.range'_succ, List.map_cons]
    have h3 := h2 (by omega)
    have h4 : k * B ≤ (k + (n + 1) - 1) * B := Nat.mul_le_mul_right _ (by omega)
    refine .cons (by omega) ?_
    have := Starts.range hB n (k + 1) (by rw [show k + 1 + n = k + (n + 1) from by omega]; exact h) (fun hn => by rw [show k + 1 + n - 1 = k + (n + 1) - 1 from by omega]; exact h3)
    rw [Nat.add_mul, Nat.one_mul] at this
    exact this
theorem Starts.all {len B : Nat} (hB : 0 < B) : Starts len B 0 ((List.range (((len : Int) + (B : Int) - 1) / (B : Int)).toNat).map fun (j : Nat) => V.int ((j : Int) * (B : Int))) := by
  have e : (((len : Int) + (B : Int) - 1) / (B : Int)).toNat = (len + B - 1) / B := by
    have : (len : Int) + (B : Int) - 1 = ((len + B - 1 : Nat) : Int) := by omega
    rw [this, ← Int.natCast_ediv, Int.toNat_natCast]
  rw [e, List.range_eq_range']
  clear e
  obtain ⟨K, hK, hK'⟩ : ∃ K, len + B - 1 = K ∧ K + 1 = len + B := ⟨_, rfl, by omega⟩
  rw [hK]
  have h1 := Nat.div_add_mod K B
  have h2 := Nat.mod_lt K hB
  rw [Nat.mul_comm] at h1
  generalize K / B = q at *
  generalize K % B = m at *
  have := Starts.range (len := len) hB q 0 (by rw [Nat.zero_add]; omega) (fun hn => by
    have := Nat.le_mul_of_pos_left B hn
    rw [Nat.zero_add, Nat.sub_mul, Nat.one_mul]; omega)
  rwa [Nat.zero_mul] at this

theorem nx_stop_false {d : List UInt8} {ck : Int} {a e : Nat} {t : Bool} (h : nx d ck a e false = .stop t) : t = false := by
  unfold nx at h
  split at h
  · cases h; rfl
  split at h
  · rename_i q; cases q.2
  split at h
  · cases h
  split at h <;> cases h

section
variable {d : List UInt8} {B : Nat} {ck : Int} {pa : Nat} {P : V → Prop}

noncomputable abbrev pE (P : V → Prop) (vs : List V) : Loc → HM → Prop := eachW 5 (W F13 noF noM b_228_2) (fun l H => W F13 noF noM r_228_1 l H (OutV P)) (OutV P) vs
noncomputable abbrev pQ (P : V → Prop) (vs : List V) : Out → Loc → HM → Prop := fun o l' H' => match o with
  | .next => pE P vs l' H'
  | .ret v => OutV P (.ret v) l' H'
noncomputable abbrev pW (P : V → Prop) (vs : List V) : Nat → Loc → HM → Prop := loopW (fun l H k => WT F13 noF noM l t_228_1 H fun c H' => k c l H') (W F13 noF noM b_228_1) (fun l H => W F13 noF noM .nop l H (pQ P vs)) (pQ P vs)

theorem pE_nil {acc : List Pc} {tn : Bool} {v5 v6 v7 v8 v9 v10 v11 : Option V} (h : P (.t2 (.lst (pcs acc)) (.bool tn))) : pE P [] [some (.bytes d), some (.int (B : Int)), some (.int ck), some (.ref pa), some (.bool tn), v5, v6, v7, v8, v9, v10, v11] (pH pa acc) := by
  unfold pE r_228_1
  rw [eachW, wq29]
  show match pH pa acc pa with | some (.lst vs) => _ | _ => False
  rw [pH_get]
  show Pe _ _ _ _ _
  rw [pq6, lcS _ _ _ _ rfl]
  exact h
theorem pE_cons {s L : Nat} {vs : List V} {acc : List Pc} {tn : Bool} {v5 v6 v7 v8 v9 v10 v11 : Option V} (hL : s + L = min d.length (s + B)) (h : ∃ n, pW P vs n (pL d B ck pa tn s ((d.drop s).take L) (decide (L < B)) 0 v9 v10 v11) (pH pa acc)) :
    pE P (.int (s : Int) :: vs) [some (.bytes d), some (.int (B : Int)), some (.int ck), some (.ref pa), some (.bool tn), v5, v6, v7, v8, v9, v10, v11] (pH pa acc) := by
  show W F13 noF noM b_228_2 [some (.bytes d), some (.int (B : Int)), some (.int ck), some (.ref pa), some (.bool tn), some (.int (s : Int)), v6, v7, v8, v9, v10, v11] (pH pa acc) (pQ P vs)
  have eL : L = min (d.length - s) B := by
    have := congrArg (· - s) hL
    simp only [Nat.add_sub_cancel_left] at this
    rw [this, ← Nat.sub_min_sub_right, Nat.add_sub_cancel_left]
  have e2 : (d.drop s).take B = (d.drop s).take L := by
    rw [List.take_eq_take_iff, List.length_drop, eL, Nat.min_comm B, Nat.min_right_comm, Nat.min_self]
  have e3 : ((d.drop s).take L).length = L := by rw [List.length_take, List.length_drop, eL, Nat.min_right_comm, Nat.min_self]
  clear hL eL
  unfold b_228_2
  unfold pW at h
  generalize t_228_1 = T at *
  generalize b_228_1 = R at *
  refine w_asg ((ev_sl2 (i := s) (j := s + B) (ev_loc rfl) (ev_loc rfl) (ev_addN (ev_loc rfl) (ev_loc rfl))).cast (by rw [Nat.add_sub_cancel_left, e2])) ?_
  refine w_asg (ev_lt (c := decide (L < B)) (ev_lenB (ev_loc rfl)) (ev_loc rfl) (by rw [e3]; exact decide_eq_decide.mpr Int.ofNat_lt)) ?_
  refine w_asg ev_int ?_
  rw [wq23]
  exact h

theorem pW_exit {vs : List V} {acc : List Pc} {tn : Bool} {s : Nat} {part : List UInt8} {sh : Bool} {v9 v10 v11 : Option V} {n : Nat} (h : pE P vs (pL d B ck pa tn s part sh (-1) v9 v10 v11) (pH pa acc)) : pW P vs (n + 1) (pL d B ck pa tn s part sh (-1) v9 v10 v11) (pH pa acc) := by
  show WT F13 noF noM _ t_228_1 _ _
  unfold t_228_1
  generalize b_228_1 = R
  rw [tq1, pq8, pq6, lcS _ _ _ _ rfl, pq1, cGe, trB]
  refine ⟨fun q => (by cases q), fun _ => ?_⟩
  show W F13 noF noM .nop _ _ _
  rw [wq1]
  exact h
theorem pW_turn {vs : List V} {acc : List Pc} {tn : Bool} {s r : Nat} {part : List UInt8} {sh : Bool} {v9 v10 v11 : Option V} {n : Nat} (h : W F13 noF noM b_228_1 (pL d B ck pa tn s part sh (r : Int) v9 v10 v11) (pH pa acc) fun o l' H' => match o with
      | .next => pW P vs n l' H'
      | .ret v => pQ P vs (.ret v) l' H') : pW P vs (n + 1) (pL d B ck pa tn s part sh (r : Int) v9 v10 v11) (pH pa acc) := by
  show WT F13 noF noM _ t_228_1 _ _
  unfold t_228_1
  unfold pW at h
  generalize b_228_1 = R at *
  rw [tq1, pq8, pq6, lcS _ _ _ _ rfl, pq1, cGe, trB]
  refine ⟨fun _ => ?_, fun q => absurd (of_decide_eq_false q) (by omega)⟩
  exact h

theorem pieces_loop (hk : ck = 1 ∨ ck = 2) (hB : 0 < B) (hd : d.length ≤ 100000) {a e : Nat} {sh : Bool} {l : List Pc} {t : Bool} (R : Rst d B ck a e sh l t) : ∀ (s r L : Nat) (acc : List Pc) (ri : Int) (v9 v10 v11 : Option V) (vs : List V),
    a = s + r → e = s + L → s + L = min d.length (s + B) → sh = decide (L < B) → (ri = (r : Int) ∨ ri = -1 ∧ r = L) → Starts d.length B (s + B) vs → acc.length + l.length < 1000000 → P (.t2 (.lst (pcs (acc ++ l))) (.bool t)) →
    ∀ n, l.length + 1 ≤ n → pW P vs (n + 1) (pL d B ck pa false s ((d.drop s).take L) sh ri v9 v10 v11) (pH pa acc) := by
  induction R with
  | nil h1 h2 h3 =>
    rename_i a e t
    intro s r L acc ri v9 v10 v11 vs ha he hL hsh hr hst hacc hP n hn
    subst ha he
    obtain ⟨n, rfl⟩ : ∃ m, n = m + 1 := ⟨n - 1, by omega⟩
    have hvs : vs = [] := by
      have := of_decide_eq_true hsh.symm
      cases hst with
      | nil => rfl
      | cons q => omega
    subst hvs
    rw [List.append_nil] at hP
    have hacc' : acc.length < 1000000 := hacc
    have hrL : r ≤ L := Nat.le_of_add_le_add_left h1
    clear hacc hL hsh hst hn h1
    rcases hr with rfl | ⟨rfl, rfl⟩
    · refine pW_turn (pc0 hk hacc' hd h2 hrL (fun t' w9 w10 w11 hx => ?_) fun p a' w9 w10 w11 r' hx => ?_)
      · rw [h3] at hx; cases hx
        exact pW_exit (pE_nil hP)
      · rw [h3] at hx; cases hx
    · have : t = false := by
        unfold nx at h3
        rw [if_pos (by rw [Nat.sub_self]; decide)] at h3
        cases h3
        simp
      subst this
      exact pW_exit (pE_nil hP)
  | turn h1 h2 h3 h4 ih =>
    rename_i a e l t t0
    intro s r L acc ri v9 v10 v11 vs ha he hL hsh hr hst hacc hP n hn
    subst ha he
    obtain ⟨n, rfl⟩ : ∃ m, n = m + 1 := ⟨n - 1, by omega⟩
    have hsB := of_decide_eq_false hsh.symm
    have heq : L = B := by omega
    subst heq
    have go : ∀ {w9 w10 w11 : Option V}, pE P vs (pL d L ck pa false s ((d.drop s).take L) false (-1) w9 w10 w11) (pH pa acc) := fun {w9 w10 w11} => by
      clear hr
      cases hst with
      | nil q =>
        have he' : s + L = d.length := Nat.le_antisymm h2 q
        rw [he', show min d.length (d.length + L) = d.length from Nat.min_eq_left (Nat.le_add_right _ _), show decide (d.length - d.length < L) = true from by rw [Nat.sub_self]; exact decide_eq_true hB] at h4
        obtain ⟨rfl, rfl⟩ := h4.len
        rw [List.append_nil] at hP
        exact pE_nil hP
      | cons q hst' =>
        rename_i vs
        obtain ⟨L', hL'⟩ : ∃ L', min d.length (s + L + L) = s + L + L' := ⟨min d.length (s + L + L) - (s + L), by omega⟩
        rw [hL', Nat.add_sub_cancel_left] at ih
        exact pE_cons hL'.symm ⟨_, ih (s + L) 0 L' acc 0 _ _ _ vs rfl rfl hL'.symm rfl (.inl rfl) hst' hacc hP _ (Nat.le_refl _)⟩
    have hacc' : acc.length < 1000000 := by omega
    have hrL : r ≤ L := Nat.le_of_add_le_add_left h1
    clear hacc hL hsh hst hn h1
    rcases hr with rfl | ⟨rfl, rfl⟩
    · refine (pW_turn (pc0 hk hacc' hd h2 hrL (fun t' w9 w10 w11 hx => ?_) fun p a' w9 w10 w11 r' hx => ?_))
      · rw [h3] at hx; cases hx
        rw [nx_stop_false h3]
        exact pW_exit go
      · rw [h3] at hx; cases hx
    · exact pW_exit go
  | go h1 h2 h3 h4 ih =>
    rename_i a e sh p a' l t
    intro s r L acc ri v9 v10 v11 vs ha he hL hsh hr hst hacc hP n hn
    subst ha he
    obtain ⟨n, rfl⟩ : ∃ m, n = m + 1 := ⟨n - 1, by omega⟩
    have hx7 := nx_pc h3
    have hrL : r ≤ L := Nat.le_of_add_le_add_left h1
    rw [List.length_cons] at hacc hn
    rcases hr with rfl | ⟨rfl, rfl⟩
    · refine pW_turn (pc0 hk (by omega) hd h2 hrL (fun t' w9 w10 w11 hx => ?_) fun p a' w9 w10 w11 r' hx hr' => ?_)
      · rw [h3] at hx; cases hx
      · rw [h3] at hx; cases hx
        have hacc2 : (acc ++ [p]).length + l.length < 1000000 := by rw [List.length_append, List.length_singleton]; omega
        have hP2 : P (.t2 (.lst (pcs ((acc ++ [p]) ++ l))) (.bool t)) := by rw [List.append_assoc]; exact hP
        rcases hr' with ⟨U, rfl, rfl⟩ | ⟨rfl, rfl⟩
        · exact ih s U L (acc ++ [p]) _ w9 w10 w11 vs rfl rfl hL hsh (.inl rfl) hst hacc2 hP2 n (by omega)
        · exact ih s L L (acc ++ [p]) _ w9 w10 w11 vs rfl rfl hL hsh (.inr ⟨rfl, rfl⟩) hst hacc2 hP2 n (by omega)
    · exact absurd hx7.1 (by omega)

/-- the law's list of all pieces -/
theorem pieces_W {Bi : Int} {l : List Pc} {t : Bool} (hBi : Bi = (B : Int)) (hk : ck = 1 ∨ ck = 2) (hB : 0 < B) (hB2 : B ≤ 1000) (hd : d.length ≤ 100000) (R : Rst d B ck 0 0 false l t) (hP : P (.t2 (.lst (pcs l)) (.bool t))) : F14 228 [.bytes d, .int Bi, .int ck] P := by
  subst hBi
  refine .inr ⟨rfl, rfl, ?_⟩
  rw [show argL nm_228 ([.bytes d, .int (B : Int), .int ck] ++ _) = [some (.bytes d), some (.int (B : Int)), some (.int ck), none, none, none, none, none, none, none, none, none] from rfl]
  have hl := totP_len l
  have hl2 := R.tot
  have run : ∀ pa, pE P ((List.range (((d.length : Int) + (B : Int) - 1) / (B : Int)).toNat).map fun (j : Nat) => V.int ((j : Int) * (B : Int))) [some (.bytes d), some (.int (B : Int)), some (.int ck), some (.ref pa), some (.bool false), none, none, none, none, none, none, none] (pH pa []) := fun pa => by
    have hst := Starts.all (len := d.length) hB
    generalize ((List.range (((d.length : Int) + (B : Int) - 1) / (B : Int)).toNat).map fun (j : Nat) => V.int ((j : Int) * (B : Int))) = vs at hst
    cases R with
    | go _ _ h _ => unfold nx at h; rw [if_pos (by omega)] at h; cases h
    | turn h1 h2 h3 h4 =>
      cases hst with
      | nil q =>
        have h0 : d.length = 0 := by omega
        rw [h0, show min 0 (0 + B) = 0 from by omega, show decide (0 - 0 < B) = true from by simp; exact hB] at h4
        have h5 : Rst d B ck d.length d.length true l t := by rw [h0]; exact h4
        obtain ⟨rfl, rfl⟩ := h5.len
        exact pE_nil hP
      | cons q hst' =>
        obtain ⟨L, hLm⟩ : ∃ L, min d.length (0 + B) = 0 + L := ⟨_, (Nat.zero_add _).symm⟩
        rw [hLm, Nat.add_sub_cancel_left] at h4
        exact pE_cons hLm.symm ⟨_, pieces_loop hk hB hd h4 0 0 L [] 0 _ _ _ _ rfl rfl hLm.symm rfl (.inl rfl) hst' (by simp; omega) hP _ (Nat.le_refl _)⟩
  unfold ms_228
  unfold pE at run
  generalize b_228_2 = R1 at *
  generalize r_228_1 = R2 at *
  rw [wq4]
  intro pa _
  rw [wq3, pq2, wq26, pq1, pq18, pq6, lcS _ _ _ _ rfl, lB, pq6, lcS _ _ _ _ rfl, nI, nI, nI]
  refine ⟨⟨rfl, by omega, by omega, by omega, by omega⟩, ?_⟩
  exact run pa
end
end Mine
end

section
open PySem PySem.W PyProof.Rows PySem.Calls PySem.Builtin
set_option Elab.async false
set_option autoImplicit false
set_option maxRecDepth 100000
namespace Mine

/-- the fields of a reader -/
noncomputable def rf (d : List UInt8) (B ck : Int) (a e : Int) (sh : Bool) (sk : Int) (rl : Nat) (tn : Bool) (g bk : Int) : Fs :=
  [(0, .bytes d), (1, .int B), (2, .int ck), (3, .int a), (4, .int e), (5, .bool sh), (6, .int sk), (7, .ref rl), (8, .bool tn), (9, .int g), (10, .int bk)]
theorem init_rf (d : List UInt8) (B ck : Int) (rl : Nat) : initFs d B ck rl = rf d B ck 0 0 false 0 rl false 0 0 := rfl

structure RH (a dx rl : Nat) (fs : Fs) (rs : List V) (H : HM) : Prop where
  ob : H a = some (.ob dx fs)
  hid : H dx = some (.hid a)
  li : H rl = some (.lst rs)
  rf : fget fs 7 = some (.ref rl)
noncomputable def Els (a rl : Nat) (H H' : HM) : Prop := ∀ b, b ≠ a → b ≠ rl → H' b = H b
theorem Els.refl {a rl : Nat} {H : HM} : Els a rl H H := fun _ _ _ => rfl
theorem Els.trans {a rl : Nat} {H H₁ H₂ : HM} (x : Els a rl H H₁) (y : Els a rl H₁ H₂) : Els a rl H H₂ := fun b h1 h2 => (y b h1 h2).trans (x b h1 h2)

section
variable {a dx rl : Nat} {fs fs' : Fs} {rs rs' : List V} {H : HM} {F D : FT} {M : MTab} {l : Loc} {Q : Out → Loc → HM → Prop} {o f m : Nat} {e : ME} {r : MS} {v u : V}

theorem RH.n1 (R : RH a dx rl fs rs H) : a ≠ dx := fun q => by have := R.ob; rw [q, R.hid] at this; cases this
theorem RH.n2 (R : RH a dx rl fs rs H) : a ≠ rl := fun q => by have := R.ob; rw [q, R.li] at this; cases this
theorem RH.n3 (R : RH a dx rl fs rs H) : dx ≠ rl := fun q => by have := R.hid; rw [q, R.li] at this; cases this
theorem RH.upO (R : RH a dx rl fs rs H) (h : fget fs' 7 = some (.ref rl)) : RH a dx rl fs' rs (up H a (.ob dx fs')) :=
  ⟨up_self, by rw [up_ne (Ne.symm R.n1)]; exact R.hid, by rw [up_ne (Ne.symm R.n2)]; exact R.li, h⟩
theorem RH.upL (R : RH a dx rl fs rs H) : RH a dx rl fs rs' (up H rl (.lst rs')) :=
  ⟨by rw [up_ne R.n2]; exact R.ob, by rw [up_ne R.n3]; exact R.hid, up_self, R.rf⟩
theorem RH.upN (R : RH a dx rl fs rs H) {b : Nat} {mo : MO} (h : H b = none) : RH a dx rl fs rs (up H b mo) := by
  have k : ∀ x y, H x = some y → x ≠ b := fun x y e q => by rw [q, h] at e; cases e
  exact ⟨by rw [up_ne (k _ _ R.ob)]; exact R.ob, by rw [up_ne (k _ _ R.hid)]; exact R.hid, by rw [up_ne (k _ _ R.li)]; exact R.li, R.rf⟩
theorem RH.upM (R : RH a dx rl fs rs H) {b : Nat} {mo : MO} (h1 : b ≠ a) (h2 : b ≠ dx) (h3 : b ≠ rl) : RH a dx rl fs rs (up H b mo) :=
  ⟨by rw [up_ne (Ne.symm h1)]; exact R.ob, by rw [up_ne (Ne.symm h2)]; exact R.hid, by rw [up_ne (Ne.symm h3)]; exact R.li, R.rf⟩
theorem elsO {mo : MO} : Els a rl H (up H a mo) := fun b h1 _ => up_ne h1
theorem elsL {mo : MO} : Els a rl H (up H rl mo) := fun b _ h2 => up_ne h2

theorem RH.rd (n1 : a ≠ dx) (n2 : a ≠ rl) (n3 : dx ≠ rl) (h : fget fs 7 = some (.ref rl)) : RH a dx rl fs rs (rdH a dx rl fs rs) :=
  ⟨up_self, by unfold rdH; rw [up_ne (Ne.symm n1), up_self], by unfold rdH; rw [up_ne (Ne.symm n2), up_ne (Ne.symm n3), up_self], h⟩

theorem ev_att (R : RH a dx rl fs rs H) (hl : lget l o = some (.ref a)) (hf : fget fs f = some v) : Ev F H l (.att (.loc o) f) v := fun Q q => by
  rw [pq28, pq6, lcS _ _ _ _ hl]
  show match H a with | some (.ob _ fs) => _ | _ => False
  rw [R.ob]
  show match fget fs f with | some v => _ | none => False
  rw [hf]
  exact q

theorem w_seta (R : RH a dx rl fs rs H) (hl : lget l o = some (.ref a)) (hv : Ev F H l e v) (h7 : fget (fput fs f v) 7 = some (.ref rl)) (hfs : fs.length ≤ 50)
    (h : ∀ H', RH a dx rl (fput fs f v) rs H' → Els a rl H H' → W F D M r l H' Q) : W F D M (.seta o f e r) l H Q := by
  rw [wq19]
  refine hv _ ?_
  rw [hl]
  show match H a with | some (.ob dx fs) => _ | _ => False
  rw [R.ob]
  exact ⟨hfs, h _ (R.upO h7) elsO⟩
theorem w_auga {op : Op} {old w : V} (R : RH a dx rl fs rs H) (hl : lget l o = some (.ref a)) (hf : fget fs f = some old) (hv : Ev F H l e v) (ha : ∀ Q, Q w → augS op old v Q) (h7 : fget (fput fs f w) 7 = some (.ref rl)) (hfs : fs.length ≤ 50)
    (h : ∀ H', RH a dx rl (fput fs f w) rs H' → Els a rl H H' → W F D M r l H' Q) : W F D M (.auga o f op e r) l H Q := by
  rw [wq20, hl]
  show match H a with | some (.ob dx fs) => _ | _ => False
  rw [R.ob]
  show match fget fs f with | some old => _ | _ => False
  rw [hf]
  exact hv _ (ha _ ⟨hfs, h _ (R.upO h7) elsO⟩)
theorem w_appf (R : RH a dx rl fs rs H) (hl : lget l o = some (.ref a)) (hf : f = 7) (hv : Ev F H l e v) (hn : rs.length < 1000000)
    (h : ∀ H', RH a dx rl fs (rs ++ [v]) H' → Els a rl H H' → W F D M r l H' Q) : W F D M (.appf o f e r) l H Q := by
  subst hf
  rw [wq11, hl]
  show match H a with | some (.ob dx fs) => _ | _ => False
  rw [R.ob]
  show match fget fs 7 with | some (.ref rl) => _ | _ => False
  rw [R.rf]
  show match H rl with | some (.lst vs) => _ | _ => False
  rw [R.li]
  exact hv _ ⟨hn, h _ R.upL elsL⟩
theorem mc_in {vs : List V} {Q : V → HM → Prop} (R : RH a dx rl fs rs H) (hl : lget l o = some (.ref a)) (h : M m fs rs vs fun v fs' rs' => Q v (up (up H a (.ob dx fs')) rl (.lst rs'))) : mcS M H l o m vs Q := by
  unfold mcS
  rw [hl]
  show match H a with | some (.ob dx fs) => _ | _ => False
  rw [R.ob]
  show match fget fs 7 with | some (.ref rl) => _ | _ => False
  rw [R.rf]
  show match H rl with | some (.lst vs) => _ | _ => False
  rw [R.li]
  exact h
theorem RH.both (R : RH a dx rl fs rs H) (h : fget fs' 7 = some (.ref rl)) : RH a dx rl fs' rs' (up (up H a (.ob dx fs')) rl (.lst rs')) := (R.upO h).upL
theorem elsB {mo mo' : MO} : Els a rl H (up (up H a mo) rl mo') := elsO.trans elsL
theorem out_M {Kp : V → Fs → List V → Prop} {x : Out} (R : RH a dx rl fs rs H) (hx : x = .ret v ∨ x = .next ∧ v = .none) (h : Kp v fs rs) : OutM a dx rl Kp x l H := ⟨v, fs, rs, hx, R.ob, R.hid, R.rf, R.li, h⟩
theorem w_mc2 {e2 : ME} {fs'' : Fs} {rs'' : List V} (R : RH a dx rl fs rs H) (hl : lget l o = some (.ref a)) (h1 : Ev F H l e v) (h2 : Ev F H l e2 u) (hm : ∀ Kp : V → Fs → List V → Prop, Kp .none fs'' rs'' → M m fs rs [v, u] Kp) (h7 : fget fs'' 7 = some (.ref rl))
    (h : ∀ H', RH a dx rl fs'' rs'' H' → Els a rl H H' → W F D M r l H' Q) : W F D M (.mc2 o m e e2 r) l H Q := by
  rw [wq14]
  exact ⟨⟨a, dx, fs, hl, R.ob⟩, h1 _ (h2 _ (mc_in R hl (hm _ ⟨rfl, h _ (R.both h7) elsB⟩)))⟩
end

noncomputable def M1 : MTab := addM F14 noF noM 160 2 nm_160 ms_160
noncomputable def M2 : MTab := addM F14 noF M1 167 0 nm_167 ms_167
noncomputable def M3 : MTab := addM F14 noF M2 174 0 nm_174 ms_174
noncomputable def M4 : MTab := addM F14 noF M3 181 0 nm_181 ms_181

section
variable {d : List UInt8} {B ck a e sk g bk : Int} {sh tn : Bool} {rl : Nat} {rs : List V} {Kp : V → Fs → List V → Prop}
theorem drop_M {n : Int} {m : Nat} (hn : rs.length < 1000000) (h : Kp .none (rf d B ck a e sh (sk + n) rl tn g bk) (rs ++ [.str m])) : M1 160 (rf d B ck a e sh sk rl tn g bk) rs [.int n, .str m] Kp := by
  refine .inr ⟨rfl, rfl, fun A dx rl' n1 n2 n3 hrl => ?_⟩
  cases hrl
  have R := RH.rd (rs := rs) (fs := rf d B ck a e sh sk rl tn g bk) n1 n2 n3 rfl
  rw [show argL nm_160 [.ref A, .int n, .str m] = [some (.ref A), some (.int n), some (.str m)] from rfl]
  unfold ms_160
  refine w_auga (w := .int (sk + n)) R rfl rfl (ev_loc rfl) (fun Q q => q) rfl (Nat.le_of_ble_eq_true rfl) fun H' R' _ => ?_
  refine w_appf R' rfl rfl (ev_loc rfl) hn fun H' R' _ => ?_
  rw [wq1]
  exact out_M R' (.inr ⟨rfl, rfl⟩) h
theorem turn_M (h : ∀ e' : Int, e' = (if a + B < (d.length : Int) then a + B else (d.length : Int)) → Kp .none (rf d B ck a e' (decide (e' - a < B)) sk rl tn g bk) rs) {a0 : Int} : M2 167 (rf d B ck a0 a sh sk rl tn g bk) rs [] Kp := by
  refine .inr ⟨rfl, rfl, fun A dx rl' n1 n2 n3 hrl => ?_⟩
  cases hrl
  have R := RH.rd (rs := rs) (fs := rf d B ck a0 a sh sk rl tn g bk) n1 n2 n3 rfl
  rw [show argL nm_167 [.ref A] = [some (.ref A)] from rfl]
  unfold ms_167
  refine w_seta R rfl (ev_att R rfl rfl) rfl (Nat.le_of_ble_eq_true rfl) fun H' R' _ => ?_
  refine w_seta R' rfl (ev_min (ev_lenB (ev_att R' rfl rfl)) (ev_add (ev_att R' rfl rfl) (ev_att R' rfl rfl)) rfl) rfl (Nat.le_of_ble_eq_true rfl) fun H' R' _ => ?_
  refine w_seta R' rfl (ev_lt (ev_sub (ev_att R' rfl rfl) (ev_att R' rfl rfl)) (ev_att R' rfl rfl) rfl) rfl (Nat.le_of_ble_eq_true rfl) fun H' R' _ => ?_
  rw [wq1]
  exact out_M R' (.inr ⟨rfl, rfl⟩) (h _ rfl)
end
end Mine
end

section
open PySem PySem.W PyProof.Rows PySem.Calls PySem.Builtin
set_option Elab.async false
set_option autoImplicit false
set_option maxRecDepth 100000
namespace Mine

structure OH (a dx : Nat) (fs : Fs) (H : HM) : Prop where
  ob : H a = some (.ob dx fs)
  hid : H dx = some (.hid a)
theorem OH.ne {a dx : Nat} {fs : Fs} {H : HM} (R : OH a dx fs H) : a ≠ dx := fun q => by have := R.ob; rw [q, R.hid] at this; cases this
theorem w_seta0 {a dx : Nat} {fs : Fs} {H : HM} {F D : FT} {M : MTab} {l : Loc} {Q : Out → Loc → HM → Prop} {o f : Nat} {e : ME} {r : MS} {v : V} (R : OH a dx fs H) (hl : lget l o = some (.ref a)) (hv : Ev F H l e v) (hfs : fs.length ≤ 50)
    (h : ∀ H', OH a dx (fput fs f v) H' → W F D M r l H' Q) : W F D M (.seta o f e r) l H Q := by
  rw [wq19]
  refine hv _ ?_
  rw [hl]
  show match H a with | some (.ob dx fs) => _ | _ => False
  rw [R.ob]
  exact ⟨hfs, h _ ⟨up_self, by rw [up_ne (Ne.symm R.ne)]; exact R.hid⟩⟩

theorem init_W (a dx : Nat) (d : List UInt8) (bl ch : Int) (hne : a ≠ dx) (h1 : 8 ≤ bl) (h2 : bl ≤ 65542) (hk : ch = 1 ∨ ch = 2) :
    W F14 (fun _ _ _ => False) (fun _ _ _ _ _ => False) ms_153 (argL nm_153 [.ref a, .bytes d, .int bl, .int ch]) (up (up (fun _ => none) dx (.hid a)) a (.ob dx [])) (InitOut a dx d bl ch) := by
  rw [show argL nm_153 [.ref a, .bytes d, .int bl, .int ch] = [some (.ref a), some (.bytes d), some (.int bl), some (.int ch)] from rfl]
  have R : OH a dx [] (up (up (fun _ => none) dx (.hid a)) a (.ob dx [])) := ⟨up_self, by rw [up_ne (Ne.symm hne), up_self]⟩
  generalize up (up (fun _ => none) dx (MO.hid a)) a (.ob dx []) = H at R
  unfold ms_153
  rw [wq31, pq6, lcS _ _ _ _ rfl]
  refine .inl (.inl (.inl (.inl (.inl (.inl (cb_W h1 h2 ⟨rfl, ?_⟩))))))
  rw [wq31, pq6, lcS _ _ _ _ rfl]
  refine .inl (.inl (.inl (.inl (.inl (ckd_W hk ⟨rfl, ?_⟩)))))
  have ev0 : ∀ H, Ev F14 H [some (.ref a), some (.bytes d), some (.int bl), some (.int ch)] (.bytB (.loc 1)) (.bytes d) := fun H Q q => by rw [pq22, pq6, lcS _ _ _ _ rfl]; exact q
  refine w_seta0 R rfl (ev0 _) (Nat.le_of_ble_eq_true rfl) fun H R => ?_
  refine w_seta0 R rfl (ev_loc rfl) (Nat.le_of_ble_eq_true rfl) fun H R => ?_
  refine w_seta0 R rfl (ev_loc rfl) (Nat.le_of_ble_eq_true rfl) fun H R => ?_
  refine w_seta0 R rfl ev_int (Nat.le_of_ble_eq_true rfl) fun H R => ?_
  refine w_seta0 R rfl ev_int (Nat.le_of_ble_eq_true rfl) fun H R => ?_
  refine w_seta0 R rfl ev_bool (Nat.le_of_ble_eq_true rfl) fun H R => ?_
  refine w_seta0 R rfl ev_int (Nat.le_of_ble_eq_true rfl) fun H R => ?_
  rw [wq32]
  show match H a with | some (.ob dx fs) => _ | _ => False
  rw [R.ob]
  refine ⟨Nat.le_of_ble_eq_true rfl, fun rl hrl => ?_⟩
  have n1 : rl ≠ a := fun q => by rw [q, R.ob] at hrl; cases hrl
  have n2 : rl ≠ dx := fun q => by rw [q, R.hid] at hrl; cases hrl
  have R' : RH a dx rl [(0, .bytes d), (1, .int bl), (2, .int ch), (3, .int 0), (4, .int 0), (5, .bool false), (6, .int 0), (7, .ref rl)] [] (up (up H rl (.lst [])) a (.ob dx (fput (fput (fput (fput (fput (fput (fput (fput [] 0 (.bytes d)) 1 (.int bl)) 2 (.int ch)) 3 (.int 0)) 4 (.int 0)) 5 (.bool false)) 6 (.int 0)) 7 (.ref rl)))) :=
    ⟨up_self, by rw [up_ne (Ne.symm R.ne), up_ne (Ne.symm n2)]; exact R.hid, by rw [up_ne n1, up_self], rfl⟩
  refine w_seta R' rfl ev_bool rfl (Nat.le_of_ble_eq_true rfl) fun H R' _ => ?_
  refine w_seta R' rfl ev_int rfl (Nat.le_of_ble_eq_true rfl) fun H R' _ => ?_
  refine w_seta R' rfl ev_int rfl (Nat.le_of_ble_eq_true rfl) fun H R' _ => ?_
  rw [wq1]
  exact ⟨.inl rfl, rl, R'.ob, R'.hid, R'.li, n1, n2⟩

theorem drop_take1 {l : List UInt8} {n : Nat} : (l.take n).drop 1 = (l.drop 1).take (n - 1) := by rw [List.drop_take]

section
variable {d : List UInt8} {B ck sk g bk : Int} {a e : Nat} {sh tn : Bool} {rl A dx : Nat} {rs : List V} {H : HM} {Kp : V → Fs → List V → Prop} {v5 v6 : Option V}

noncomputable abbrev rfn (d : List UInt8) (B ck : Int) (a e : Nat) (sh : Bool) (sk : Int) (rl : Nat) (tn : Bool) (g bk : Int) : Fs := rf d B ck (a : Int) (e : Int) sh sk rl tn g bk

theorem frag_bad {x1 x3 x4 : Option V} {Q : Out → Loc → HM → Prop} (hQ : ∀ v l H, OutM A dx rl Kp (.ret v) l H → Q (.ret v) l H) (R : RH A dx rl (rfn d B ck e e sh sk rl tn g bk) rs H) (hn : rs.length < 1000000)
    (h : Kp (.t2 (.int (-2)) (.bytes [])) (rfn d B ck e e sh (sk + ((e - a : Nat) : Int)) rl tn g (bk + 1)) (rs ++ [.str 17])) :
    W F14 noF M2 (.auga 0 10 .add (.int 1) (.mc2 0 160 (.loc 2) (.str 17) (.ret (.tu2 (.int (-2)) (.bys []))))) [some (.ref A), x1, some (.int ((e - a : Nat) : Int)), x3, x4, v5, v6] H Q := by
  refine w_auga (w := .int (bk + 1)) R rfl rfl ev_int (fun Q q => q) rfl (Nat.le_of_ble_eq_true rfl) fun H' R' _ => ?_
  refine w_mc2 (fs'' := rfn d B ck e e sh (sk + ((e - a : Nat) : Int)) rl tn g (bk + 1)) (rs'' := rs ++ [.str 17]) R' rfl (ev_loc rfl) ev_str (fun Kp hk => .inl (drop_M hn hk)) rfl fun H' R' _ => ?_
  exact w_ret (ev_tu2 ev_int ev_bys) (hQ _ _ _ (out_M R' (.inl rfl) h))

theorem frag_ok {up' kd : Nat} {x1 x2 x3 : Option V} {bd : List UInt8} (R : RH A dx rl (rfn d B ck a e sh sk rl tn g bk) rs H)
    (h : Kp (.t2 (.int (kd : Int)) (.bytes (bd.drop 1))) (rfn d B ck up' e sh sk rl tn g bk) rs) :
    W F14 noF M2 r_174_1 [some (.ref A), x1, x2, x3, some (.int (kd : Int)), some (.int (up' : Int)), some (.bytes bd)] H (OutM A dx rl Kp) := by
  unfold r_174_1
  refine w_seta R rfl (ev_loc rfl) rfl (Nat.le_of_ble_eq_true rfl) fun H' R' _ => ?_
  exact w_ret (ev_tu2 (ev_loc rfl) (ev_sl1 (i := 1) (ev_loc rfl) ev_int)) (out_M R' (.inl rfl) h)

theorem frag2 {sz kd : Nat} (hk : ck = 1 ∨ ck = 2) (hd : d.length ≤ 100000) (R : RH A dx rl (rfn d B ck a e sh sk rl tn g bk) rs H) (hn : rs.length < 1000000) (he : e ≤ d.length) (ha : a + 7 + sz ≤ e)
    (h1 : rd4 d a ≠ ckN ck ((d.drop (a + 6)).take (a + 7 + sz - (a + 6))) → Kp (.t2 (.int (-2)) (.bytes [])) (rfn d B ck e e sh (sk + ((e - a : Nat) : Int)) rl tn g (bk + 1)) (rs ++ [.str 17]))
    (h2 : rd4 d a = ckN ck ((d.drop (a + 6)).take (a + 7 + sz - (a + 6))) → Kp (.t2 (.int (kd : Int)) (.bytes (((d.drop (a + 6)).take (a + 7 + sz - (a + 6))).drop 1))) (rfn d B ck (a + 7 + sz) e sh sk rl tn g bk) rs) :
    W F14 noF M2 r_174_2 [some (.ref A), some (.int (a : Int)), some (.int ((e - a : Nat) : Int)), some (.int (sz : Int)), some (.int (kd : Int)), v5, v6] H (OutM A dx rl Kp) := by
  unfold r_174_2
  refine w_asg (v := .int ((a + 7 + sz : Nat) : Int)) ((ev_add (ev_add (ev_loc rfl) ev_int) (ev_loc rfl)).cast (vint (by omega))) ?_
  refine w_asg (v := .bytes ((d.drop (a + 6)).take (a + 7 + sz - (a + 6)))) (ev_sl2 (i := a + 6) (j := a + 7 + sz) (ev_att R rfl rfl) ((ev_sub (ev_add (ev_loc rfl) ev_int) ev_int).cast (vint (by omega))) (ev_loc rfl)) ?_
  have hbl : ((d.drop (a + 6)).take (a + 7 + sz - (a + 6))).length ≤ 100000 := by simp; omega
  generalize hbd : (d.drop (a + 6)).take (a + 7 + sz - (a + 6)) = bd at *
  refine w_ite (c := decide (rd4 d a ≠ ckN ck bd)) (tv_p (fun Q q => ?_)) (fun hc => ?_) fun hc => ?_
  · rw [pq8, pq35]
    refine ev_att R rfl rfl _ ?_
    rw [pq6, lcS _ _ _ _ rfl]
    refine .inl (.inl (.inl (.inl (.inl (.inl (.inl (.inl (.inl (.inl (.inl (.inl (read_W (by omega) ?_))))))))))))
    rw [pq35]
    refine ev_att R rfl rfl _ ?_
    rw [pq6, lcS _ _ _ _ rfl]
    refine .inl (.inl (.inl (.inl (.inl (.inl (.inl (.inl (cks_W hk (by omega) ?_))))))))
    show Q (.bool (decide ((rd4 d a : Int) ≠ (ckN ck bd : Int))))
    have : decide ((rd4 d a : Int) ≠ (ckN ck bd : Int)) = decide (rd4 d a ≠ ckN ck bd) := by congr 1; simp only [eq_iff_iff]; omega
    rw [this]; exact q
  · refine w_seta R rfl (ev_att R rfl rfl) rfl (Nat.le_of_ble_eq_true rfl) fun H' R' _ => ?_
    exact frag_bad (Kp := Kp) (fun _ _ _ z => z) R' hn (h1 (of_decide_eq_true hc))
  · rw [wq1]
    exact frag_ok R (h2 (Decidable.not_not.mp (of_decide_eq_false hc)))

noncomputable def kin (p : Pc) : Int := if p.k = -1 then -2 else p.k
noncomputable def bin1 (p : Pc) : Int := if p.k = -1 then 1 else 0

theorem frag4 {v1 v2 v3 v4 : Option V} (hk : ck = 1 ∨ ck = 2) (hd : d.length ≤ 100000) (R : RH A dx rl (rfn d B ck a e sh sk rl tn g bk) rs H) (hn : rs.length < 1000000) (he : e ≤ d.length) (ha : a + 7 ≤ e)
    (hs : nx d ck a e sh = .stop true → Kp (.t2 (.int (-1)) (.bytes [])) (rfn d B ck e e sh sk rl true g bk) rs)
    (hp : ∀ p a' rs', nx d ck a e sh = .pc p a' → rs'.length ≤ rs.length + 1 → Kp (.t2 (.int (kin p)) (.bytes p.o)) (rfn d B ck a' e sh (sk + p.m) rl tn g (bk + bin1 p)) rs') :
    W F14 noF M2 r_174_7 [some (.ref A), v1, v2, v3, v4, v5, v6] H (OutM A dx rl Kp) := by
  have n1 : ¬ (e - a < 7) := by omega
  have hnup : nup d a = a + 7 + (bt d (a + 4) + bt d (a + 5) * 256) := by unfold nup; omega
  have hx : nx d ck a e sh = if e < nup d a ∧ sh = true then .stop true
    else if bt d (a + 6) = 0 ∧ nup d a = a + 7 then .pc ⟨-1, [], 0, 0⟩ e
    else if e < nup d a ∨ nbad d ck a = true then .pc ⟨-1, [], 0, e - a⟩ e
    else .pc ⟨bt d (a + 6), (d.drop (a + 7)).take (nup d a - (a + 7)), nup d a, 0⟩ (nup d a) := by unfold nx; rw [if_neg n1]
  have hb : nbad d ck a = decide (rd4 d a ≠ ckN ck ((d.drop (a + 6)).take (nup d a - (a + 6)))) := by
    unfold nbad
    congr 1
    rw [ne_eq, ne_eq, rd4_iff (by omega) (ckN_lt _ _)]
  unfold r_174_7
  refine w_asg (ev_att R rfl rfl) ?_
  refine w_asg (v := .int ((e - a : Nat) : Int)) ((ev_sub (ev_att R rfl rfl) (ev_loc rfl)).cast (vint (by omega))) ?_
  refine w_asg (v := .int ((bt d (a + 4) + bt d (a + 5) * 256 : Nat) : Int)) ((ev_add (ev_idxB (i := a + 4) (ev_att R rfl rfl) ((ev_add (ev_loc rfl) ev_int).cast (vint (by omega))) (by omega)) (ev_mul (ev_idxB (i := a + 5) (ev_att R rfl rfl) ((ev_add (ev_loc rfl) ev_int).cast (vint (by omega))) (by omega)) ev_int (by have := bt_lt d (a + 5); constructor <;> omega))).cast (vint (by omega))) ?_
  refine w_asg (v := .int (bt d (a + 6) : Int)) (ev_idxB (i := a + 6) (ev_att R rfl rfl) ((ev_add (ev_loc rfl) ev_int).cast (vint (by omega))) (by omega)) ?_
  have b4 := bt_lt d (a + 4)
  have b5 := bt_lt d (a + 5)
  generalize hsz : bt d (a + 4) + bt d (a + 5) * 256 = sz at *
  generalize hkd : bt d (a + 6) = kd at *
  refine w_ite (c := decide (e < nup d a)) (tv_p (ev_gt (ev_add ev_int (ev_loc rfl)) (ev_loc rfl) (by congr 1; simp only [eq_iff_iff]; omega))) (fun hc => ?_) fun hc => ?_
  · have hc := of_decide_eq_true hc
    have z0 : ¬ (kd = 0 ∧ nup d a = a + 7) := fun q => by omega
    refine w_seta R rfl (ev_att R rfl rfl) rfl (Nat.le_of_ble_eq_true rfl) fun H' R' _ => ?_
    refine w_ite (c := sh) (tv_p (ev_att R' rfl rfl)) (fun hc2 => ?_) fun hc2 => ?_
    · refine w_seta R' rfl ev_bool rfl (Nat.le_of_ble_eq_true rfl) fun H' R' _ => ?_
      refine w_ret (ev_tu2 ev_int ev_bys) (out_M R' (.inl rfl) (hs ?_))
      rw [hx, if_pos ⟨hc, hc2⟩]
    · rw [wq1]
      have hp' := hp ⟨-1, [], 0, e - a⟩ e (rs ++ [.str 17]) (by rw [hx, if_neg (fun q => by rw [hc2] at q; cases q.2), if_neg z0, if_pos (.inl hc)]) (by simp)
      unfold r_174_3
      exact frag_bad (Kp := Kp) (fun _ _ _ z => z) R' hn hp'
  · have hc := of_decide_eq_false hc
    have z1 : ¬ (e < nup d a ∧ sh = true) := fun q => hc q.1
    rw [wq1]
    show W _ _ _ r_174_4 _ _ _
    unfold r_174_4
    refine w_ite (c := decide (kd = 0) && decide (sz = 0)) (tv_an (tv_p (ev_eq (ev_loc rfl) ev_int (by congr 1; simp only [eq_iff_iff]; omega))) fun _ => tv_p (ev_eq (ev_loc rfl) ev_int (by congr 1; simp only [eq_iff_iff]; omega))) (fun hc2 => ?_) fun hc2 => ?_
    · simp only [Bool.and_eq_true, decide_eq_true_iff] at hc2
      refine w_seta R rfl (ev_att R rfl rfl) rfl (Nat.le_of_ble_eq_true rfl) fun H' R' _ => ?_
      refine w_auga (w := .int (bk + 1)) R' rfl rfl ev_int (fun Q q => q) rfl (Nat.le_of_ble_eq_true rfl) fun H' R' _ => ?_
      refine w_ret (ev_tu2 ev_int ev_bys) (out_M R' (.inl rfl) ?_)
      have hp' := hp ⟨-1, [], 0, 0⟩ e rs (by rw [hx, if_neg z1, if_pos ⟨hc2.1, by omega⟩]) (by omega)
      rw [show sk + (((⟨-1, [], 0, 0⟩ : Pc).m : Nat) : Int) = sk from by simp] at hp'
      exact hp'
    · have z2 : ¬ (kd = 0 ∧ nup d a = a + 7) := fun q => by
        rw [decide_eq_true q.1, decide_eq_true (show sz = 0 by omega)] at hc2; cases hc2
      rw [wq1]
      refine frag2 hk hd R hn he (by omega) (fun q => ?_) fun q => ?_
      · refine hp ⟨-1, [], 0, e - a⟩ e (rs ++ [.str 17]) ?_ (by simp)
        have hbad : nbad d ck a = true := by rw [hb, hnup]; exact decide_eq_true q
        rw [hx, if_neg z1, if_neg z2, if_pos (.inr hbad)]
      · have hp' := hp ⟨kd, (d.drop (a + 7)).take (nup d a - (a + 7)), nup d a, 0⟩ (nup d a) rs (by
          rw [hx, if_neg z1, if_neg z2, if_neg]
          rintro (q2 | q2)
          · exact hc q2
          · rw [hb, hnup] at q2; exact of_decide_eq_true q2 q) (by omega)
        rw [drop_take1, List.drop_drop]
        have e1 : kin ⟨kd, (d.drop (a + 7)).take (nup d a - (a + 7)), nup d a, 0⟩ = (kd : Int) := if_neg (show ¬ (kd : Int) = -1 by omega)
        have e2 : bin1 ⟨kd, (d.drop (a + 7)).take (nup d a - (a + 7)), nup d a, 0⟩ = 0 := if_neg (show ¬ (kd : Int) = -1 by omega)
        rw [e1, e2, show sk + ((0 : Nat) : Int) = sk from by simp, Int.add_zero, hnup] at hp'
        rw [show a + 7 + sz - (a + 6) - 1 = a + 7 + sz - (a + 7) from by omega]
        exact hp'

/-- the next piece -/
theorem frag_loop (hk : ck = 1 ∨ ck = 2) (hd : d.length ≤ 100000) {Bn : Nat} (hB : B = (Bn : Int)) (hn : rs.length < 1000000) {l : List Pc} {t : Bool} (Rs : Rst d Bn ck a e sh l t)
    (h0 : ∀ e' : Nat, l = [] → Rst d Bn ck e' e' true [] false → Kp (.t2 (.int (-1)) (.bytes [])) (rfn d B ck e' e' true sk rl (tn || t) g bk) rs)
    (h1 : ∀ p l' a' e' sh' rs', l = p :: l' → Rst d Bn ck a' e' sh' l' t → rs'.length ≤ rs.length + 1 → (p.k ≠ -1 → a' = p.e) → a ≤ a' → Kp (.t2 (.int (kin p)) (.bytes p.o)) (rfn d B ck a' e' sh' (sk + p.m) rl tn g (bk + bin1 p)) rs') :
    ∃ n, ∀ (H : HM), RH A dx rl (rfn d B ck a e sh sk rl tn g bk) rs H → loopW (fun l H k => WT F14 noF M2 l t_174_1 H fun c H' => k c l H') (W F14 noF M2 b_174_1) (fun l H => W F14 noF M2 r_174_7 l H (OutM A dx rl Kp)) (OutM A dx rl Kp) n [some (.ref A), none, none, none, none, none, none] H := by
  subst hB
  have test : ∀ {a e : Nat} {sh : Bool} {H : HM} {n : Nat}, a ≤ e → RH A dx rl (rfn d (Bn : Int) ck a e sh sk rl tn g bk) rs H → (e - a < 7 → W F14 noF M2 b_174_1 [some (.ref A), none, none, none, none, none, none] H fun o l' H' => match o with
      | .next => loopW (fun l H k => WT F14 noF M2 l t_174_1 H fun c H' => k c l H') (W F14 noF M2 b_174_1) (fun l H => W F14 noF M2 r_174_7 l H (OutM A dx rl Kp)) (OutM A dx rl Kp) n l' H'
      | .ret v => OutM A dx rl Kp (.ret v) l' H') → (¬ e - a < 7 → W F14 noF M2 r_174_7 [some (.ref A), none, none, none, none, none, none] H (OutM A dx rl Kp)) →
      loopW (fun l H k => WT F14 noF M2 l t_174_1 H fun c H' => k c l H') (W F14 noF M2 b_174_1) (fun l H => W F14 noF M2 r_174_7 l H (OutM A dx rl Kp)) (OutM A dx rl Kp) (n + 1) [some (.ref A), none, none, none, none, none, none] H := fun {a e sh H n} hae R k1 k2 => by
    have tv : Tv F14 noF M2 H [some (.ref A), none, none, none, none, none, none] t_174_1 (decide (e - a < 7)) := by
      unfold t_174_1
      exact tv_p (ev_lt (ev_sub (ev_att R rfl rfl) (ev_att R rfl rfl)) ev_int (by congr 1; simp only [eq_iff_iff]; omega))
    exact tv _ ⟨fun q => k1 (of_decide_eq_true q), fun q => k2 (of_decide_eq_false q)⟩
  induction Rs with
  | nil q1 q2 q3 =>
    rename_i a e t
    have hnil : Rst d Bn ck e e true [] false := .nil (Nat.le_refl _) q2 (by unfold nx; rw [if_pos (by omega)]; simp)
    refine ⟨1, fun H R => test q1 R (fun hlt => ?_) fun hge => ?_⟩
    · have ht : t = decide (a < e) := by
        unfold nx at q3
        rw [if_pos hlt, Bool.true_and] at q3
        cases q3; rfl
      unfold b_174_1
      refine w_ite (c := true) (tv_p (ev_att R rfl rfl)) (fun _ => ?_) fun q => (by cases q)
      refine w_ite (c := decide (a < e)) (tv_p (ev_lt (ev_att R rfl rfl) (ev_att R rfl rfl) (by congr 1; simp only [eq_iff_iff]; omega))) (fun hc => ?_) fun hc => ?_
      · refine w_seta R rfl ev_bool rfl (Nat.le_of_ble_eq_true rfl) fun H' R' _ => ?_
        refine w_seta R' rfl (ev_att R' rfl rfl) rfl (Nat.le_of_ble_eq_true rfl) fun H' R' _ => ?_
        rw [wq1]
        unfold r_174_5
        refine w_ret (ev_tu2 ev_int ev_bys) (out_M R' (.inl rfl) ?_)
        have := h0 e rfl hnil
        rw [ht, hc, Bool.or_true] at this
        exact this
      · rw [wq1]
        unfold r_174_5
        refine w_ret (ev_tu2 ev_int ev_bys) (out_M R (.inl rfl) ?_)
        have hae : a = e := by have := of_decide_eq_false hc; omega
        subst hae
        have := h0 a rfl hnil
        rw [ht, hc, Bool.or_false] at this
        exact this
    · have ht : t = true := by
        unfold nx at q3
        rw [if_neg hge] at q3
        split at q3
        · cases q3; rfl
        split at q3
        · cases q3
        split at q3 <;> cases q3
      refine frag4 hk hd R hn q2 (by omega) (fun _ => ?_) fun p a' rs' hx _ => by rw [q3] at hx; cases hx
      have := h0 e rfl hnil
      rw [ht, Bool.or_true] at this
      exact this
  | turn q1 q2 q3 q4 ih =>
    rename_i a e l t t0
    have hlt : e - a < 7 := by
      unfold nx at q3
      split at q3
      · assumption
      split at q3
      · rename_i q; cases q.2
      split at q3
      · cases q3
      split at q3 <;> cases q3
    obtain ⟨n, hn'⟩ := ih h0 fun p l' a' e' sh' rs' z1 z2 z3 z4 z5 => h1 p l' a' e' sh' rs' z1 z2 z3 z4 (by omega)
    refine ⟨n + 1, fun H R => test q1 R (fun _ => ?_) fun hge => absurd hlt hge⟩
    unfold b_174_1
    refine w_ite (c := false) (tv_p (ev_att R rfl rfl)) (fun q => (by cases q)) fun _ => ?_
    rw [wq1]
    show W _ _ _ r_174_6 _ _ _
    unfold r_174_6
    rw [wq13]
    refine mc_in R rfl (turn_M fun e' he' => ⟨rfl, ?_⟩)
    have e1 : e' = ((min d.length (e + Bn) : Nat) : Int) := by rw [he']; split <;> omega
    have e2 : decide (e' - (e : Int) < (Bn : Int)) = decide (min d.length (e + Bn) - e < Bn) := by
      rw [e1]; congr 1; simp only [eq_iff_iff]; omega
    rw [wq1, e2, e1]
    exact hn' _ (R.both rfl)
  | go q1 q2 q3 q4 ih =>
    rename_i a e sh p a' l t
    have hx7 := nx_pc q3
    refine ⟨1, fun H R => test q1 R (fun hlt => by omega) fun hge => frag4 hk hd R hn q2 (by omega) (fun hx => by rw [q3] at hx; cases hx) fun p' a'' rs' hx hrs => ?_⟩
    rw [q3] at hx
    cases hx
    exact h1 p l a' e sh rs' rfl q4 hrs (fun q => (hx7.2.2.2.2.2.1 q).2.symm) (by omega)

theorem frag_M (hk : ck = 1 ∨ ck = 2) (hd : d.length ≤ 100000) {Bn : Nat} (hB : B = (Bn : Int)) (hn : rs.length < 1000000) {l : List Pc} {t : Bool} (Rs : Rst d Bn ck a e sh l t)
    (h0 : ∀ e' : Nat, l = [] → Rst d Bn ck e' e' true [] false → Kp (.t2 (.int (-1)) (.bytes [])) (rfn d B ck e' e' true sk rl (tn || t) g bk) rs)
    (h1 : ∀ p l' a' e' sh' rs', l = p :: l' → Rst d Bn ck a' e' sh' l' t → rs'.length ≤ rs.length + 1 → (p.k ≠ -1 → a' = p.e) → a ≤ a' → Kp (.t2 (.int (kin p)) (.bytes p.o)) (rfn d B ck a' e' sh' (sk + p.m) rl tn g (bk + bin1 p)) rs') :
    M3 174 (rfn d B ck a e sh sk rl tn g bk) rs [] Kp := by
  refine .inr ⟨rfl, rfl, fun A dx rl' n1 n2 n3 hrl => ?_⟩
  cases hrl
  have R := RH.rd (rs := rs) (fs := rfn d B ck a e sh sk rl tn g bk) n1 n2 n3 rfl
  rw [show argL nm_174 [.ref A] = [some (.ref A), none, none, none, none, none, none] from rfl]
  unfold ms_174
  rw [wq23]
  obtain ⟨n, h⟩ := frag_loop (A := A) (dx := dx) hk hd hB hn Rs h0 h1
  exact ⟨n, h _ R⟩
end
end Mine
end

section
open PySem PySem.W PyProof.Rows PySem.Calls PySem.Builtin
set_option Elab.async false
set_option autoImplicit false
set_option maxRecDepth 100000
namespace Mine

/-- what one piece does to the marking -/
structure Stp where
  c : Option (List UInt8)
  lost : Nat
  brks : List Nat
  rc : Option (List UInt8 × Nat × Nat)
noncomputable def stp (c : Option (List UInt8)) (i : Nat) (p : Pc) : Stp := match c with
  | none => if p.k = 2 then ⟨some p.o, 0, [], none⟩ else if p.k = 1 then ⟨none, 0, [], some (p.o, p.e, i)⟩ else ⟨none, p.o.length + p.m, [i], none⟩
  | some c => if p.k = 3 then ⟨some (c ++ p.o), 0, [], none⟩ else if p.k = 4 then ⟨none, 0, [], some (c ++ p.o, p.e, i)⟩
    else if p.k = 1 then ⟨none, c.length, [i], some (p.o, p.e, i)⟩ else if p.k = 2 then ⟨some p.o, c.length, [i], none⟩ else ⟨none, c.length + p.o.length + p.m, [i], none⟩
structure Res where
  recs : List (List UInt8 × Nat × Nat)
  lost : Nat
  brks : List Nat
  torn : Bool
noncomputable def mkg : Option (List UInt8) → Nat → List Pc → Res
  | c, _, [] => ⟨[], 0, [], c.isSome⟩
  | c, i, p :: l => ⟨(stp c i p).rc.toList ++ (mkg (stp c i p).c (i + 1) l).recs, (stp c i p).lost + (mkg (stp c i p).c (i + 1) l).lost, (stp c i p).brks ++ (mkg (stp c i p).c (i + 1) l).brks, (mkg (stp c i p).c (i + 1) l).torn⟩

theorem stp_rc {c : Option (List UInt8)} {i : Nat} {p : Pc} {o : List UInt8} {e j : Nat} (h : (stp c i p).rc = some (o, e, j)) : j = i ∧ e = p.e ∧ (stp c i p).c = none ∧ (p.k = 1 ∨ p.k = 4) := by
  cases c with
  | none =>
    unfold stp at h ⊢
    dsimp only at h ⊢
    split at h
    · cases h
    split at h
    · rename_i q1 q2
      cases h
      rw [if_neg q1, if_pos q2]
      exact ⟨rfl, rfl, rfl, .inl q2⟩
    · cases h
  | some c =>
    unfold stp at h ⊢
    dsimp only at h ⊢
    split at h
    · cases h
    split at h
    · rename_i q1 q2
      cases h
      rw [if_neg q1, if_pos q2]
      exact ⟨rfl, rfl, rfl, .inr q2⟩
    split at h
    · rename_i q1 q2 q3
      cases h
      rw [if_neg q1, if_neg q2, if_pos q3]
      exact ⟨rfl, rfl, rfl, .inl q3⟩
    split at h <;> cases h
theorem stp_brks {c : Option (List UInt8)} {i : Nat} {p : Pc} : ∀ x ∈ (stp c i p).brks, x = i := by
  cases c with
  | none =>
    unfold stp
    dsimp only
    split
    · simp
    split <;> simp
  | some c =>
    unfold stp
    dsimp only
    split
    · simp
    split
    · simp
    split
    · simp
    split <;> simp

theorem mkg_brks_ge : ∀ (l : List Pc) (c : Option (List UInt8)) (i : Nat), ∀ x ∈ (mkg c i l).brks, i ≤ x ∧ x < i + l.length
  | [], c, i => by simp [mkg]
  | p :: l, c, i => by
    intro x hx
    rw [mkg] at hx
    rw [List.length_cons]
    rcases List.mem_append.mp hx with hx | hx
    · have := stp_brks x hx; omega
    · have := mkg_brks_ge l _ _ x hx; omega

/-- the next record, read from (c, i, l) -/
structure Nxt (c : Option (List UInt8)) (i : Nat) (l : List Pc) (o : List UInt8) (e j : Nat) (l' : List Pc) (ds db : Nat) : Prop where
  recs : (mkg c i l).recs = (o, e, j) :: (mkg none (j + 1) l').recs
  lost : (mkg c i l).lost = ds + (mkg none (j + 1) l').lost
  brks : ∃ bs, (mkg c i l).brks = bs ++ (mkg none (j + 1) l').brks ∧ bs.length = db ∧ ∀ x ∈ bs, x ≤ j
  torn : (mkg c i l).torn = (mkg none (j + 1) l').torn
  ij : i ≤ j
  len : j + 1 + l'.length = i + l.length

theorem Nxt.here {c : Option (List UInt8)} {i : Nat} {p : Pc} {l : List Pc} {o : List UInt8} {e j : Nat} (h : (stp c i p).rc = some (o, e, j)) : Nxt c i (p :: l) o e i l (stp c i p).lost (stp c i p).brks.length := by
  obtain ⟨rfl, rfl, hc, _⟩ := stp_rc h
  refine ⟨?_, ?_, ⟨(stp c j p).brks, ?_, rfl, fun x hx => Nat.le_of_eq (stp_brks x hx)⟩, ?_, Nat.le_refl _, by rw [List.length_cons]; omega⟩
  · rw [mkg, hc, h]; rfl
  · rw [mkg, hc]
  · rw [mkg, hc]
  · rw [mkg, hc]
theorem Nxt.step {c : Option (List UInt8)} {i : Nat} {p : Pc} {l l' : List Pc} {o : List UInt8} {e j ds db : Nat} (h : (stp c i p).rc = none) (N : Nxt (stp c i p).c (i + 1) l o e j l' ds db) :
    Nxt c i (p :: l) o e j l' ((stp c i p).lost + ds) ((stp c i p).brks.length + db) := by
  obtain ⟨n1, n2, ⟨bs, n3, n4, n5⟩, n6, n7, n8⟩ := N
  refine ⟨?_, ?_, ⟨(stp c i p).brks ++ bs, ?_, by rw [List.length_append, n4], fun x hx => ?_⟩, ?_, by omega, by rw [List.length_cons]; omega⟩
  · rw [mkg, h]; exact n1
  · rw [mkg]; show _ + _ = _; rw [n2]; omega
  · rw [mkg]; show _ ++ _ = _; rw [n3, List.append_assoc]
  · rcases List.mem_append.mp hx with hx | hx
    · have := stp_brks x hx; omega
    · exact n5 x hx
  · rw [mkg]; exact n6

/-- pieces as they are laid -/
noncomputable def PcOk (p : Pc) : Prop := p.k ≤ 255 ∧ -1 ≤ p.k ∧ (p.k ≠ -1 → p.m = 0) ∧ (p.k = -1 → p.o = [])
theorem Rst.pok {d : List UInt8} {B : Nat} {ck : Int} {a e : Nat} {sh : Bool} {l : List Pc} {t : Bool} (h : Rst d B ck a e sh l t) : ∀ p ∈ l, PcOk p := by
  induction h with
  | nil _ _ _ => simp
  | turn _ _ _ _ ih => exact ih
  | go _ _ h _ ih =>
    have := nx_pc h
    intro p hp
    rcases List.mem_cons.mp hp with rfl | hp
    · exact ⟨this.2.2.2.1, this.2.2.2.2.1, fun q => (this.2.2.2.2.2.1 q).1, fun q => (this.2.2.2.2.2.2 q).1⟩
    · exact ih p hp
end Mine
end

section
open PySem PySem.W PyProof.Rows PySem.Calls PySem.Builtin
set_option Elab.async false
set_option autoImplicit false
set_option maxRecDepth 100000
namespace Mine

/-- the run of a record, as the reader keeps it -/
noncomputable def Bg (c : Option (List UInt8)) (b : Bool) (pt : List UInt8) : Prop := (c = none ∧ b = false ∧ pt = []) ∨ (c = some pt ∧ b = true)

section
variable {d : List UInt8} {B ck sk g bk : Int} {a e : Nat} {sh tn b : Bool} {rl A dx pb : Nat} {rs : List V} {H : HM} {Kp : V → Fs → List V → Prop} {pt : List UInt8} {c : Option (List UInt8)} {i : Nat} {p : Pc} {Q : Out → Loc → HM → Prop}

theorem RH.pne (R : RH A dx rl (rfn d B ck a e sh sk rl tn g bk) rs H) (hp : H pb = some (.barr pt)) : pb ≠ A ∧ pb ≠ dx ∧ pb ≠ rl := by
  refine ⟨fun q => ?_, fun q => ?_, fun q => ?_⟩
  · rw [q, R.ob] at hp; cases hp
  · rw [q, R.hid] at hp; cases hp
  · rw [q, R.li] at hp; cases hp

noncomputable abbrev rL (A : Nat) (b : Bool) (pb : Nat) (k : Int) (o : List UInt8) : Loc := [some (.ref A), some (.bool b), some (.ref pb), some (.int k), some (.bytes o)]

/-- a new record is begun or is whole -/
theorem read_12 (hk : p.k = 1 ∨ p.k = 2) (R : RH A dx rl (rfn d B ck a e sh sk rl tn g bk) rs H)
    (h1 : p.k = 1 → ∀ H', RH A dx rl (rfn d B ck a e sh sk rl tn a bk) rs H' → Q (.ret (.bytes p.o)) (rL A b pb p.k p.o) H')
    (h2 : p.k = 2 → ∀ pb' H', RH A dx rl (rfn d B ck a e sh sk rl tn g bk) rs H' → H' pb' = some (.barr p.o) → Q .next (rL A true pb' p.k p.o) H') :
    W F14 noF M3 r_181_2 (rL A b pb p.k p.o) H Q := by
  unfold r_181_2
  refine w_ite (c := decide (p.k = 1)) (tv_p (ev_eq (ev_loc rfl) ev_int rfl)) (fun hc => ?_) fun hc => ?_
  · have hc := of_decide_eq_true hc
    refine w_seta R rfl (ev_att R rfl rfl) rfl (Nat.le_of_ble_eq_true rfl) fun H' R' _ => ?_
    exact w_ret (ev_loc rfl) (h1 hc H' R')
  · have hc := of_decide_eq_false hc
    have k2 : p.k = 2 := by rcases hk with q | q; exact absurd q hc; exact q
    rw [wq1]
    show W _ _ _ r_181_1 _ _ _
    unfold r_181_1
    rw [wq7, pq6, lcS _ _ _ _ rfl, yB]
    intro pb' hpb'
    refine w_asg ev_bool ?_
    rw [wq1]
    exact h2 k2 pb' _ (R.upN hpb') up_self

theorem read_new {k : Int} {o : List UInt8} (R : RH A dx rl (rfn d B ck a e sh sk rl tn g bk) rs H)
    (h : ∀ pb' H', RH A dx rl (rfn d B ck a e sh sk rl tn g bk) rs H' → H' pb' = some (.barr []) → Q .next (rL A false pb' k o) H') : W F14 noF M3 r_181_3 (rL A b pb k o) H Q := by
  unfold r_181_3
  rw [wq6]
  intro pb' hpb'
  refine w_asg ev_bool ?_
  rw [wq1]
  exact h pb' _ (R.upN hpb') up_self

theorem drop_3 {n : Int} {m : Nat} (hn : rs.length < 1000000) (h : Kp .none (rf d B ck a e sh (sk + n) rl tn g bk) (rs ++ [.str m])) : M3 160 (rf d B ck a e sh sk rl tn g bk) rs [.int n, .str m] Kp := .inl (.inl (drop_M hn h))

theorem Els.keep {x y : Nat} {H' : HM} (E : Els x y H H') (h1 : pb ≠ x) (h2 : pb ≠ y) (hp : H pb = some (.barr pt)) : H' pb = some (.barr pt) := by rw [E pb h1 h2]; exact hp

/-- a record that was begun is given up: breaks, and its octets -/
theorem read_give {k : Int} {o : List UInt8} {r : MS} (R : RH A dx rl (rfn d B ck a e sh sk rl tn g bk) rs H) (hp : H pb = some (.barr pt)) (hn : rs.length < 900000)
    (h : ∀ H' rs', rs'.length ≤ rs.length + 1 → RH A dx rl (rfn d B ck a e sh (sk + pt.length) rl tn g (bk + 1)) rs' H' → H' pb = some (.barr pt) → W F14 noF M3 r (rL A true pb k o) H' Q) :
    W F14 noF M3 (.ite (.p (.loc 1)) (.auga 0 10 .add (.int 1) (.ite (.p (.cmp .gt (.len (.loc 2)) (.int 0))) (.mc2 0 160 (.len (.loc 2)) (.str 26) .nop) .nop .nop)) .nop r) (rL A true pb k o) H Q := by
  obtain ⟨np1, np2, np3⟩ := R.pne hp
  refine w_ite (c := true) (tv_p (ev_loc rfl)) (fun _ => ?_) fun q => (by cases q)
  refine w_auga (w := .int (bk + 1)) R rfl rfl ev_int (fun Q q => q) rfl (Nat.le_of_ble_eq_true rfl) fun H' R' E => ?_
  have hp' := E.keep np1 np3 hp
  refine w_ite0 (c := decide (0 < pt.length)) (tv_p (ev_gt (ev_lenRB (ev_loc rfl) hp') ev_int (by congr 1; simp only [eq_iff_iff]; omega))) (fun hc => ?_) fun hc => ?_
  · refine w_mc2 (fs'' := rfn d B ck a e sh (sk + pt.length) rl tn g (bk + 1)) (rs'' := rs ++ [.str 26]) R' rfl (ev_lenRB (ev_loc rfl) hp') ev_str (fun Kp hk => drop_3 (by omega) hk) rfl fun H'' R'' E' => ?_
    rw [wq1]
    exact h H'' _ (by simp) R'' (E'.keep np1 np3 hp')
  · rw [wq1]
    have h0 : pt.length = 0 := by have := of_decide_eq_false hc; omega
    refine h H' rs (by omega) ?_ hp'
    rw [h0, show sk + ((0 : Nat) : Int) = sk from by simp]
    exact R'

/-- one piece is taken by read -/
theorem read_p (R : RH A dx rl (rfn d B ck a e sh (sk + p.m) rl tn g (bk + bin1 p)) rs H) (hp : H pb = some (.barr pt)) (hb : Bg c b pt) (ok : PcOk p) (hae : p.k ≠ -1 → a = p.e) (hn : rs.length < 900000) (hpt : pt.length + p.o.length ≤ 1000000)
    (h1 : ∀ o e1 H' rs' k', (stp c i p).rc = some (o, e1, i) → rs'.length ≤ rs.length + 1 → RH A dx rl (rfn d B ck a e sh (sk + (stp c i p).lost) rl tn e1 (bk + (stp c i p).brks.length)) rs' H' → Q (.ret (.bytes o)) k' H')
    (h2 : ∀ b' pt' pb' H' rs', (stp c i p).rc = none → Bg (stp c i p).c b' pt' → pt'.length ≤ pt.length + p.o.length → rs'.length ≤ rs.length + 1 → RH A dx rl (rfn d B ck a e sh (sk + (stp c i p).lost) rl tn g (bk + (stp c i p).brks.length)) rs' H' → H' pb' = some (.barr pt') → Q .next (rL A b' pb' (kin p) p.o) H') :
    W F14 noF M3 r_181_5 (rL A b pb (kin p) p.o) H Q := by
  obtain ⟨k1, k2, k3, k4⟩ := ok
  obtain ⟨np1, np2, np3⟩ := R.pne hp
  have sk0 : ∀ {x y : Int}, x = y → ∀ {bk' : Int} {g' : Int} {rs' : List V} {H' : HM}, RH A dx rl (rfn d B ck a e sh x rl tn g' bk') rs' H' → RH A dx rl (rfn d B ck a e sh y rl tn g' bk') rs' H' := fun q _ _ _ _ r => q ▸ r
  have bk0 : ∀ {x y : Int}, x = y → ∀ {sk' : Int} {g' : Int} {rs' : List V} {H' : HM}, RH A dx rl (rfn d B ck a e sh sk' rl tn g' x) rs' H' → RH A dx rl (rfn d B ck a e sh sk' rl tn g' y) rs' H' := fun q _ _ _ _ r => q ▸ r
  by_cases hm1 : p.k = -1
  · -- broken
    have hk : kin p = -2 := if_pos hm1
    have hbin : bin1 p = 1 := if_pos hm1
    have ho := k4 hm1
    rw [hbin] at R
    have n3 : ¬ p.k = 3 := by omega
    have n4 : ¬ p.k = 4 := by omega
    have n1 : ¬ p.k = 1 := by omega
    have n2 : ¬ p.k = 2 := by omega
    rw [hk] at h2 ⊢
    unfold r_181_5
    refine w_ite0 (c := false) (Tv.cast (tv_or (tv_p (ev_eq (ev_loc rfl) ev_int rfl)) fun _ => tv_p (ev_eq (ev_loc rfl) ev_int rfl)) rfl) (fun q => by cases q) fun _ => ?_
    refine w_ite0 (c := false) (Tv.cast (tv_or (tv_p (ev_eq (ev_loc rfl) ev_int rfl)) fun _ => tv_p (ev_eq (ev_loc rfl) ev_int rfl)) rfl) (fun q => by cases q) fun _ => ?_
    refine w_ite (c := true) (tv_p (ev_eq (ev_loc rfl) ev_int rfl)) (fun _ => ?_) fun q => by cases q
    refine w_ite0 (c := b) (tv_p (ev_loc rfl)) (fun hc => ?_) fun hc => ?_
    · rcases hb with ⟨_, q, _⟩ | ⟨rfl, _⟩
      · rw [q] at hc; cases hc
      have es : stp (some pt) i p = ⟨none, pt.length + p.o.length + p.m, [i], none⟩ := by unfold stp; dsimp only; rw [if_neg n3, if_neg n4, if_neg n1, if_neg n2]
      rw [es] at h2
      refine w_mc2 (fs'' := rfn d B ck a e sh (sk + p.m + pt.length) rl tn g (bk + 1)) (rs'' := rs ++ [.str 31]) R rfl (ev_lenRB (ev_loc rfl) hp) ev_str (fun Kp hk => drop_3 (by omega) hk) rfl fun H'' R'' E' => ?_
      rw [wq1]
      refine read_new R'' fun pb' H' R' hp' => ?_
      exact h2 false [] pb' H' _ rfl (.inl ⟨rfl, rfl, rfl⟩) (by simp) (by simp) (sk0 (by rw [ho]; simp; omega) R') hp'
    · rcases hb with ⟨rfl, _, hpt0⟩ | ⟨_, q⟩
      rotate_left
      · rw [q] at hc; cases hc
      have es : stp none i p = ⟨none, p.o.length + p.m, [i], none⟩ := by unfold stp; dsimp only; rw [if_neg n2, if_neg n1]
      rw [es] at h2
      rw [wq1]
      refine read_new R fun pb' H' R' hp' => ?_
      exact h2 false [] pb' H' _ rfl (.inl ⟨rfl, rfl, rfl⟩) (by simp) (by omega) (sk0 (by rw [ho]; simp) R') hp'
  have hk : kin p = p.k := if_neg hm1
  have hbin : bin1 p = 0 := if_neg hm1
  have hm := k3 hm1
  have ha := hae hm1
  rw [hbin, hm, Int.add_zero, show sk + ((0 : Nat) : Int) = sk from by simp] at R
  rw [hk] at h2 ⊢
  by_cases h12 : p.k = 1 ∨ p.k = 2
  · unfold r_181_5
    refine w_ite0 (c := true) (Tv.cast (tv_or (tv_p (ev_eq (ev_loc rfl) ev_int rfl)) fun _ => tv_p (ev_eq (ev_loc rfl) ev_int rfl)) (by simpa using h12)) (fun _ => ?_) fun q => by cases q
    cases b with
    | true =>
      rcases hb with ⟨_, q, _⟩ | ⟨rfl, _⟩
      · cases q
      refine read_give R hp hn fun H' rs' hrs R' hp' => read_12 h12 R' (fun q H'' R'' => ?_) fun q pb' H'' R'' hp'' => ?_
      · have es : stp (some pt) i p = ⟨none, pt.length, [i], some (p.o, p.e, i)⟩ := by unfold stp; dsimp only; rw [if_neg (by omega), if_neg (by omega), if_pos q]
        rw [es] at h1
        refine h1 p.o p.e H'' rs' _ rfl hrs ?_
        rw [← ha]; exact R''
      · have es : stp (some pt) i p = ⟨some p.o, pt.length, [i], none⟩ := by unfold stp; dsimp only; rw [if_neg (by omega), if_neg (by omega), if_neg (by omega), if_pos q]
        rw [es] at h2
        exact h2 true p.o pb' H'' rs' rfl (.inr ⟨rfl, rfl⟩) (by omega) hrs R'' hp''
    | false =>
      rcases hb with ⟨rfl, _, hpt0⟩ | ⟨_, q⟩
      rotate_left
      · cases q
      refine w_ite (c := false) (tv_p (ev_loc rfl)) (fun q => by cases q) fun _ => ?_
      rw [wq1]
      refine read_12 h12 R (fun q H'' R'' => ?_) fun q pb' H'' R'' hp'' => ?_
      · have es : stp none i p = ⟨none, 0, [], some (p.o, p.e, i)⟩ := by unfold stp; dsimp only; rw [if_neg (by omega), if_pos q]
        rw [es] at h1
        refine h1 p.o p.e H'' rs _ rfl (by omega) (sk0 (x := sk) (by simp) (bk0 (x := bk) (by simp) ?_))
        rw [← ha]; exact R''
      · have es : stp none i p = ⟨some p.o, 0, [], none⟩ := by unfold stp; dsimp only; rw [if_pos q]
        rw [es] at h2
        exact h2 true p.o pb' H'' rs rfl (.inr ⟨rfl, rfl⟩) (by omega) (by omega) (sk0 (x := sk) (by simp) (bk0 (x := bk) (by simp) R'')) hp''
  have n1 : ¬ p.k = 1 := fun q => h12 (.inl q)
  have n2 : ¬ p.k = 2 := fun q => h12 (.inr q)
  by_cases h34 : p.k = 3 ∨ p.k = 4
  · unfold r_181_5
    refine w_ite0 (c := false) (Tv.cast (tv_or (tv_p (ev_eq (ev_loc rfl) ev_int rfl)) fun _ => tv_p (ev_eq (ev_loc rfl) ev_int rfl)) (by simpa using h12)) (fun q => by cases q) fun _ => ?_
    refine w_ite0 (c := true) (Tv.cast (tv_or (tv_p (ev_eq (ev_loc rfl) ev_int rfl)) fun _ => tv_p (ev_eq (ev_loc rfl) ev_int rfl)) (by simpa using h34)) (fun _ => ?_) fun q => by cases q
    refine w_ite0 (c := !b) (tv_nt (tv_p (ev_loc rfl))) (fun hc => ?_) fun hc => ?_
    · have hbf : b = false := by simpa using hc
      subst hbf
      rcases hb with ⟨rfl, _, hpt0⟩ | ⟨_, q⟩
      rotate_left
      · cases q
      have es : stp none i p = ⟨none, p.o.length + p.m, [i], none⟩ := by unfold stp; dsimp only; rw [if_neg n2, if_neg n1]
      rw [es] at h2
      refine w_auga (w := .int (bk + 1)) R rfl rfl ev_int (fun Q q => q) rfl (Nat.le_of_ble_eq_true rfl) fun H' R' E => ?_
      refine w_mc2 (fs'' := rfn d B ck a e sh (sk + p.o.length) rl tn g (bk + 1)) (rs'' := rs ++ [.str 25]) R' rfl (ev_lenB (ev_loc rfl)) ev_str (fun Kp hk => drop_3 (by omega) hk) rfl fun H'' R'' E' => ?_
      rw [wq1]
      exact h2 false pt pb H'' _ rfl (.inl ⟨rfl, rfl, hpt0⟩) (by omega) (by simp) (sk0 (by rw [hm]; simp) R'') (E'.keep np1 np3 (E.keep np1 np3 hp))
    · have hbt : b = true := by simpa using hc
      subst hbt
      rcases hb with ⟨_, q, _⟩ | ⟨rfl, _⟩
      · cases q
      rw [wq12]
      show match H pb with | some (.barr c) => _ | _ => False
      rw [hp]
      show Pe _ _ _ _ _
      rw [pq6, lcS _ _ _ _ rfl, yB]
      refine ⟨hpt, ?_⟩
      have R1 : RH A dx rl (rfn d B ck a e sh sk rl tn g bk) rs (up H pb (.barr (pt ++ p.o))) := R.upM np1 np2 np3
      have hp1 : up H pb (.barr (pt ++ p.o)) pb = some (.barr (pt ++ p.o)) := up_self
      generalize up H pb (.barr (pt ++ p.o)) = H1 at R1 hp1
      refine w_ite0 (c := decide (p.k = 4)) (tv_p (ev_eq (ev_loc rfl) ev_int rfl)) (fun hc => ?_) fun hc => ?_
      · have q := of_decide_eq_true hc
        have es : stp (some pt) i p = ⟨none, 0, [], some (pt ++ p.o, p.e, i)⟩ := by unfold stp; dsimp only; rw [if_neg (by omega), if_pos q]
        rw [es] at h1
        refine w_seta R1 rfl (ev_att R1 rfl rfl) rfl (Nat.le_of_ble_eq_true rfl) fun H' R' E => ?_
        have hp' := E.keep np1 np3 hp1
        refine w_ret (v := .bytes (pt ++ p.o)) (fun Q q => ?_) ?_
        · rw [pq22, pq6, lcS _ _ _ _ rfl]
          show match H' pb with | some (.barr c) => _ | _ => False
          rw [hp']; exact q
        · refine h1 _ p.e H' rs _ rfl (by omega) (sk0 (x := sk) (by simp) (bk0 (x := bk) (by simp) ?_))
          rw [← ha]; exact R'
      · have q : p.k = 3 := by have := of_decide_eq_false hc; omega
        have es : stp (some pt) i p = ⟨some (pt ++ p.o), 0, [], none⟩ := by unfold stp; dsimp only; rw [if_pos q]
        rw [es] at h2
        rw [wq1]
        exact h2 true _ pb H1 rs rfl (.inr ⟨rfl, rfl⟩) (by simp) (by omega) (sk0 (x := sk) (by simp) (bk0 (x := bk) (by simp) R1)) hp1
  · have n3 : ¬ p.k = 3 := fun q => h34 (.inl q)
    have n4 : ¬ p.k = 4 := fun q => h34 (.inr q)
    unfold r_181_5
    refine w_ite0 (c := false) (Tv.cast (tv_or (tv_p (ev_eq (ev_loc rfl) ev_int rfl)) fun _ => tv_p (ev_eq (ev_loc rfl) ev_int rfl)) (by simpa using h12)) (fun q => by cases q) fun _ => ?_
    refine w_ite0 (c := false) (Tv.cast (tv_or (tv_p (ev_eq (ev_loc rfl) ev_int rfl)) fun _ => tv_p (ev_eq (ev_loc rfl) ev_int rfl)) (by simpa using h34)) (fun q => by cases q) fun _ => ?_
    refine w_ite (c := false) (tv_p (ev_eq (ev_loc rfl) ev_int (by simp; omega))) (fun q => by cases q) fun _ => ?_
    refine w_auga (w := .int (bk + 1)) R rfl rfl ev_int (fun Q q => q) rfl (Nat.le_of_ble_eq_true rfl) fun H' R' E => ?_
    have hp' := E.keep np1 np3 hp
    refine w_mc2 (v := .int ((p.o.length : Int) + (pt.length : Int))) (u := .str 24) (fs'' := rfn d B ck a e sh (sk + ((p.o.length : Int) + (pt.length : Int))) rl tn g (bk + 1)) (rs'' := rs ++ [.str 24]) R' rfl (ev_add (ev_lenB (ev_loc rfl)) (ev_lenRB (ev_loc rfl) hp')) (fun Q q => ?_) (fun Kp hk => drop_3 (by omega) hk) rfl fun H'' R'' E' => ?_
    · rw [pq7, pq5, pq21, pq6, lcS _ _ _ _ rfl, nI]
      exact ⟨⟨by omega, by omega⟩, by decide, q⟩
    rw [wq1]
    refine read_new R'' fun pb' H3 R3 hp3 => ?_
    rcases hb with ⟨rfl, _, hpt0⟩ | ⟨rfl, _⟩
    · have es : stp none i p = ⟨none, p.o.length + p.m, [i], none⟩ := by unfold stp; dsimp only; rw [if_neg n2, if_neg n1]
      rw [es] at h2
      exact h2 false [] pb' H3 _ rfl (.inl ⟨rfl, rfl, rfl⟩) (by simp) (by simp) (sk0 (by rw [hm, hpt0]; simp) R3) hp3
    · have es : stp (some pt) i p = ⟨none, pt.length + p.o.length + p.m, [i], none⟩ := by unfold stp; dsimp only; rw [if_neg n3, if_neg n4, if_neg n1, if_neg n2]
      rw [es] at h2
      exact h2 false [] pb' H3 _ rfl (.inl ⟨rfl, rfl, rfl⟩) (by simp) (by simp) (sk0 (by rw [hm]; simp; omega) R3) hp3
end
end Mine
end

section
open PySem PySem.W PyProof.Rows PySem.Calls PySem.Builtin
set_option Elab.async false
set_option autoImplicit false
set_option maxRecDepth 100000
namespace Mine

section
variable {d : List UInt8} {B ck g : Int} {tn t : Bool} {rl A dx Bn : Nat} {Kp : V → Fs → List V → Prop}

theorem Bg.some {c : Option (List UInt8)} {b : Bool} {pt : List UInt8} (h : Bg c b pt) : c.isSome = b := by
  rcases h with ⟨rfl, rfl, _⟩ | ⟨rfl, rfl⟩ <;> rfl

theorem read_loop (hk : ck = 1 ∨ ck = 2) (hd : d.length ≤ 100000) (hB : B = (Bn : Int)) : ∀ (l : List Pc) (c : Option (List UInt8)) (i a e : Nat) (sh b : Bool) (pt : List UInt8) (pb : Nat) (sk bk : Int) (rs : List V) (H : HM) (v3 v4 : Option V) (n : Nat),
    Rst d Bn ck a e sh l t → Bg c b pt → RH A dx rl (rfn d B ck a e sh sk rl tn g bk) rs H → H pb = some (.barr pt) → rs.length + 2 * l.length < 900000 → pt.length + totP l ≤ 1000000 →
    (∀ e' rs', (mkg c i l).recs = [] → Rst d Bn ck e' e' true [] false → rs'.length ≤ rs.length + 2 * l.length → Kp .none (rfn d B ck e' e' true (sk + (mkg c i l).lost) rl ((tn || t) || (mkg c i l).torn) g (bk + (mkg c i l).brks.length)) rs') →
    (∀ o e1 j l' a' e' sh' ds db rs', Nxt c i l o e1 j l' ds db → Rst d Bn ck a' e' sh' l' t → rs'.length + 2 * l'.length ≤ rs.length + 2 * l.length → Kp (.bytes o) (rfn d B ck a' e' sh' (sk + (ds : Nat)) rl tn (e1 : Nat) (bk + (db : Nat))) rs') →
    l.length + 1 ≤ n → loopW (fun l H k => WT F14 noF M3 l t_181_1 H fun c H' => k c l H') (W F14 noF M3 b_181_1) (fun l H => W F14 noF M3 .nop l H (OutM A dx rl Kp)) (OutM A dx rl Kp) n [some (.ref A), some (.bool b), some (.ref pb), v3, v4] H := by
  intro l
  induction l with
  | nil =>
    intro c i a e sh b pt pb sk bk rs H v3 v4 n Rs hb R hp hn hpt h0 h1 hln
    obtain ⟨n, rfl⟩ : ∃ m, n = m + 1 := ⟨n - 1, by omega⟩
    obtain ⟨np1, np2, np3⟩ := R.pne hp
    refine (show Tv F14 noF M3 H _ t_181_1 true from tv_p ev_bool) _ ⟨fun _ => ?_, fun q => by cases q⟩
    unfold b_181_1
    rw [wq16]
    refine mc_in R rfl (frag_M hk hd hB (by omega) Rs (fun e' _ hr => ?_) fun p l' a' e' sh' rs' q => by cases q)
    show W _ _ _ _ _ _ _
    have R' := R.both (rs' := rs) (fs' := rfn d B ck e' e' true sk rl (tn || t) g bk) rfl
    have hp' := (elsB (mo := .ob dx (rfn d B ck e' e' true sk rl (tn || t) g bk)) (mo' := .lst rs)).keep np1 np3 hp
    generalize up (up H A _) rl _ = H' at R' hp'
    refine w_ite (c := true) (tv_p (ev_eq (ev_loc rfl) ev_int rfl)) (fun _ => ?_) fun q => by cases q
    have hs := hb.some
    refine w_ite (c := b) (tv_p (ev_loc rfl)) (fun hc => ?_) fun hc => ?_
    · refine w_seta R' rfl ev_bool rfl (Nat.le_of_ble_eq_true rfl) fun H' R' E => ?_
      rw [wq1]
      show W _ _ _ r_181_4 _ _ _
      unfold r_181_4
      refine w_ret (v := .none) (fun Q q => by rw [pq3]; exact q) (out_M R' (.inl rfl) ?_)
      have := h0 e' rs rfl hr (by omega)
      rw [mkg, hs, hc, Bool.or_true] at this
      have key : Kp .none (rfn d B ck e' e' true sk rl true g bk) rs := by simpa using this
      exact key
    · rw [wq1]
      show W _ _ _ r_181_4 _ _ _
      unfold r_181_4
      refine w_ret (v := .none) (fun Q q => by rw [pq3]; exact q) (out_M R' (.inl rfl) ?_)
      have := h0 e' rs rfl hr (by omega)
      rw [mkg, hs, hc, Bool.or_false] at this
      simpa using this
  | cons p l ih =>
    intro c i a e sh b pt pb sk bk rs H v3 v4 n Rs hb R hp hn hpt h0 h1 hln
    obtain ⟨n, rfl⟩ : ∃ m, n = m + 1 := ⟨n - 1, by omega⟩
    obtain ⟨np1, np2, np3⟩ := R.pne hp
    have ok := Rs.pok p List.mem_cons_self
    rw [List.length_cons] at hn hln
    rw [totP_cons] at hpt
    refine (show Tv F14 noF M3 H _ t_181_1 true from tv_p ev_bool) _ ⟨fun _ => ?_, fun q => by cases q⟩
    unfold b_181_1
    rw [wq16]
    refine mc_in R rfl (frag_M hk hd hB (by omega) Rs (fun e' q => by cases q) fun p' l' a' e' sh' rs1 q hr hrs hae _ => ?_)
    cases q
    show W _ _ _ _ _ _ _
    have R' := R.both (rs' := rs1) (fs' := rfn d B ck a' e' sh' (sk + p.m) rl tn g (bk + bin1 p)) rfl
    have hp' := (elsB (mo := .ob dx (rfn d B ck a' e' sh' (sk + p.m) rl tn g (bk + bin1 p))) (mo' := .lst rs1)).keep np1 np3 hp
    generalize up (up H A _) rl _ = H' at R' hp'
    have hkn : ¬ kin p = -1 := by
      unfold kin; split
      · decide
      · assumption
    refine w_ite (c := false) (tv_p (ev_eq (ev_loc rfl) ev_int (by simpa using hkn))) (fun q => by cases q) fun _ => ?_
    rw [wq1]
    show W F14 noF M3 r_181_5 (rL A b pb (kin p) p.o) H' _
    refine read_p (i := i) R' hp' hb ok hae (by omega) (by omega) (fun o e1 H2 rs2 k2 hrc hrs2 R2 => ?_) fun b2 pt2 pb2 H2 rs2 hrc hb2 hpt2 hrs2 R2 hp2 => ?_
    · refine out_M R2 (.inl rfl) ?_
      exact h1 o e1 i l a' e' sh' _ _ rs2 (.here hrc) hr (by rw [List.length_cons]; omega)
    · refine ih (stp c i p).c (i + 1) a' e' sh' b2 pt2 pb2 _ _ rs2 H2 _ _ n hr hb2 R2 hp2 (by omega) (by omega) (fun e3 rs3 hrec hr3 hrs3 => ?_) (fun o e1 j l' a3 e3 sh3 ds db rs3 N hr3 hrs3 => ?_) (by omega)
      · have := h0 e3 rs3 (by rw [mkg, hrc]; exact hrec) hr3 (by rw [List.length_cons]; omega)
        rw [mkg] at this
        simp only [List.length_append, Int.natCast_add] at this
        rw [← Int.add_assoc, ← Int.add_assoc] at this
        exact this
      · have := h1 o e1 j l' a3 e3 sh3 _ _ rs3 (.step hrc N) hr3 (by rw [List.length_cons]; omega)
        simp only [Int.natCast_add] at this
        rw [← Int.add_assoc, ← Int.add_assoc] at this
        exact this

theorem read_M {l : List Pc} {i a e : Nat} {sh : Bool} {sk bk : Int} {rs : List V} (hk : ck = 1 ∨ ck = 2) (hd : d.length ≤ 100000) (hB : B = (Bn : Int)) (Rs : Rst d Bn ck a e sh l t) (hn : rs.length + 2 * l.length < 900000)
    (h0 : ∀ e' rs', (mkg none i l).recs = [] → Rst d Bn ck e' e' true [] false → rs'.length ≤ rs.length + 2 * l.length → Kp .none (rfn d B ck e' e' true (sk + (mkg none i l).lost) rl ((tn || t) || (mkg none i l).torn) g (bk + (mkg none i l).brks.length)) rs')
    (h1 : ∀ o e1 j l' a' e' sh' ds db rs', Nxt none i l o e1 j l' ds db → Rst d Bn ck a' e' sh' l' t → rs'.length + 2 * l'.length ≤ rs.length + 2 * l.length → Kp (.bytes o) (rfn d B ck a' e' sh' (sk + (ds : Nat)) rl tn (e1 : Nat) (bk + (db : Nat))) rs') :
    M4 181 (rfn d B ck a e sh sk rl tn g bk) rs [] Kp := by
  refine .inr ⟨rfl, rfl, fun A dx rl' n1 n2 n3 hrl => ?_⟩
  cases hrl
  have R := RH.rd (rs := rs) (fs := rfn d B ck a e sh sk rl tn g bk) n1 n2 n3 rfl
  have ht := Rs.tot
  rw [show argL nm_181 [.ref A] = [some (.ref A), none, none, none, none] from rfl]
  unfold ms_181
  refine w_asg ev_bool ?_
  rw [wq6]
  intro pb hpb
  rw [wq23]
  exact ⟨l.length + 1, read_loop hk hd hB l none i a e sh false [] pb sk bk rs _ _ _ _ Rs (.inl ⟨rfl, rfl, rfl⟩) (R.upN hpb) up_self hn (by simp; omega) h0 h1 (Nat.le_refl _)⟩
end
end Mine
end

section
open PySem PySem.W PyProof.Rows PySem.Calls PySem.Builtin
set_option Elab.async false
set_option autoImplicit false
set_option maxRecDepth 100000
namespace Mine

theorem mkg_len : ∀ (l : List Pc) (c : Option (List UInt8)) (i : Nat), (mkg c i l).recs.length ≤ l.length ∧ (mkg c i l).brks.length ≤ l.length
  | [], c, i => ⟨Nat.le_refl _, Nat.le_refl _⟩
  | p :: l, c, i => by
    have ih := mkg_len l (stp c i p).c (i + 1)
    have h1 : (stp c i p).rc.toList.length ≤ 1 := by cases (stp c i p).rc <;> simp
    have h2 : (stp c i p).brks.length ≤ 1 := by
      cases c with
      | none => unfold stp; dsimp only; split; · simp
                split <;> simp
      | some c => unfold stp; dsimp only; split; · simp
                  split; · simp
                  split; · simp
                  split <;> simp
    rw [mkg]
    simp only [List.length_append, List.length_cons]
    omega

/-- a run that ends in no record: its octets are lost, and the next piece is looked at anew -/
theorem mkg_off {c : List UInt8} {u : Nat} {p : Pc} {l : List Pc} (h3 : p.k ≠ 3) (h4 : p.k ≠ 4) : (mkg (some c) u (p :: l)).recs = (mkg none u (p :: l)).recs ∧ (mkg (some c) u (p :: l)).lost = c.length + (mkg none u (p :: l)).lost ∧
    (mkg (some c) u (p :: l)).brks = (if p.k = 1 ∨ p.k = 2 then [u] else []) ++ (mkg none u (p :: l)).brks ∧ (mkg (some c) u (p :: l)).torn = (mkg none u (p :: l)).torn := by
  by_cases k1 : p.k = 1
  · have e1 : stp (some c) u p = ⟨none, c.length, [u], some (p.o, p.e, u)⟩ := by unfold stp; dsimp only; rw [if_neg h3, if_neg h4, if_pos k1]
    have e2 : stp none u p = ⟨none, 0, [], some (p.o, p.e, u)⟩ := by unfold stp; dsimp only; rw [if_neg (by omega), if_pos k1]
    rw [mkg, mkg, e1, e2, if_pos (.inl k1)]
    simp
  by_cases k2 : p.k = 2
  · have e1 : stp (some c) u p = ⟨some p.o, c.length, [u], none⟩ := by unfold stp; dsimp only; rw [if_neg h3, if_neg h4, if_neg k1, if_pos k2]
    have e2 : stp none u p = ⟨some p.o, 0, [], none⟩ := by unfold stp; dsimp only; rw [if_pos k2]
    rw [mkg, mkg, e1, e2, if_pos (.inr k2)]
    simp
  · have e1 : stp (some c) u p = ⟨none, c.length + p.o.length + p.m, [u], none⟩ := by unfold stp; dsimp only; rw [if_neg h3, if_neg h4, if_neg k1, if_neg k2]
    have e2 : stp none u p = ⟨none, p.o.length + p.m, [u], none⟩ := by unfold stp; dsimp only; rw [if_neg k2, if_neg k1]
    rw [mkg, mkg, e1, e2, if_neg (by omega)]
    simp
    omega

/-- what is marked so far and what is to come make up the whole -/
structure Inv (T : Res) (tt : Bool) (c : Option (List UInt8)) (i : Nat) (l : List Pc) (recs : List (List UInt8 × Nat × Nat)) (lost : Nat) (brks : List Nat) (tn : Bool) : Prop where
  recs : T.recs = recs ++ (mkg c i l).recs
  lost : T.lost = lost + (mkg c i l).lost
  brks : T.brks = brks ++ (mkg c i l).brks
  torn : tt = (tn || (mkg c i l).torn)

theorem Inv.stp {T : Res} {tt : Bool} {c : Option (List UInt8)} {i : Nat} {p : Pc} {l : List Pc} {recs : List (List UInt8 × Nat × Nat)} {lost : Nat} {brks : List Nat} {tn : Bool} (I : Inv T tt c i (p :: l) recs lost brks tn) :
    Inv T tt (stp c i p).c (i + 1) l (recs ++ (stp c i p).rc.toList) (lost + (stp c i p).lost) (brks ++ (stp c i p).brks) tn := by
  obtain ⟨h1, h2, h3, h4⟩ := I
  rw [mkg] at h1 h2 h3 h4
  exact ⟨by rw [h1, List.append_assoc], by rw [h2]; dsimp only; omega, by rw [h3, List.append_assoc], h4⟩
theorem Inv.off {T : Res} {tt : Bool} {c : List UInt8} {i : Nat} {p : Pc} {l : List Pc} {recs : List (List UInt8 × Nat × Nat)} {lost : Nat} {brks : List Nat} {tn : Bool} (I : Inv T tt (some c) i (p :: l) recs lost brks tn) (h3 : p.k ≠ 3) (h4 : p.k ≠ 4) :
    Inv T tt none i (p :: l) recs (lost + c.length) (brks ++ (if p.k = 1 ∨ p.k = 2 then [i] else [])) tn := by
  obtain ⟨h1, h2, h3', h4'⟩ := I
  obtain ⟨q1, q2, q3, q4⟩ := mkg_off (c := c) (u := i) (l := l) h3 h4
  rw [q1] at h1; rw [q2] at h2; rw [q3] at h3'; rw [q4] at h4'
  exact ⟨h1, by omega, by rw [h3', List.append_assoc], h4'⟩

noncomputable abbrev vR (recs : List (List UInt8 × Nat × Nat)) : List V := recs.map fun r => .bytes r.1
noncomputable abbrev vE (recs : List (List UInt8 × Nat × Nat)) : List V := recs.map fun r => .int (r.2.1 : Int)
noncomputable abbrev vL (recs : List (List UInt8 × Nat × Nat)) : List V := recs.map fun r => .int (r.2.2 : Int)
noncomputable abbrev vN (brks : List Nat) : List V := brks.map fun (b : Nat) => .int (b : Int)

structure MH (a5 a6 a7 a9 : Nat) (recs : List (List UInt8 × Nat × Nat)) (brks : List Nat) (H : HM) : Prop where
  h5 : H a5 = some (.lst (vR recs))
  h6 : H a6 = some (.lst (vE recs))
  h7 : H a7 = some (.lst (vL recs))
  h9 : H a9 = some (.lst (vN brks))
  n56 : a5 ≠ a6
  n57 : a5 ≠ a7
  n59 : a5 ≠ a9
  n67 : a6 ≠ a7
  n69 : a6 ≠ a9
  n79 : a7 ≠ a9

section
variable {a5 a6 a7 a9 : Nat} {recs : List (List UInt8 × Nat × Nat)} {brks : List Nat} {H : HM}
theorem MH.addR (M : MH a5 a6 a7 a9 recs brks H) {o : List UInt8} {e j : Nat} : MH a5 a6 a7 a9 (recs ++ [(o, e, j)]) brks (up (up (up H a5 (.lst (vR recs ++ [.bytes o]))) a6 (.lst (vE recs ++ [.int (e : Int)]))) a7 (.lst (vL recs ++ [.int (j : Int)]))) where
  h5 := by rw [up_ne M.n57, up_ne M.n56, up_self]; simp [vR]
  h6 := by rw [up_ne M.n67, up_self]; simp [vE]
  h7 := by rw [up_self]; simp [vL]
  h9 := by rw [up_ne (Ne.symm M.n79), up_ne (Ne.symm M.n69), up_ne (Ne.symm M.n59)]; exact M.h9
  n56 := M.n56
  n57 := M.n57
  n59 := M.n59
  n67 := M.n67
  n69 := M.n69
  n79 := M.n79
theorem MH.brk (M : MH a5 a6 a7 a9 recs brks H) {j : Nat} : MH a5 a6 a7 a9 recs (brks ++ [j]) (up H a9 (.lst (vN brks ++ [.int (j : Int)]))) where
  h5 := by rw [up_ne M.n59]; exact M.h5
  h6 := by rw [up_ne M.n69]; exact M.h6
  h7 := by rw [up_ne M.n79]; exact M.h7
  h9 := by rw [up_self]; simp [vN]
  n56 := M.n56
  n57 := M.n57
  n59 := M.n59
  n67 := M.n67
  n69 := M.n69
  n79 := M.n79
theorem MH.new (M : MH a5 a6 a7 a9 recs brks H) {b : Nat} {mo : MO} (h : H b = none) : MH a5 a6 a7 a9 recs brks (up H b mo) := by
  have k : ∀ x y, H x = some y → x ≠ b := fun x y e q => by rw [q, h] at e; cases e
  exact ⟨by rw [up_ne (k _ _ M.h5)]; exact M.h5, by rw [up_ne (k _ _ M.h6)]; exact M.h6, by rw [up_ne (k _ _ M.h7)]; exact M.h7, by rw [up_ne (k _ _ M.h9)]; exact M.h9, M.n56, M.n57, M.n59, M.n67, M.n69, M.n79⟩

variable {F D : FT} {M : MTab} {l : Loc} {Q : Out → Loc → HM → Prop} {e : ME} {r : MS} {v u : V} {p : Pc}
theorem w_app {x a : Nat} {vs : List V} (hl : lget l x = some (.ref a)) (ha : H a = some (.lst vs)) (hv : Ev F H l e v) (hn : vs.length < 1000000) (h : W F D M r l (up H a (.lst (vs ++ [v]))) Q) : W F D M (.app x e r) l H Q := by
  rw [wq10, hl]
  show match H a with | some (.lst vs) => _ | _ => False
  rw [ha]
  exact hv _ ⟨hn, h⟩
theorem ev_pc0 (h : Ev F H l e (pcV p)) : Ev F H l (.idx e (.int 0)) (.int p.k) := fun Q q => by
  rw [pq14]; refine h _ ?_
  rw [pq1]; exact q
theorem ev_pc1 (h : Ev F H l e (pcV p)) : Ev F H l (.idx e (.int 1)) (.bytes p.o) := fun Q q => by
  rw [pq14]; refine h _ ?_
  rw [pq1]; exact q
theorem ev_pc2 (h : Ev F H l e (pcV p)) : Ev F H l (.idx e (.int 2)) (.int (p.e : Int)) := fun Q q => by
  rw [pq14]; refine h _ ?_
  rw [pq1]; exact q
theorem pcs_get {P : List Pc} {u : Nat} (h : P[u]? = some p) : (pcs P)[u]? = some (pcV p) := by unfold pcs; rw [List.getElem?_map, h]; rfl
end
section
variable {dd : List UInt8} {B ck : Int} {P : List Pc} {tn t : Bool} {a5 a6 a7 a9 lost : Nat} {recs : List (List UInt8 × Nat × Nat)} {brks : List Nat} {H : HM} {F D : FT} {M : MTab} {Q : Out → Loc → HM → Prop} {T : Res}
variable {v10 v11 v12 v13 v14 v15 v16 v17 v18 v19 v20 : Option V}

noncomputable abbrev aL (dd : List UInt8) (B ck : Int) (P : List Pc) (tn : Bool) (a5 a6 a7 : Nat) (lost : Nat) (a9 : Nat) (v10 v11 v12 v13 v14 v15 v16 v17 v18 v19 v20 : Option V) : Loc :=
  [some (.bytes dd), some (.int B), some (.int ck), some (.lst (pcs P)), some (.bool tn), some (.ref a5), some (.ref a6), some (.ref a7), some (.int (lost : Int)), some (.ref a9), v10, v11, v12, v13, v14, v15, v16, v17, v18, v19, v20]

/-- behind a run -/
theorem mark_end {u : Nat} {c : List UInt8} (hT : T.recs.length ≤ 100000 ∧ T.brks.length ≤ 100000) (hu : u ≤ P.length) (Mh : MH a5 a6 a7 a9 recs brks H) (I : Inv T t (some c) u (P.drop u) recs lost brks tn) (hc : c.length + totP (P.drop u) ≤ 1000000) (hrun : ∀ p, P[u]? = some p → p.k ≠ 3)
    (h : ∀ u' recs' lost' brks' tn' H' w12, u ≤ u' → u' ≤ P.length → MH a5 a6 a7 a9 recs' brks' H' → Inv T t none u' (P.drop u') recs' lost' brks' tn' →
      Q .next (aL dd B ck P tn' a5 a6 a7 lost' a9 v10 v11 w12 v13 v14 (some (.int (u' : Int))) v16 v17 v18 v19 v20) H') :
    W F D M r_233_7 (aL dd B ck P tn a5 a6 a7 lost a9 v10 v11 (some (.bytes c)) v13 v14 (some (.int (u : Int))) v16 v17 v18 v19 v20) H Q := by
  have hl1 : recs.length ≤ 100000 := by have := congrArg List.length I.recs; rw [List.length_append] at this; omega
  have hl2 : brks.length ≤ 100000 := by have := congrArg List.length I.brks; rw [List.length_append] at this; omega
  unfold r_233_7
  refine w_ite0 (c := decide (u = P.length)) (tv_p (ev_eq (ev_loc rfl) (ev_lenL (ev_loc rfl)) (by simp only [pcs, List.length_map]; congr 1; simp only [eq_iff_iff]; omega))) (fun hc0 => ?_) fun hc0 => ?_
  · have hu' := of_decide_eq_true hc0
    refine w_asg ev_bool ?_
    rw [wq1]
    refine h u recs lost brks true H _ (Nat.le_refl _) hu Mh ?_
    rw [List.drop_eq_nil_of_le (by omega)] at I ⊢
    obtain ⟨i1, i2, i3, i4⟩ := I
    refine ⟨i1, i2, i3, ?_⟩
    rw [i4, mkg, mkg]; simp
  · have hu' : u < P.length := by have := of_decide_eq_false hc0; omega
    have hp : P[u]? = some P[u] := List.getElem?_eq_getElem hu'
    have hd : P.drop u = P[u] :: P.drop (u + 1) := List.drop_eq_getElem_cons hu'
    generalize P[u] = p at hp hd
    have h3 := hrun p hp
    have ep : ∀ {H : HM} {l : Loc}, lget l 3 = some (.lst (pcs P)) → lget l 15 = some (.int (u : Int)) → Ev F H l (.idx (.loc 3) (.loc 15)) (pcV p) := fun q1 q2 => ev_idxL (i := u) (ev_loc q1) (ev_loc q2) (pcs_get hp)
    rw [hd] at I
    refine w_ite0 (c := decide (p.k = 4)) (tv_p (ev_eq (ev_pc0 (ep rfl rfl)) ev_int rfl)) (fun hc1 => ?_) fun hc1 => ?_
    · have h4 := of_decide_eq_true hc1
      have es : stp (some c) u p = ⟨none, 0, [], some (c ++ p.o, p.e, u)⟩ := by unfold stp; dsimp only; rw [if_neg h3, if_pos h4]
      have I' := I.stp
      rw [es] at I'
      have hcl : c.length + p.o.length ≤ 1000000 := by rw [hd, totP_cons] at hc; omega
      refine w_app rfl Mh.h5 (ev_addB (ev_loc rfl) (ev_pc1 (ep rfl rfl)) hcl) (by rw [List.length_map]; omega) ?_
      refine w_app rfl (by rw [up_ne (Ne.symm Mh.n56)]; exact Mh.h6) (ev_pc2 (ep rfl rfl)) (by rw [List.length_map]; omega) ?_
      refine w_app rfl (by rw [up_ne (Ne.symm Mh.n67), up_ne (Ne.symm Mh.n57)]; exact Mh.h7) (ev_loc rfl) (by rw [List.length_map]; omega) ?_
      refine w_aug (w := .int ((u + 1 : Nat) : Int)) rfl ev_int (fun Q q => q) ?_
      rw [wq1]
      refine h (u + 1) _ _ _ _ _ _ (by omega) (by omega) Mh.addR ?_
      simpa using I'
    · have h4 := of_decide_eq_false hc1
      have I' := I.off h3 h4
      refine w_aug (w := .int ((lost + c.length : Nat) : Int)) rfl (ev_lenB (ev_loc rfl)) (fun Q q => by rw [aAdd, ← Int.natCast_add]; exact q) ?_
      refine w_ite0 (c := decide (p.k = 1) || decide (p.k = 2)) (tv_or (tv_p (ev_eq (ev_pc0 (ep rfl rfl)) ev_int rfl)) fun _ => tv_p (ev_eq (ev_pc0 (ep rfl rfl)) ev_int rfl)) (fun hc2 => ?_) fun hc2 => ?_
      · have q12 : p.k = 1 ∨ p.k = 2 := by simpa using hc2
        rw [if_pos q12] at I'
        refine w_app rfl Mh.h9 (ev_loc rfl) (by rw [List.length_map]; omega) ?_
        rw [wq1]
        exact h u _ _ _ _ _ _ (Nat.le_refl _) hu Mh.brk (by rw [hd]; exact I')
      · have q12 : ¬ (p.k = 1 ∨ p.k = 2) := by simpa using hc2
        rw [if_neg q12, List.append_nil] at I'
        rw [wq1]
        exact h u _ _ _ _ _ _ (Nat.le_refl _) hu Mh (by rw [hd]; exact I')

/-- a run of middles -/
theorem mark_run (hT : T.recs.length ≤ 100000 ∧ T.brks.length ≤ 100000) (Mh : MH a5 a6 a7 a9 recs brks H) {i : Nat}
    (h : ∀ u' recs' lost' brks' tn' H' w12, i < u' → u' ≤ P.length → MH a5 a6 a7 a9 recs' brks' H' → Inv T t none u' (P.drop u') recs' lost' brks' tn' →
      Q .next (aL dd B ck P tn' a5 a6 a7 lost' a9 v10 v11 w12 v13 v14 (some (.int (u' : Int))) v16 v17 v18 v19 v20) H') :
    ∀ (k u : Nat) (c : List UInt8), i < u → u ≤ P.length → P.length - u ≤ k → Inv T t (some c) u (P.drop u) recs lost brks tn → c.length + totP (P.drop u) ≤ 1000000 →
      loopW (fun l H k => WT F D M l t_233_1 H fun c H' => k c l H') (W F D M b_233_3) (fun l H => W F D M r_233_7 l H Q) Q (k + 1) (aL dd B ck P tn a5 a6 a7 lost a9 v10 v11 (some (.bytes c)) v13 v14 (some (.int (u : Int))) v16 v17 v18 v19 v20) H := by
  intro k
  induction k with
  | zero =>
    intro u c hiu hu hk I hc
    have tv : Tv F D M H (aL dd B ck P tn a5 a6 a7 lost a9 v10 v11 (some (.bytes c)) v13 v14 (some (.int (u : Int))) v16 v17 v18 v19 v20) t_233_1 false := by
      unfold t_233_1
      have hf : decide (((u : Nat) : Int) < (((pcs P).length : Nat) : Int)) = false := by simp [pcs]; omega
      exact (tv_an (d := false) (tv_p (ev_lt (ev_loc rfl) (ev_lenL (ev_loc rfl)) hf)) fun q => by cases q).cast rfl
    refine tv _ ⟨fun q => (by cases q), fun _ => ?_⟩
    exact mark_end hT hu Mh I hc (fun p hp => by rw [List.getElem?_eq_none (by omega)] at hp; cases hp) fun u' recs' lost' brks' tn' H' w12 q1 q2 q3 q4 => h u' recs' lost' brks' tn' H' w12 (by omega) q2 q3 q4
  | succ k ih =>
    intro u c hiu hu hk I hc
    by_cases hlt : u < P.length
    · have hp : P[u]? = some P[u] := List.getElem?_eq_getElem hlt
      have hd : P.drop u = P[u] :: P.drop (u + 1) := List.drop_eq_getElem_cons hlt
      generalize P[u] = p at hp hd
      have ep : ∀ {H : HM} {l : Loc}, lget l 3 = some (.lst (pcs P)) → lget l 15 = some (.int (u : Int)) → Ev F H l (.idx (.loc 3) (.loc 15)) (pcV p) := fun q1 q2 => ev_idxL (i := u) (ev_loc q1) (ev_loc q2) (pcs_get hp)
      have tv : Tv F D M H (aL dd B ck P tn a5 a6 a7 lost a9 v10 v11 (some (.bytes c)) v13 v14 (some (.int (u : Int))) v16 v17 v18 v19 v20) t_233_1 (decide (p.k = 3)) := by
        unfold t_233_1
        have hf : decide (((u : Nat) : Int) < (((pcs P).length : Nat) : Int)) = true := by simp [pcs]; omega
        exact (tv_an (tv_p (ev_lt (ev_loc rfl) (ev_lenL (ev_loc rfl)) hf)) fun _ => tv_p (ev_eq (ev_pc0 (ep rfl rfl)) ev_int rfl)).cast (Bool.true_and _)
      refine tv _ ⟨fun q => ?_, fun q => ?_⟩
      · have h3 := of_decide_eq_true q
        rw [hd] at I
        have es : stp (some c) u p = ⟨some (c ++ p.o), 0, [], none⟩ := by unfold stp; dsimp only; rw [if_pos h3]
        have I' := I.stp
        rw [es] at I'
        rw [hd, totP_cons] at hc
        unfold b_233_3
        refine w_asg (ev_addB (ev_loc rfl) (ev_pc1 (ep rfl rfl)) (by omega)) ?_
        refine w_aug (w := .int ((u + 1 : Nat) : Int)) rfl ev_int (fun Q q => q) ?_
        rw [wq1]
        exact ih (u + 1) (c ++ p.o) (by omega) (by omega) (by omega) (by simpa using I') (by rw [List.length_append]; omega)
      · have h3 := of_decide_eq_false q
        exact mark_end hT hu Mh I hc (fun p' hp' => by rw [hp] at hp'; cases hp'; exact h3) fun u' recs' lost' brks' tn' H' w12 q1 q2 q3 q4 => h u' recs' lost' brks' tn' H' w12 (by omega) q2 q3 q4
    · have tv : Tv F D M H (aL dd B ck P tn a5 a6 a7 lost a9 v10 v11 (some (.bytes c)) v13 v14 (some (.int (u : Int))) v16 v17 v18 v19 v20) t_233_1 false := by
        unfold t_233_1
        have hf : decide (((u : Nat) : Int) < (((pcs P).length : Nat) : Int)) = false := by simp [pcs]; omega
        exact (tv_an (d := false) (tv_p (ev_lt (ev_loc rfl) (ev_lenL (ev_loc rfl)) hf)) fun q => by cases q).cast rfl
      refine tv _ ⟨fun q => (by cases q), fun _ => ?_⟩
      exact mark_end hT hu Mh I hc (fun p hp => by rw [List.getElem?_eq_none (by omega)] at hp; cases hp) fun u' recs' lost' brks' tn' H' w12 q1 q2 q3 q4 => h u' recs' lost' brks' tn' H' w12 (by omega) q2 q3 q4

/-- the whole marking -/
theorem mark_all (hT : T.recs.length ≤ 100000 ∧ T.brks.length ≤ 100000) (htot : totP P ≤ 1000000)
    (h : ∀ tn' H' v10 v11 v12 v13 v14 v15, MH a5 a6 a7 a9 T.recs T.brks H' → tn' = t → W F D M r_233_9 (aL dd B ck P tn' a5 a6 a7 T.lost a9 v10 v11 v12 v13 v14 v15 v16 v17 v18 v19 v20) H' Q) :
    ∀ (k i : Nat) (recs : List (List UInt8 × Nat × Nat)) (lost : Nat) (brks : List Nat) (tn : Bool) (H : HM) (v11 v12 v13 v14 v15 : Option V), i ≤ P.length → P.length - i ≤ k → MH a5 a6 a7 a9 recs brks H → Inv T t none i (P.drop i) recs lost brks tn →
      loopW (fun l H k => WT F D M l t_233_2 H fun c H' => k c l H') (W F D M b_233_4) (fun l H => W F D M r_233_9 l H Q) Q (k + 1) (aL dd B ck P tn a5 a6 a7 lost a9 (some (.int (i : Int))) v11 v12 v13 v14 v15 v16 v17 v18 v19 v20) H := by
  have fin : ∀ {k i : Nat} {recs : List (List UInt8 × Nat × Nat)} {lost : Nat} {brks : List Nat} {tn : Bool} {H : HM} {v11 v12 v13 v14 v15 : Option V}, i = P.length → MH a5 a6 a7 a9 recs brks H → Inv T t none i (P.drop i) recs lost brks tn →
      loopW (fun l H k => WT F D M l t_233_2 H fun c H' => k c l H') (W F D M b_233_4) (fun l H => W F D M r_233_9 l H Q) Q (k + 1) (aL dd B ck P tn a5 a6 a7 lost a9 (some (.int (i : Int))) v11 v12 v13 v14 v15 v16 v17 v18 v19 v20) H := fun {k i recs lost brks tn H v11 v12 v13 v14 v15} hi Mh I => by
    have tv : Tv F D M H (aL dd B ck P tn a5 a6 a7 lost a9 (some (.int (i : Int))) v11 v12 v13 v14 v15 v16 v17 v18 v19 v20) t_233_2 false := by
      unfold t_233_2
      exact tv_p (ev_lt (ev_loc rfl) (ev_lenL (ev_loc rfl)) (by simp [pcs]; omega))
    refine tv _ ⟨fun q => (by cases q), fun _ => ?_⟩
    rw [List.drop_eq_nil_of_le (by omega)] at I
    obtain ⟨i1, i2, i3, i4⟩ := I
    rw [mkg] at i1 i2 i3 i4
    have e1 : recs = T.recs := by simpa using i1.symm
    have e2 : lost = T.lost := by simpa using i2.symm
    have e3 : brks = T.brks := by simpa using i3.symm
    have e4 : tn = t := by simpa using i4.symm
    subst e1 e2 e3
    exact h tn H _ _ _ _ _ _ Mh e4
  intro k
  induction k with
  | zero =>
    intro i recs lost brks tn H v11 v12 v13 v14 v15 hi hk Mh I
    exact fin (by omega) Mh I
  | succ k ih =>
    intro i recs lost brks tn H v11 v12 v13 v14 v15 hi hk Mh I
    by_cases hlt : i < P.length
    · have hl1 : recs.length ≤ 100000 := by have := congrArg List.length I.recs; rw [List.length_append] at this; omega
      have hl2 : brks.length ≤ 100000 := by have := congrArg List.length I.brks; rw [List.length_append] at this; omega
      have hp : P[i]? = some P[i] := List.getElem?_eq_getElem hlt
      have hd : P.drop i = P[i] :: P.drop (i + 1) := List.drop_eq_getElem_cons hlt
      generalize P[i] = p at hp hd
      have htp : ∀ (j : Nat) (l : List Pc), totP (l.drop j) ≤ totP l := fun j => by
        induction j with
        | zero => intro l; exact Nat.le_refl _
        | succ j ihj => intro l; cases l with
          | nil => exact Nat.le_refl _
          | cons p l => rw [List.drop_succ_cons, totP_cons]; have := ihj l; omega
      have htp := htp i P
      rw [hd, totP_cons] at htp
      rw [hd] at I
      have tv : Tv F D M H (aL dd B ck P tn a5 a6 a7 lost a9 (some (.int (i : Int))) v11 v12 v13 v14 v15 v16 v17 v18 v19 v20) t_233_2 true := by
        unfold t_233_2
        exact tv_p (ev_lt (ev_loc rfl) (ev_lenL (ev_loc rfl)) (by simp [pcs]; omega))
      refine tv _ ⟨fun _ => ?_, fun q => (by cases q)⟩
      unfold b_233_4
      rw [wq18]
      refine ev_idxL (i := i) (ev_loc rfl) (ev_loc rfl) (pcs_get hp) _ ?_
      show W F D M (.asg 15 _ _) (aL dd B ck P tn a5 a6 a7 lost a9 (some (.int (i : Int))) (some (.int p.k)) (some (.bytes p.o)) (some (.int (p.e : Int))) (some (.int (p.m : Int))) v15 v16 v17 v18 v19 v20) H _
      refine w_asg (v := .int ((i + 1 : Nat) : Int)) ((ev_add (i := (i : Int)) (ev_loc rfl) ev_int).cast (vint (by omega))) ?_
      have nxt : ∀ {u' recs' lost' brks' tn' H' w11 w12 w13 w14}, i < u' → u' ≤ P.length → MH a5 a6 a7 a9 recs' brks' H' → Inv T t none u' (P.drop u') recs' lost' brks' tn' →
          W F D M r_233_8 (aL dd B ck P tn' a5 a6 a7 lost' a9 (some (.int (i : Int))) w11 w12 w13 w14 (some (.int (u' : Int))) v16 v17 v18 v19 v20) H' (fun o l' H' => match o with
          | .next => loopW (fun l H k => WT F D M l t_233_2 H fun c H' => k c l H') (W F D M b_233_4) (fun l H => W F D M r_233_9 l H Q) Q (k + 1) l' H'
          | .ret v => Q (.ret v) l' H') := fun {u' recs' lost' brks' tn' H' w11 w12 w13 w14} q1 q2 q3 q4 => by
        unfold r_233_8
        refine w_asg (ev_loc rfl) ?_
        rw [wq1]
        exact ih u' recs' lost' brks' tn' H' _ _ _ _ _ q2 (by omega) q3 q4
      refine w_ite (c := decide (p.k = 2)) (tv_p (ev_eq (ev_loc rfl) ev_int rfl)) (fun hc => ?_) fun hc => ?_
      · have h2 := of_decide_eq_true hc
        have es : stp none i p = ⟨some p.o, 0, [], none⟩ := by unfold stp; dsimp only; rw [if_pos h2]
        have I' := I.stp
        rw [es] at I'
        rw [wq23]
        refine ⟨P.length - (i + 1) + 1, mark_run (i := i) hT Mh (fun u' recs' lost' brks' tn' H' w12 q1 q2 q3 q4 => ?_) _ (i + 1) p.o (by omega) (by omega) (Nat.le_refl _) (by simpa using I') (by omega)⟩
        exact nxt q1 q2 q3 q4
      · have h2 := of_decide_eq_false hc
        refine w_ite0 (c := decide (p.k = 1)) (tv_p (ev_eq (ev_loc rfl) ev_int rfl)) (fun hc1 => ?_) fun hc1 => ?_
        · have h1 := of_decide_eq_true hc1
          have es : stp none i p = ⟨none, 0, [], some (p.o, p.e, i)⟩ := by unfold stp; dsimp only; rw [if_neg h2, if_pos h1]
          have I' := I.stp
          rw [es] at I'
          refine w_app rfl Mh.h5 (ev_loc rfl) (by rw [List.length_map]; omega) ?_
          refine w_app rfl (by rw [up_ne (Ne.symm Mh.n56)]; exact Mh.h6) (ev_loc rfl) (by rw [List.length_map]; omega) ?_
          refine w_app rfl (by rw [up_ne (Ne.symm Mh.n67), up_ne (Ne.symm Mh.n57)]; exact Mh.h7) (ev_loc rfl) (by rw [List.length_map]; omega) ?_
          rw [wq1]
          exact nxt (by omega) (by omega) Mh.addR (by simpa using I')
        · have h1 := of_decide_eq_false hc1
          have es : stp none i p = ⟨none, p.o.length + p.m, [i], none⟩ := by unfold stp; dsimp only; rw [if_neg h2, if_neg h1]
          have I' := I.stp
          rw [es] at I'
          refine w_aug (w := .int ((lost + (p.o.length + p.m) : Nat) : Int)) rfl (ev_add (ev_lenB (ev_loc rfl)) (ev_loc rfl)) (fun Q q => by rw [aAdd, ← Int.natCast_add, ← Int.natCast_add]; exact q) ?_
          refine w_app rfl Mh.h9 (ev_loc rfl) (by rw [List.length_map]; omega) ?_
          rw [wq1]
          exact nxt (by omega) (by omega) Mh.brk (by simpa using I')
    · exact fin (by omega) Mh I
end
end Mine
end

section
open PySem PySem.W PyProof.Rows PySem.Calls PySem.Builtin
set_option Elab.async false
set_option autoImplicit false
set_option maxRecDepth 100000
namespace Mine

noncomputable abbrev Rec := List UInt8 × Nat × Nat
/-- the records' places rise -/
theorem mkg_recs_ge : ∀ (l : List Pc) (c : Option (List UInt8)) (i : Nat), ∀ x ∈ (mkg c i l).recs, i ≤ x.2.2 ∧ x.2.2 < i + l.length
  | [], c, i => by simp [mkg]
  | p :: l, c, i => by
    intro x hx
    rw [mkg] at hx
    rw [List.length_cons]
    rcases List.mem_append.mp hx with hx | hx
    · cases hr : (stp c i p).rc with
      | none => rw [hr] at hx; cases hx
      | some r =>
        rw [hr] at hx
        obtain rfl : x = r := by simpa using hx
        obtain ⟨o, e, j⟩ := x
        have := stp_rc hr
        dsimp only
        omega
    · have := mkg_recs_ge l _ _ x hx; omega
theorem mkg_recs_up : ∀ (l : List Pc) (c : Option (List UInt8)) (i : Nat), (mkg c i l).recs.Pairwise fun x y => x.2.2 < y.2.2
  | [], c, i => by simp [mkg]
  | p :: l, c, i => by
    rw [mkg]
    cases hr : (stp c i p).rc with
    | none => exact mkg_recs_up l _ _
    | some r =>
      obtain ⟨o, e, j⟩ := r
      have := stp_rc hr
      refine List.pairwise_cons.mpr ⟨fun y hy => ?_, mkg_recs_up l _ _⟩
      have := mkg_recs_ge l _ _ y hy
      dsimp only
      omega

/-- the place of the first break, or the end -/
noncomputable def bef (T : Res) (n : Nat) : Nat := (T.brks.head?).getD n
/-- how many records come before the first break -/
noncomputable def pm (T : Res) (n : Nat) : Nat := (T.recs.takeWhile fun r => decide (r.2.2 < bef T n)).length
noncomputable def gAt (T : Res) (n : Nat) : Nat := if n = 0 then 0 else ((T.recs.getD (n - 1) ([], 0, 0)).2.1)

theorem takeWhile_lt {α : Type} {p : α → Bool} : ∀ (l : List α) (k : Nat) (x : α), l[k]? = some x → k < (l.takeWhile p).length → p x = true
  | [], k, x, h, _ => by simp at h
  | y :: l, k, x, h, hk => by
    rw [List.takeWhile_cons] at hk
    split at hk
    · rename_i hy
      cases k with
      | zero => simp at h; subst h; exact hy
      | succ k => exact takeWhile_lt l k x (by simpa using h) (by simpa using hk)
    · simp at hk
theorem takeWhile_at {α : Type} {p : α → Bool} : ∀ (l : List α) (x : α), l[(l.takeWhile p).length]? = some x → p x = false
  | [], x, h => by simp at h
  | y :: l, x, h => by
    rw [List.takeWhile_cons] at h
    split at h
    · exact takeWhile_at l x (by simpa using h)
    · rename_i hy
      simp at h; subst h
      simpa using hy
theorem pm_le (T : Res) (n : Nat) : pm T n ≤ T.recs.length := (List.takeWhile_sublist _).length_le
theorem pm_lt {T : Res} {n k : Nat} {r : Rec} (h : T.recs[k]? = some r) (hk : k < pm T n) : r.2.2 < bef T n := of_decide_eq_true (takeWhile_lt _ k r h hk)
theorem pm_at {T : Res} {n : Nat} {r : Rec} (h : T.recs[pm T n]? = some r) : ¬ r.2.2 < bef T n := of_decide_eq_false (takeWhile_at _ r h)

/-- before the first break: just the first records -/
theorem pm_iff {c : Option (List UInt8)} {i n k : Nat} {l : List Pc} {r : Rec} (h : (mkg c i l).recs[k]? = some r) : r.2.2 < bef (mkg c i l) n ↔ k < pm (mkg c i l) n := by
  constructor
  · intro hr
    apply Decidable.byContradiction
    intro hk
    have hlt := (List.getElem?_eq_some_iff.mp h).1
    have hp : pm (mkg c i l) n < (mkg c i l).recs.length := by omega
    have h2 := pm_at (T := mkg c i l) (n := n) (List.getElem?_eq_getElem hp)
    by_cases q : pm (mkg c i l) n = k
    · have := (List.getElem?_eq_some_iff.mp h).2
      simp only [q] at h2
      rw [this] at h2
      exact h2 hr
    · have := List.pairwise_iff_getElem.mp (mkg_recs_up l c i) _ _ hp hlt (by omega)
      rw [(List.getElem?_eq_some_iff.mp h).2] at this
      omega
  · intro hk; exact pm_lt h hk

theorem filter_range {p : Nat → Bool} {m : Nat} : ∀ (n : Nat), m ≤ n → (∀ j, j < n → (p j = true ↔ j < m)) → (List.range n).filter p = List.range m
  | 0, hm, _ => by
    have : m = 0 := by omega
    subst this; rfl
  | n + 1, hm, h => by
    rw [List.range_succ, List.filter_append]
    by_cases q : m = n + 1
    · subst q
      have h1 : (List.range n).filter p = List.range n := by
        rw [List.filter_eq_self]
        intro j hj
        have := List.mem_range.mp hj
        exact (h j (by omega)).mpr (by omega)
      have h2 : p n = true := (h n (by omega)).mpr (by omega)
      rw [h1, List.range_succ]
      simp [h2]
    · have h1 := filter_range (p := p) (m := m) n (by omega) fun j hj => h j (by omega)
      have h2 : p n = false := by
        rw [Bool.eq_false_iff]
        intro q2
        have := (h n (by omega)).mp q2
        omega
      rw [h1]
      simp [h2]
end Mine
end

section
open PySem PySem.W PyProof.Rows PySem.Calls PySem.Builtin
set_option Elab.async false
set_option autoImplicit false
set_option maxRecDepth 100000
namespace Mine

/-- a reader that has given n records; T: what is marked in all; t0: a torn end of the last block -/
structure RdS (d : List UInt8) (Bn : Nat) (ck : Int) (T : Res) (t0 : Bool) (n a e : Nat) (sh : Bool) (sk bk : Int) (l : List Pc) (i : Nat) (bs : List Nat) (rs : List V) : Prop where
  rst : Rst d Bn ck a e sh l t0
  room : rs.length + 2 * l.length < 500000
  recs : T.recs.drop n = (mkg none i l).recs
  lost : sk + ((mkg none i l).lost : Int) = (T.lost : Int)
  brks : T.brks = bs ++ (mkg none i l).brks
  bk : bk = (bs.length : Int)
  torn : T.torn = (mkg none i l).torn
  low : ∀ x ∈ bs, x < i
  zero : n = 0 → bs = []
  last : ∀ r, 0 < n → T.recs[n - 1]? = some r → r.2.2 + 1 = i
noncomputable def RdAt (d : List UInt8) (B : Int) (Bn : Nat) (ck : Int) (T : Res) (t0 : Bool) (n rl : Nat) (fs : Fs) (rs : List V) : Prop :=
  ∃ a e sh sk bk l i bs, fs = rfn d B ck a e sh sk rl false (gAt T n : Int) bk ∧ RdS d Bn ck T t0 n a e sh sk bk l i bs rs
noncomputable def RdEnd (d : List UInt8) (B : Int) (Bn : Nat) (ck : Int) (T : Res) (t0 : Bool) (rl : Nat) (fs : Fs) (rs : List V) : Prop :=
  ∃ e, fs = rfn d B ck e e true (T.lost : Int) rl (t0 || T.torn) (gAt T T.recs.length : Int) (T.brks.length : Int) ∧ Rst d Bn ck e e true [] false ∧ rs.length < 500000

section
variable {d : List UInt8} {B ck : Int} {Bn : Nat} {T : Res} {t0 : Bool} {n rl : Nat} {fs : Fs} {rs : List V} {Kp : V → Fs → List V → Prop}

theorem read_at (hk : ck = 1 ∨ ck = 2) (hd : d.length ≤ 100000) (hB : B = (Bn : Int)) (R : RdAt d B Bn ck T t0 n rl fs rs) {r : Rec} (hr : T.recs[n]? = some r)
    (h : ∀ fs' rs', RdAt d B Bn ck T t0 (n + 1) rl fs' rs' → Kp (.bytes r.1) fs' rs') : M4 181 fs rs [] Kp := by
  obtain ⟨a, e, sh, sk, bk, l, i, bs, rfl, R⟩ := R
  have hlt := (List.getElem?_eq_some_iff.mp hr).1
  have hdr : T.recs.drop n = r :: T.recs.drop (n + 1) := by
    rw [List.drop_eq_getElem_cons hlt, (List.getElem?_eq_some_iff.mp hr).2]
  have hrecs := R.recs
  rw [hdr] at hrecs
  refine read_M (i := i) hk hd hB R.rst (by have := R.room; omega) (fun e' rs' q => by rw [q] at hrecs; cases hrecs) fun o e1 j l' a' e' sh' ds db rs' N hr' hrs' => ?_
  have q := N.recs
  rw [← hrecs] at q
  have q1 := (List.cons.inj q).1
  have q2 := (List.cons.inj q).2
  subst q1
  obtain ⟨bs', n3, n4, n5⟩ := N.brks
  have hij := N.ij
  have hg : gAt T (n + 1) = e1 := by
    unfold gAt
    rw [if_neg (Nat.succ_ne_zero n), Nat.add_sub_cancel, List.getD_eq_getElem?_getD, hr]; rfl
  refine h _ _ ⟨a', e', sh', _, _, l', j + 1, bs ++ bs', by rw [hg], { rst := hr', room := ?_, recs := q2, lost := ?_, brks := ?_, bk := ?_, torn := ?_, low := ?_, zero := ?_, last := ?_ }⟩
  · have := R.room; omega
  · have := R.lost; rw [N.lost] at this; push_cast at this ⊢; omega
  · rw [R.brks, n3, List.append_assoc]
  · rw [R.bk, List.length_append, n4]; push_cast; rfl
  · rw [R.torn]; exact N.torn
  · intro x hx
    rcases List.mem_append.mp hx with hx | hx
    · have := R.low x hx; omega
    · have := n5 x hx; omega
  · intro q; cases q
  · intro r' _ hr2
    rw [Nat.add_sub_cancel, hr] at hr2
    cases hr2; rfl
theorem read_end (hk : ck = 1 ∨ ck = 2) (hd : d.length ≤ 100000) (hB : B = (Bn : Int)) (R : RdAt d B Bn ck T t0 T.recs.length rl fs rs)
    (h : ∀ fs' rs', RdEnd d B Bn ck T t0 rl fs' rs' → Kp .none fs' rs') : M4 181 fs rs [] Kp := by
  obtain ⟨a, e, sh, sk, bk, l, i, bs, rfl, R⟩ := R
  have hrecs := R.recs
  rw [List.drop_length] at hrecs
  refine read_M (i := i) hk hd hB R.rst (by have := R.room; omega) (fun e' rs' _ hr' hrs' => ?_) fun o e1 j l' a' e' sh' ds db rs' N hr' hrs' => by have := N.recs; rw [← hrecs] at this; cases this
  refine h _ _ ⟨e', ?_, hr', by have := R.room; omega⟩
  have h1 := R.lost
  have h2 : bk + ((mkg none i l).brks.length : Int) = (T.brks.length : Int) := by rw [R.bk, R.brks, List.length_append]; push_cast; rfl
  rw [h1, h2, R.torn, Bool.false_or]
theorem read_end2 (hk : ck = 1 ∨ ck = 2) (hd : d.length ≤ 100000) (hB : B = (Bn : Int)) (R : RdEnd d B Bn ck T t0 rl fs rs)
    (h : ∀ fs' rs', RdEnd d B Bn ck T t0 rl fs' rs' → Kp .none fs' rs') : M4 181 fs rs [] Kp := by
  obtain ⟨e, rfl, Rs, hrs⟩ := R
  refine read_M (i := 0) hk hd hB Rs (by simp; omega) (fun e' rs' _ hr' hrs' => ?_) fun o e1 j l' a' e' sh' ds db rs' N hr' hrs' => by have := N.recs; rw [mkg] at this; cases this
  refine h _ _ ⟨e', ?_, hr', by simp at hrs'; omega⟩
  rw [mkg]
  simp

/-- the count of breaks tells whether the record came before the first -/
theorem RdAt.brk0 {P : List Pc} (hT : T = mkg none 0 P) (R : RdAt d B Bn ck T t0 (n + 1) rl fs rs) {r : Rec} (hr : T.recs[n]? = some r) : ∃ bk : Int, fget fs 10 = some (.int bk) ∧ (bk = 0 ↔ r.2.2 < bef T P.length) ∧ fget fs 9 = some (.int (gAt T (n + 1) : Int)) := by
  obtain ⟨a, e, sh, sk, bk, l, i, bs, rfl, R⟩ := R
  refine ⟨bk, rfl, ?_, rfl⟩
  have hi := R.last r (by omega) hr
  have hb := R.brks
  have hbk := R.bk
  cases bs with
  | nil =>
    refine ⟨fun _ => ?_, fun _ => by rw [hbk]; rfl⟩
    unfold bef
    rw [List.nil_append] at hb
    rw [hb]
    cases hc : (mkg none i l).brks with
    | nil =>
      have := mkg_recs_ge P none 0 r (by rw [← hT]; exact List.mem_of_getElem? hr)
      show r.2.2 < P.length
      omega
    | cons x xs =>
      have := mkg_brks_ge l none i x (by rw [hc]; exact List.mem_cons_self)
      show r.2.2 < x
      omega
  | cons x xs =>
    refine ⟨fun q => ?_, fun q => ?_⟩
    · rw [hbk, List.length_cons] at q; omega
    · unfold bef at q
      rw [hb] at q
      have q' : r.2.2 < x := q
      have := R.low x List.mem_cons_self
      omega
theorem RdAt.start {P : List Pc} (hB : B = (Bn : Int)) (Rs : Rst d Bn ck 0 0 false P t0) (hP : P.length ≤ 200000) : RdAt d B Bn ck (mkg none 0 P) t0 0 rl (initFs d B ck rl) [] :=
  ⟨0, 0, false, 0, 0, P, 0, [], rfl, { rst := Rs, room := by simp; omega, recs := rfl, lost := by simp, brks := rfl, bk := rfl, torn := rfl, low := by simp, zero := fun _ => rfl, last := fun r q => by cases q }⟩
theorem RdAt.rf7 (R : RdAt d B Bn ck T t0 n rl fs rs) : fget fs 7 = some (.ref rl) := by
  obtain ⟨a, e, sh, sk, bk, l, i, bs, rfl, _⟩ := R; rfl
theorem RdEnd.rf7 (R : RdEnd d B Bn ck T t0 rl fs rs) : fget fs 7 = some (.ref rl) := by
  obtain ⟨e, rfl, _⟩ := R; rfl
end
end Mine
end

section
open PySem PySem.W PyProof.Rows PySem.Calls PySem.Builtin
set_option Elab.async false
set_option autoImplicit false
set_option maxRecDepth 100000
namespace Mine

noncomputable def D1 : FT := addD F14 noF M4 195 3 nm_195 ms_195

theorem RH.newo {a dx rl : Nat} {fs : Fs} {H : HM} (h1 : a ≠ dx) (h2 : a ≠ rl) (h3 : dx ≠ rl) (h7 : fget fs 7 = some (.ref rl)) : RH a dx rl fs [] (up (up (up H rl (.lst [])) dx (.hid a)) a (.ob dx fs)) :=
  ⟨up_self, by rw [up_ne (Ne.symm h1), up_self], by rw [up_ne (Ne.symm h2), up_ne (Ne.symm h3), up_self], h7⟩

section
variable {F D : FT} {M : MTab} {l : Loc} {H : HM} {Q : Out → Loc → HM → Prop} {r : MS}
theorem w_newo {i : Nat} {x y z : ME} {d : List UInt8} {bl ch : Int} (hx : Ev F H l x (.bytes d)) (hy : Ev F H l y (.int bl)) (hz : Ev F H l z (.int ch)) (h1 : 8 ≤ bl) (h2 : bl ≤ 65542) (h3 : ch = 1 ∨ ch = 2)
    (h : ∀ a dx rl H', H a = none → H dx = none → H rl = none → RH a dx rl (initFs d bl ch rl) [] H' → (∀ b, b ≠ a → b ≠ dx → b ≠ rl → H' b = H b) → W F D M r (lset l i (.ref a)) H' Q) : W F D M (.newo i x y z r) l H Q := by
  rw [wq8]
  refine hx _ (hy _ (hz _ ⟨⟨h1, h2, h3⟩, fun a dx rl ha hdx hrl n1 n2 n3 => ?_⟩))
  exact h a dx rl _ ha hdx hrl (RH.newo n1 n2 n3 rfl) fun b b1 b2 b3 => by rw [up_ne b1, up_ne b2, up_ne b3]
end

section
variable {d : List UInt8} {B ck : Int} {Bn : Nat} {t0 : Bool} {P : List Pc} {Pst : V → Prop}

noncomputable abbrev fL (d : List UInt8) (B ck : Int) (a rb : Nat) (g : Int) (rec : V) : Loc := [some (.bytes d), some (.int B), some (.int ck), some (.ref a), some (.ref rb), some (.int g), some rec]

/-- what was read last -/
noncomputable def Got (d : List UInt8) (B : Int) (Bn : Nat) (ck : Int) (T : Res) (t0 : Bool) (rl k : Nat) (rec : V) (fs : Fs) (rs : List V) : Prop :=
  (∃ r, T.recs[k]? = some r ∧ rec = .bytes r.1 ∧ RdAt d B Bn ck T t0 (k + 1) rl fs rs) ∨ (k = T.recs.length ∧ rec = .none ∧ RdEnd d B Bn ck T t0 rl fs rs)

theorem read_got {T : Res} {k rl : Nat} {fs : Fs} {rs : List V} {Kp : V → Fs → List V → Prop} (hk : ck = 1 ∨ ck = 2) (hd : d.length ≤ 100000) (hB : B = (Bn : Int)) (hkl : k ≤ T.recs.length) (R : RdAt d B Bn ck T t0 k rl fs rs)
    (h : ∀ rec fs' rs', Got d B Bn ck T t0 rl k rec fs' rs' → fget fs' 7 = some (.ref rl) → Kp rec fs' rs') : M4 181 fs rs [] Kp := by
  by_cases q : k < T.recs.length
  · exact read_at hk hd hB R (List.getElem?_eq_getElem q) fun fs' rs' R' => h _ _ _ (.inl ⟨_, List.getElem?_eq_getElem q, rfl, R'⟩) R'.rf7
  · obtain rfl : k = T.recs.length := by omega
    exact read_end hk hd hB R fun fs' rs' R' => h _ _ _ (.inr ⟨rfl, rfl, R'⟩) R'.rf7

theorem pfx_loop (hk : ck = 1 ∨ ck = 2) (hd : d.length ≤ 100000) (hB : B = (Bn : Int)) {T : Res} (hT : T = mkg none 0 P) (hP : P.length ≤ 200000) (hp : Pst (.t2 (.lst (vR (T.recs.take (pm T P.length)))) (.int (gAt T (pm T P.length) : Int)))) {a dx rl rb : Nat} :
    ∀ (m k : Nat) (rec : V) (fs : Fs) (rs : List V) (H : HM), T.recs.length - k ≤ m → k ≤ pm T P.length → RH a dx rl fs rs H → rb ≠ a → rb ≠ rl → H rb = some (.lst (vR (T.recs.take k))) → Got d B Bn ck T t0 rl k rec fs rs →
      loopW (fun l H k => WT F14 noF M4 l t_195_1 H fun c H' => k c l H') (W F14 noF M4 b_195_1) (fun l H => W F14 noF M4 r_195_1 l H (OutV Pst)) (OutV Pst) (m + 1) (fL d B ck a rb (gAt T k : Int) rec) H := by
  have fin : ∀ {k : Nat} {rec : V} {H : HM}, k = pm T P.length → H rb = some (.lst (vR (T.recs.take k))) → W F14 noF M4 r_195_1 (fL d B ck a rb (gAt T k : Int) rec) H (OutV Pst) := fun {k rec H} hk' hb => by
    subst hk'
    unfold r_195_1
    rw [wq29]
    show match H rb with | some (.lst vs) => _ | _ => False
    rw [hb]
    show Pe _ _ _ _ _
    rw [pq6, lcS _ _ _ _ rfl]
    exact hp
  intro m
  induction m with
  | zero =>
    intro k rec fs rs H hm hkp R n1 n2 hb G
    have := pm_le T P.length
    rcases G with ⟨r, hr, _⟩ | ⟨hk', rfl, _⟩
    · have := (List.getElem?_eq_some_iff.mp hr).1; omega
    have tv : Tv F14 noF M4 H (fL d B ck a rb (gAt T k : Int) .none) t_195_1 false := by
      unfold t_195_1
      exact (tv_an (c := false) (d := false) (tv_p fun Q q => by rw [pq10, pq6, lcS _ _ _ _ rfl]; exact q) fun q => by cases q).cast rfl
    refine tv _ ⟨fun q => (by cases q), fun _ => fin (by omega) hb⟩
  | succ m ih =>
    intro k rec fs rs H hm hkp R n1 n2 hb G
    have hle := pm_le T P.length
    rcases G with ⟨r, hr, rfl, Rd⟩ | ⟨hk', rfl, _⟩
    · obtain ⟨bk, f10, hbk, f9⟩ := Rd.brk0 hT hr
      have hkl := (List.getElem?_eq_some_iff.mp hr).1
      have tv : Tv F14 noF M4 H (fL d B ck a rb (gAt T k : Int) (.bytes r.1)) t_195_1 (decide (bk = 0)) := by
        unfold t_195_1
        exact (tv_an (c := true) (d := decide (bk = 0)) (tv_p fun Q q => by rw [pq10, pq6, lcS _ _ _ _ rfl]; exact q) fun _ => tv_p (ev_eq (ev_att R rfl f10) ev_int rfl)).cast (Bool.true_and _)
      refine tv _ ⟨fun q => ?_, fun q => ?_⟩
      · have q := hbk.mp (of_decide_eq_true q)
        have hkm : k < pm T P.length := by
          rw [hT] at q hr ⊢
          exact (pm_iff hr).mp q
        unfold b_195_1
        have hbl : (vR (T.recs.take k)).length < 1000000 := by
          have := (mkg_len P none 0).1
          rw [← hT] at this
          simp; omega
        refine w_app rfl hb (ev_loc rfl) hbl ?_
        have hn3 : rb ≠ dx := fun q => by rw [q, R.hid] at hb; cases hb
        have R1 : RH a dx rl fs rs (up H rb (.lst (vR (T.recs.take k) ++ [.bytes r.1]))) := R.upM n1 hn3 n2
        have hb1 : up H rb (.lst (vR (T.recs.take k) ++ [.bytes r.1])) rb = some (.lst (vR (T.recs.take (k + 1)))) := by
          rw [up_self, List.take_succ, hr]; simp [vR]
        generalize up H rb (.lst (vR (T.recs.take k) ++ [.bytes r.1])) = H1 at R1 hb1
        refine w_asg (ev_att R1 rfl f9) ?_
        rw [wq15]
        refine mc_in R1 rfl (read_got hk hd hB (by omega) Rd fun rec' fs' rs' G' h7 => ?_)
        show W _ _ _ _ _ _ _
        rw [wq1]
        exact ih (k + 1) rec' fs' rs' _ (by omega) (by omega) (R1.both h7) n1 n2 (by rw [elsB rb n1 n2]; exact hb1) G'
      · have q : ¬ r.2.2 < bef T P.length := fun q2 => of_decide_eq_false q (hbk.mpr q2)
        refine fin ?_ hb
        have : ¬ k < pm T P.length := fun q2 => q (by
          rw [hT] at q2 hr ⊢
          exact (pm_iff hr).mpr q2)
        omega
    · have tv : Tv F14 noF M4 H (fL d B ck a rb (gAt T k : Int) .none) t_195_1 false := by
        unfold t_195_1
        exact (tv_an (c := false) (d := false) (tv_p fun Q q => by rw [pq10, pq6, lcS _ _ _ _ rfl]; exact q) fun q => by cases q).cast rfl
      refine tv _ ⟨fun q => (by cases q), fun _ => fin (by omega) hb⟩

theorem pfx_W (hk : ck = 1 ∨ ck = 2) (hd : d.length ≤ 100000) (hB : B = (Bn : Int)) (h1 : 8 ≤ Bn) (h2 : Bn ≤ 65542) (Rs : Rst d Bn ck 0 0 false P t0)
    (hp : Pst (.t2 (.lst (vR ((mkg none 0 P).recs.take (pm (mkg none 0 P) P.length)))) (.int (gAt (mkg none 0 P) (pm (mkg none 0 P) P.length) : Int)))) : D1 195 [.bytes d, .int B, .int ck] Pst := by
  refine .inr ⟨rfl, rfl, ?_⟩
  have hP : P.length ≤ 200000 := by have := Rs.tot; have := totP_len P; omega
  rw [show argL nm_195 [.bytes d, .int B, .int ck] = [some (.bytes d), some (.int B), some (.int ck), none, none, none, none] from rfl]
  unfold ms_195
  refine w_newo (ev_loc rfl) (ev_loc rfl) (ev_loc rfl) (by omega) (by omega) hk fun a dx rl H ha hdx hrl R hH => ?_
  rw [wq4]
  intro rb hrb
  have n1 : rb ≠ a := fun q => by rw [q, R.ob] at hrb; cases hrb
  have n2 : rb ≠ rl := fun q => by rw [q, R.li] at hrb; cases hrb
  have R1 := R.upN (mo := .lst []) hrb
  have hb1 : up H rb (.lst []) rb = some (.lst []) := up_self
  generalize up H rb (.lst []) = H1 at R1 hb1
  refine w_asg ev_int ?_
  rw [wq15]
  refine mc_in R1 rfl (read_got hk hd hB (Nat.zero_le _) (RdAt.start hB Rs hP) fun rec fs rs G h7 => ?_)
  show W _ _ _ _ _ _ _
  rw [wq23]
  exact ⟨_, pfx_loop hk hd hB rfl hP hp (mkg none 0 P).recs.length 0 rec fs rs _ (Nat.le_refl _) (Nat.zero_le _) (R1.both h7) n1 n2 (by rw [elsB rb n1 n2]; exact hb1) G⟩
end
end Mine
end

section
open PySem PySem.W PyProof.Rows PySem.Calls PySem.Builtin
set_option Elab.async false
set_option autoImplicit false
set_option maxRecDepth 100000
namespace Mine

noncomputable def D2 : FT := addD F14 D1 M4 233 3 nm_233 ms_233

theorem pickAll_range {rs : List V} : ∀ (m k : Nat), k + m ≤ rs.length → pickAll rs ((List.range' k m).map fun (j : Nat) => V.int (j : Int)) = some ((rs.drop k).take m)
  | 0, k, _ => by rw [List.take_zero]; rfl
  | m + 1, k, h => by
    rw [List.range'_succ, List.map_cons]
    have ih := pickAll_range (rs := rs) m (k + 1) (by omega)
    have hlt : k < rs.length := by omega
    show (if _ then _ else _) = _
    rw [if_pos (⟨by omega, by omega⟩ : (0 : Int) ≤ (k : Int) ∧ (k : Int) < (rs.length : Int)), ih, List.drop_eq_getElem_cons hlt, List.take_succ_cons, Int.toNat_natCast, List.getD_eq_getElem?_getD, List.getElem?_eq_getElem hlt]
    rfl

structure AG (a5 a6 a7 a9 a dx rl : Nat) (T : Res) (fs : Fs) (rs : List V) (H : HM) : Prop where
  mh : MH a5 a6 a7 a9 T.recs T.brks H
  rh : RH a dx rl fs rs H
  n5 : rl ≠ a5
  n6 : rl ≠ a6
  n7 : rl ≠ a7
  n9 : rl ≠ a9
theorem AG.els {a5 a6 a7 a9 a dx rl : Nat} {T : Res} {fs fs' : Fs} {rs rs' : List V} {H H' : HM} (G : AG a5 a6 a7 a9 a dx rl T fs rs H) (R : RH a dx rl fs' rs' H') (E : Els a rl H H') : AG a5 a6 a7 a9 a dx rl T fs' rs' H' := by
  have k : ∀ {x vs}, H x = some (.lst vs) → x ≠ a := fun e q => by rw [q, G.rh.ob] at e; cases e
  exact { mh := ⟨by rw [E _ (k G.mh.h5) (Ne.symm G.n5)]; exact G.mh.h5, by rw [E _ (k G.mh.h6) (Ne.symm G.n6)]; exact G.mh.h6, by rw [E _ (k G.mh.h7) (Ne.symm G.n7)]; exact G.mh.h7, by rw [E _ (k G.mh.h9) (Ne.symm G.n9)]; exact G.mh.h9, G.mh.n56, G.mh.n57, G.mh.n59, G.mh.n67, G.mh.n69, G.mh.n79⟩, rh := R, n5 := G.n5, n6 := G.n6, n7 := G.n7, n9 := G.n9 }

section
variable {d : List UInt8} {B ck : Int} {Bn : Nat} {t0 : Bool} {P : List Pc} {Pst : V → Prop} {T : Res} {a5 a6 a7 a9 a dx rl : Nat} {v10 v11 v12 v13 v14 v15 v17 v18 v19 v20 : Option V} {H : HM} {fs : Fs} {rs : List V}

theorem ev_idxRL {F : FT} {H : HM} {l : Loc} {e e2 : ME} {b : Nat} {vs : List V} {i : Nat} {v : V} (h1 : Ev F H l e (.ref b)) (hb : H b = some (.lst vs)) (h2 : Ev F H l e2 (.int (i : Int))) (hi : vs[i]? = some v) : Ev F H l (.idx e e2) v := fun Q q => by
  have hlt := (List.getElem?_eq_some_iff.mp hi).1
  rw [pq14]; refine h1 _ (h2 _ ?_)
  show match H b with | some (.lst vs) => _ | _ => False
  rw [hb]
  refine ⟨⟨by omega, by omega⟩, ?_⟩
  rw [Int.toNat_natCast, List.getD_eq_getElem?_getD, hi]; exact q

theorem agr1 (hT : T = mkg none 0 P) (hk : ck = 1 ∨ ck = 2) (hd : d.length ≤ 100000) (hB : B = (Bn : Int)) (h1 : 8 ≤ Bn) (h2 : Bn ≤ 65542) (Rs : Rst d Bn ck 0 0 false P t0) (hp : Pst (.bool true)) (G : AG a5 a6 a7 a9 a dx rl T fs rs H) {tn : Bool} {v20 : Option V} (hv : lget [v20] 0 = some (.int (gAt T (pm T P.length) : Int))) :
    W F14 D1 M4 r_233_1 (aL d B ck P tn a5 a6 a7 T.lost a9 v10 v11 v12 v13 v14 v15 (some (.ref a)) v17 v18 (some (.lst ((List.range (pm T P.length)).map fun (j : Nat) => V.int (j : Int)))) v20) H (OutV Pst) := by
  have hv' : v20 = some (.int (gAt T (pm T P.length) : Int)) := hv
  subst hv'
  unfold r_233_1
  rw [wq30, pq6, lcS _ _ _ _ rfl, pq6, lcS _ _ _ _ rfl, pq6, lcS _ _ _ _ rfl]
  refine pfx_W hk hd hB h1 h2 Rs ?_
  rw [← hT, pq29, pq37, lcS _ _ _ _ rfl, lcS _ _ _ _ rfl]
  show match H a5 with | some (.lst vs) => _ | _ => False
  rw [G.mh.h5]
  show lstS _ _ _
  show match pickAll _ _ with | some us => _ | none => False
  have hle := pm_le T P.length
  have hpk := pickAll_range (rs := vR T.recs) (pm T P.length) 0 (by simp; exact hle)
  rw [← List.range_eq_range'] at hpk
  rw [hpk]
  show Pe _ _ _ _ _
  rw [pq6, lcS _ _ _ _ rfl]
  refine ⟨⟨rfl, (T.recs.take (pm T P.length)).map (·.1), ?_, ?_⟩, hp⟩
  · simp only [vR, List.map_take, List.map_map]; rfl
  · simp only [vR, List.map_take, List.map_map, List.drop_zero]; rfl

theorem agr2_loop (hT : T = mkg none 0 P) (hk : ck = 1 ∨ ck = 2) (hd : d.length ≤ 100000) (hB : B = (Bn : Int)) (h1 : 8 ≤ Bn) (h2 : Bn ≤ 65542) (Rs : Rst d Bn ck 0 0 false P t0) (hp : Pst (.bool true)) (G : AG a5 a6 a7 a9 a dx rl T fs rs H) {tn : Bool} :
    ∀ (m k : Nat) (v17 : Option V), k + m = pm T P.length → eachW 17 (W F14 D1 M4 b_233_1) (fun l H => W F14 D1 M4 r_233_1 l H (OutV Pst)) (OutV Pst) ((List.range' k m).map fun (j : Nat) => V.int (j : Int))
      (aL d B ck P tn a5 a6 a7 T.lost a9 v10 v11 v12 v13 v14 v15 (some (.ref a)) v17 v18 (some (.lst ((List.range (pm T P.length)).map fun (j : Nat) => V.int (j : Int)))) (some (.int (gAt T k : Int)))) H := by
  intro m
  induction m with
  | zero =>
    intro k v17 hkm
    have : k = pm T P.length := by omega
    subst this
    rw [show (List.range' (pm T P.length) 0) = [] from rfl, List.map_nil, eachW]
    exact agr1 hT hk hd hB h1 h2 Rs hp G rfl
  | succ m ih =>
    intro k v17 hkm
    have hle := pm_le T P.length
    have hr := List.getElem?_eq_getElem (l := T.recs) (show k < T.recs.length by omega)
    rw [List.range'_succ, List.map_cons, eachW]
    show W F14 D1 M4 b_233_1 (aL d B ck P tn a5 a6 a7 T.lost a9 v10 v11 v12 v13 v14 v15 (some (.ref a)) (some (.int (k : Int))) v18 (some (.lst ((List.range (pm T P.length)).map fun (j : Nat) => V.int (j : Int)))) (some (.int (gAt T k : Int)))) H _
    unfold b_233_1
    refine w_asg (v := .int (gAt T (k + 1) : Int)) (ev_idxRL (ev_loc rfl) G.mh.h6 (ev_loc rfl) ?_) ?_
    · rw [List.getElem?_map, hr]
      unfold gAt
      rw [if_neg (Nat.succ_ne_zero k), Nat.add_sub_cancel, List.getD_eq_getElem?_getD, hr]
      rfl
    · rw [wq1]
      exact ih (k + 1) _ (by omega)

theorem agr3 (hT : T = mkg none 0 P) (hk : ck = 1 ∨ ck = 2) (hd : d.length ≤ 100000) (hB : B = (Bn : Int)) (h1 : 8 ≤ Bn) (h2 : Bn ≤ 65542) (Rs : Rst d Bn ck 0 0 false P t0) (hp : Pst (.bool true)) (G : AG a5 a6 a7 a9 a dx rl T fs rs H) {tn : Bool} :
    W F14 D1 M4 r_233_3 (aL d B ck P tn a5 a6 a7 T.lost a9 v10 v11 v12 v13 v14 v15 (some (.ref a)) v17 v18 v19 v20) H (OutV Pst) := by
  have nxt : ∀ {v18 : V}, v18 = .int (bef T P.length : Int) → W F14 D1 M4 r_233_2 (aL d B ck P tn a5 a6 a7 T.lost a9 v10 v11 v12 v13 v14 v15 (some (.ref a)) v17 (some v18) v19 v20) H (OutV Pst) := fun {v18} hv => by
    subst hv
    unfold r_233_2
    rw [wq33, lcS _ _ _ _ rfl]
    show match H a7 with | some (.lst vs) => _ | _ => False
    rw [G.mh.h7]
    show locS _ _ _
    rw [lcS _ _ _ _ rfl, nI]
    refine ⟨T.recs.map fun r => (r.2.2 : Int), by simp [vL], ?_⟩
    refine ev_lenRL (ev_loc rfl) G.mh.h5 _ ?_
    rw [nI]
    refine ⟨⟨by omega, by simp⟩, ?_⟩
    have hlen : ((vR T.recs).length : Int).toNat = T.recs.length := by simp
    have hf : ((List.range ((vR T.recs).length : Int).toNat).filter fun (j : Nat) => decide ((T.recs.map fun r => (r.2.2 : Int)).getD j 0 < (bef T P.length : Int))) = List.range (pm T P.length) := by
      rw [hlen]
      refine filter_range _ (pm_le _ _) fun j hj => ?_
      have hr := List.getElem?_eq_getElem (l := T.recs) hj
      rw [decide_eq_true_iff, List.getD_eq_getElem?_getD, List.getElem?_map, hr]
      have hi : (T.recs[j]).2.2 < bef T P.length ↔ j < pm T P.length := by
        have := hr
        subst hT
        exact pm_iff this
      show ((T.recs[j].2.2 : Nat) : Int) < _ ↔ _
      rw [← hi]; omega
    rw [hf]
    refine w_asg ev_int ?_
    rw [wq24, pq6, lcS _ _ _ _ rfl]
    show eachW _ _ _ _ _ _ _
    rw [List.range_eq_range']
    have := agr2_loop (v10 := v10) (v11 := v11) (v12 := v12) (v13 := v13) (v14 := v14) (v15 := v15) (v18 := some (.int (bef T P.length : Int))) (tn := tn) hT hk hd hB h1 h2 Rs hp G (pm T P.length) 0 v17 (by omega)
    rw [List.range_eq_range'] at this
    exact this
  unfold r_233_3
  refine w_asg (v := .int (P.length : Int)) ((ev_lenL (ev_loc rfl)).cast (by simp [pcs])) ?_
  refine w_ite (c := decide (0 < T.brks.length)) (tv_p (ev_gt (ev_lenRL (ev_loc rfl) G.mh.h9) ev_int (by simp [vN]))) (fun hc => ?_) fun hc => ?_
  · have hc := of_decide_eq_true hc
    refine w_asg (v := .int (bef T P.length : Int)) (ev_idxRL (i := 0) (ev_loc rfl) G.mh.h9 ev_int ?_) ?_
    · unfold bef
      cases hb : T.brks with
      | nil => rw [hb] at hc; cases hc
      | cons x xs => rfl
    · rw [wq1]
      exact nxt rfl
  · rw [wq1]
    refine nxt ?_
    unfold bef
    cases hb : T.brks with
    | nil => rfl
    | cons x xs => rw [hb] at hc; simp at hc

theorem agr4 (hT : T = mkg none 0 P) (hk : ck = 1 ∨ ck = 2) (hd : d.length ≤ 100000) (hB : B = (Bn : Int)) (h1 : 8 ≤ Bn) (h2 : Bn ≤ 65542) (Rs : Rst d Bn ck 0 0 false P t0) (hp : Pst (.bool true)) (G : AG a5 a6 a7 a9 a dx rl T fs rs H) (E : RdEnd d B Bn ck T t0 rl fs rs) :
    W F14 D1 M4 r_233_5 (aL d B ck P (t0 || T.torn) a5 a6 a7 T.lost a9 v10 v11 v12 v13 v14 v15 (some (.ref a)) v17 v18 v19 v20) H (OutV Pst) := by
  obtain ⟨e, rfl, _, _⟩ := E
  have R := G.rh
  unfold r_233_5
  refine w_ite (c := false) ((tv_or (c := false) (d := false) (tv_p (ev_ne (ev_att R rfl rfl) (ev_loc rfl) (by simp))) fun _ => (tv_or (c := false) (d := false) (tv_p (ev_ne (ev_att R rfl rfl) (ev_lenRL (ev_loc rfl) G.mh.h9) (by simp [vN]))) fun _ => tv_p (ev_cmp (ev_att R rfl rfl) (ev_loc rfl) fun Q q => ?_)).cast rfl).cast rfl) (fun q => by cases q) fun _ => ?_
  · rw [cNeO]; simpa using q
  rw [wq1]
  show W _ _ _ r_233_4 _ _ _
  unfold r_233_4
  refine w_ite (c := false) ((tv_an (c := decide (0 < T.recs.length)) (d := false) (tv_p (ev_gt (ev_lenRL (ev_loc rfl) G.mh.h5) ev_int (by simp [vR]))) fun hc => ?_).cast (Bool.and_false _)) (fun q => by cases q) fun _ => ?_
  · have hc := of_decide_eq_true hc
    have hr := List.getElem?_eq_getElem (l := T.recs) (show T.recs.length - 1 < T.recs.length by omega)
    refine tv_p (ev_ne (i := (gAt T T.recs.length : Int)) (j := (gAt T T.recs.length : Int)) (ev_att R rfl rfl) (ev_idxRL (i := T.recs.length - 1) (ev_loc rfl) G.mh.h6 ((ev_sub (ev_lenRL (ev_loc rfl) G.mh.h6) ev_int).cast (vint (by simp [vE]; omega))) ?_) (by simp))
    rw [List.getElem?_map, hr]
    unfold gAt
    rw [if_neg (by omega), List.getD_eq_getElem?_getD, hr]
    rfl
  rw [wq1]
  exact agr3 hT hk hd hB h1 h2 Rs hp G

theorem agr5 (hT : T = mkg none 0 P) (hk : ck = 1 ∨ ck = 2) (hd : d.length ≤ 100000) (hB : B = (Bn : Int)) (h1 : 8 ≤ Bn) (h2 : Bn ≤ 65542) (Rs : Rst d Bn ck 0 0 false P t0) (hp : Pst (.bool true)) (G : AG a5 a6 a7 a9 a dx rl T fs rs H) (E : RdAt d B Bn ck T t0 T.recs.length rl fs rs) :
    W F14 D1 M4 r_233_6 (aL d B ck P (t0 || T.torn) a5 a6 a7 T.lost a9 v10 v11 v12 v13 v14 v15 (some (.ref a)) v17 v18 v19 v20) H (OutV Pst) := by
  unfold r_233_6
  rw [wq22, tq4, tq6]
  refine mc_in G.rh rfl (read_end hk hd hB E fun fs' rs' E' => ?_)
  have G1 := G.els (G.rh.both (rs' := rs') E'.rf7) elsB
  generalize up (up H a _) rl _ = H1 at G1
  refine ⟨fun q => (by cases q), fun _ => ?_⟩
  rw [tq6]
  refine mc_in G1.rh rfl (read_end2 hk hd hB E' fun fs'' rs'' E'' => ?_)
  have G2 := G1.els (G1.rh.both (rs' := rs'') E''.rf7) elsB
  generalize up (up H1 a _) rl _ = H2 at G2
  refine ⟨fun q => (by cases q), fun _ => ?_⟩
  rw [wq1]
  exact agr4 hT hk hd hB h1 h2 Rs hp G2 E''

theorem agr6_loop (hT : T = mkg none 0 P) (hk : ck = 1 ∨ ck = 2) (hd : d.length ≤ 100000) (hB : B = (Bn : Int)) (h1 : 8 ≤ Bn) (h2 : Bn ≤ 65542) (Rs : Rst d Bn ck 0 0 false P t0) (hp : Pst (.bool true)) :
    ∀ (m k : Nat) (fs : Fs) (rs : List V) (H : HM) (v17 : Option V), k + m = T.recs.length → AG a5 a6 a7 a9 a dx rl T fs rs H → RdAt d B Bn ck T t0 k rl fs rs →
      eachW 17 (W F14 D1 M4 b_233_2) (fun l H => W F14 D1 M4 r_233_6 l H (OutV Pst)) (OutV Pst) ((List.range' k m).map fun (j : Nat) => V.int (j : Int))
      (aL d B ck P (t0 || T.torn) a5 a6 a7 T.lost a9 v10 v11 v12 v13 v14 v15 (some (.ref a)) v17 v18 v19 v20) H := by
  intro m
  induction m with
  | zero =>
    intro k fs rs H v17 hkm G E
    have : k = T.recs.length := by omega
    subst this
    rw [show (List.range' T.recs.length 0) = [] from rfl, List.map_nil, eachW]
    exact agr5 hT hk hd hB h1 h2 Rs hp G E
  | succ m ih =>
    intro k fs rs H v17 hkm G E
    have hr := List.getElem?_eq_getElem (l := T.recs) (show k < T.recs.length by omega)
    generalize T.recs[k] = r at hr
    rw [List.range'_succ, List.map_cons, eachW]
    show W F14 D1 M4 b_233_2 (aL d B ck P (t0 || T.torn) a5 a6 a7 T.lost a9 v10 v11 v12 v13 v14 v15 (some (.ref a)) (some (.int (k : Int))) v18 v19 v20) H _
    unfold b_233_2
    rw [wq22, tq4, tq5]
    refine mc_in G.rh rfl (read_at hk hd hB E hr fun fs' rs' E' => ?_)
    have G1 := G.els (G.rh.both (rs' := rs') E'.rf7) elsB
    generalize up (up H a _) rl _ = H1 at G1
    refine ev_idxRL (v := .bytes r.1) (ev_loc rfl) G1.mh.h5 (ev_loc rfl) (by rw [List.getElem?_map, hr]; rfl) _ ?_
    show (_ → _) ∧ (_ → _)
    refine ⟨fun q => absurd rfl (of_decide_eq_true q), fun _ => ?_⟩
    obtain ⟨bk, _, _, f9⟩ := E'.brk0 hT hr
    have hg : gAt T (k + 1) = r.2.1 := by
      unfold gAt
      rw [if_neg (Nat.succ_ne_zero k), Nat.add_sub_cancel, List.getD_eq_getElem?_getD, hr]; rfl
    refine tv_p (c := false) (ev_ne (ev_att G1.rh rfl f9) (ev_idxRL (v := .int (r.2.1 : Int)) (ev_loc rfl) G1.mh.h6 (ev_loc rfl) (by rw [List.getElem?_map, hr]; rfl)) (by rw [hg]; simp)) _ ?_
    refine ⟨fun q => (by cases q), fun _ => ?_⟩
    rw [wq1]
    show W F14 D1 M4 .nop _ _ _
    rw [wq1]
    exact ih (k + 1) fs' rs' H1 _ (by omega) G1 E'

/-- the reader agrees with the marking -/
theorem agrees_W (hk : ck = 1 ∨ ck = 2) (hd : d.length ≤ 100000) (hB : B = (Bn : Int)) (h1 : 8 ≤ Bn) (h2 : Bn ≤ 1000) (hp : Pst (.bool true)) : D2 233 [.bytes d, .int B, .int ck] Pst := by
  obtain ⟨P, t0, Rs⟩ := Rst.all (d := d) (ck := ck) (show 0 < Bn by omega)
  have htot := Rs.tot
  have hlP := totP_len P
  refine .inr ⟨rfl, rfl, ?_⟩
  rw [show argL nm_233 [.bytes d, .int B, .int ck] = [some (.bytes d), some (.int B), some (.int ck), none, none, none, none, none, none, none, none, none, none, none, none, none, none, none, none, none, none] from rfl]
  unfold ms_233
  rw [wq17, pq36, pq6, lcS _ _ _ _ rfl, pq6, lcS _ _ _ _ rfl, pq6, lcS _ _ _ _ rfl]
  refine pieces_W hB hk (by omega) h2 hd Rs ?_
  show W _ _ _ _ _ _ _
  rw [wq4]
  intro a5 q5
  rw [wq4]
  intro a6 q6
  rw [wq4]
  intro a7 q7
  refine w_asg ev_int ?_
  rw [wq4]
  intro a9 q9
  have n56 : a5 ≠ a6 := fun q => by rw [← q, up_self] at q6; cases q6
  have n67 : a6 ≠ a7 := fun q => by rw [← q, up_self] at q7; cases q7
  have n57 : a5 ≠ a7 := fun q => by rw [← q, up_ne n56, up_self] at q7; cases q7
  have n79 : a7 ≠ a9 := fun q => by rw [← q, up_self] at q9; cases q9
  have n69 : a6 ≠ a9 := fun q => by rw [← q, up_ne n67, up_self] at q9; cases q9
  have n59 : a5 ≠ a9 := fun q => by rw [← q, up_ne n57, up_ne n56, up_self] at q9; cases q9
  have Mh : MH a5 a6 a7 a9 [] [] (up (up (up (up noH a5 (.lst [])) a6 (.lst [])) a7 (.lst [])) a9 (.lst [])) :=
    ⟨by rw [up_ne n59, up_ne n57, up_ne n56, up_self]; rfl, by rw [up_ne n69, up_ne n67, up_self]; rfl, by rw [up_ne n79, up_self]; rfl, by rw [up_self]; rfl, n56, n57, n59, n67, n69, n79⟩
  generalize up (up (up (up noH a5 (.lst [])) a6 (.lst [])) a7 (.lst [])) a9 (.lst []) = H at Mh
  refine w_asg ev_int ?_
  rw [wq23]
  have hT := mkg_len P none 0
  have I : Inv (mkg none 0 P) (t0 || (mkg none 0 P).torn) none 0 (P.drop 0) [] 0 [] t0 := ⟨rfl, by simp, rfl, rfl⟩
  refine ⟨_, mark_all (T := mkg none 0 P) (t := t0 || (mkg none 0 P).torn) ⟨by omega, by omega⟩ (by omega) (fun tn' H' w10 w11 w12 w13 w14 w15 Mh' ht => ?_) P.length 0 [] 0 [] t0 H _ _ _ _ _ (Nat.zero_le _) (by omega) Mh I⟩
  subst ht
  unfold r_233_9
  refine w_newo (ev_loc rfl) (ev_loc rfl) (ev_loc rfl) (by omega) (by omega) hk fun a dx rl H1 ha hdx hrl R hH => ?_
  have k : ∀ {x vs}, H' x = some (MO.lst vs) → x ≠ a ∧ x ≠ dx ∧ x ≠ rl := fun e => ⟨fun q => (by rw [q, ha] at e; cases e), fun q => (by rw [q, hdx] at e; cases e), fun q => (by rw [q, hrl] at e; cases e)⟩
  have k' : ∀ {x vs}, H' x = some (MO.lst vs) → H1 x = some (MO.lst vs) := fun e => by rw [hH _ (k e).1 (k e).2.1 (k e).2.2]; exact e
  have G : AG a5 a6 a7 a9 a dx rl (mkg none 0 P) (initFs d B ck rl) [] H1 :=
    { mh := ⟨k' Mh'.h5, k' Mh'.h6, k' Mh'.h7, k' Mh'.h9, n56, n57, n59, n67, n69, n79⟩, rh := R, n5 := Ne.symm (k Mh'.h5).2.2, n6 := Ne.symm (k Mh'.h6).2.2, n7 := Ne.symm (k Mh'.h7).2.2, n9 := Ne.symm (k Mh'.h9).2.2 }
  rw [wq25]
  refine ev_lenRL (ev_loc rfl) G.mh.h5 _ ?_
  rw [nI]
  refine ⟨⟨by omega, by simp; omega⟩, ?_⟩
  have hlen : ((vR (mkg none 0 P).recs).length : Int).toNat = (mkg none 0 P).recs.length := by simp
  rw [hlen, List.range_eq_range']
  exact agr6_loop rfl hk hd hB h1 (by omega) Rs hp (mkg none 0 P).recs.length 0 (initFs d B ck rl) [] H1 none (by omega) G (RdAt.start hB Rs (by omega))
end
end Mine
end

section
open PySem PySem.W PyProof.Rows PySem.Calls PySem.Builtin
set_option Elab.async false
set_option autoImplicit false
set_option maxRecDepth 100000
namespace Mine

theorem cls_184 (P : Params) : ClsOk (Kf P) 184 where
  pg := by rfl
  hd := by rfl
  fnd := by
    intro x hx
    simp only [fnm, List.mem_cons, List.not_mem_nil, or_false] at hx
    rcases hx with rfl | rfl | rfl | rfl | rfl | rfl | rfl | rfl | rfl | rfl | rfl <;> rfl
  sa := by rfl
  po := by rfl
  tk := by
    intro x hx
    simp only [fnm, List.mem_cons, List.not_mem_nil, or_false] at hx
    rcases hx with rfl | rfl | rfl | rfl | rfl | rfl | rfl | rfl | rfl | rfl | rfl <;> rfl

section
variable {prog : Program} {w : World} {P : Params} {mg mb : Str → Option Value} {bs : Heap}

theorem fok14 (Y : Wd prog w (Kf P) mg mb 184 bs) : FOk prog w bs 14 F14 :=
  .add Y (at_228 P) (sc_228 P) (ar_228 P) (is_228 P) <| .add Y (at_221 P) (sc_221 P) (ar_221 P) (is_221 P) <| .add Y (at_216 P) (sc_216 P) (ar_216 P) (is_216 P) <| .add Y (at_209 P) (sc_209 P) (ar_209 P) (is_209 P) <|
  .add Y (at_202 P) (sc_202 P) (ar_202 P) (is_202 P) <| .add Y (at_132 P) (sc_132 P) (ar_132 P) (is_132 P) <| .add Y (at_125 P) (sc_125 P) (ar_125 P) (is_125 P) <| .add Y (at_139 P) (sc_139 P) (ar_139 P) (is_139 P) <|
  .add Y (at_118 P) (sc_118 P) (ar_118 P) (is_118 P) <| .add Y (at_111 P) (sc_111 P) (ar_111 P) (is_111 P) <| .add Y (at_104 P) (sc_104 P) (ar_104 P) (is_104 P) <| .add Y (at_96 P) (sc_96 P) (ar_96 P) (is_96 P) <|
  .add Y (at_89 P) (sc_89 P) (ar_89 P) (is_89 P) <| .add Y (at_82 P) (sc_82 P) (ar_82 P) (is_82 P) .zero
theorem nok16 (Y : Wd prog w (Kf P) mg mb 184 bs) : NOk prog w 184 bs 16 :=
  NOk.of (fI := 153) Y (by rfl) (by rfl) (by rfl) (at_153 P) (sc_153 P) (ar_153 P) (is_153 P) (fok14 Y) init_W
theorem mok20 (Y : Wd prog w (Kf P) mg mb 184 bs) : MOk prog w 184 bs 20 M4 := by
  have f := fok14 Y
  have n := nok16 Y
  have m1 : MOk prog w 184 bs 17 M1 := .add Y (at_160 P) (sc_160 P) (ar_160 P) (is_160 P) (f.mono (by decide)) n .zero .zero
  have m2 : MOk prog w 184 bs 18 M2 := .add Y (at_167 P) (sc_167 P) (ar_167 P) (is_167 P) (f.mono (by decide)) (n.mono (by decide)) .zero m1
  have m3 : MOk prog w 184 bs 19 M3 := .add Y (at_174 P) (sc_174 P) (ar_174 P) (is_174 P) (f.mono (by decide)) (n.mono (by decide)) .zero m2
  exact .add Y (at_181 P) (sc_181 P) (ar_181 P) (is_181 P) (f.mono (by decide)) (n.mono (by decide)) .zero m3
theorem dok22 (Y : Wd prog w (Kf P) mg mb 184 bs) : DcOk prog w bs 22 D2 := by
  have f := fok14 Y
  have n := nok16 Y
  have m := mok20 Y
  have d1 : DcOk prog w bs 21 D1 := .add Y (at_195 P) (sc_195 P) (ar_195 P) (is_195 P) (f.mono (by decide)) m (n.mono (by decide)) .zero
  exact .add Y (at_233 P) (sc_233 P) (ar_233 P) (is_233 P) (f.mono (by decide)) (m.mono (by decide)) (n.mono (by decide)) d1
end
end Mine
end

section
open PySem PySem.W PyProof.Rows PySem.Calls PySem.Builtin
set_option Elab.async false
set_option autoImplicit false
set_option maxRecDepth 100000
namespace Mine

theorem gI_238_LogReader (P : Params) : IsG (Kf P) (fdOf P 238).scope "LogReader" (.ref 184) := ⟨by rfl, gl_LogReader P, by rfl⟩
theorem gI_238__law_agrees (P : Params) : IsG (Kf P) (fdOf P 238).scope "_law_agrees" (.ref 233) := ⟨by rfl, gl__law_agrees P, by rfl⟩
theorem gI_238__law_draw (P : Params) : IsG (Kf P) (fdOf P 238).scope "_law_draw" (.ref 209) := ⟨by rfl, gl__law_draw P, by rfl⟩
theorem gI_238__law_lay (P : Params) : IsG (Kf P) (fdOf P 238).scope "_law_lay" (.ref 221) := ⟨by rfl, gl__law_lay P, by rfl⟩
theorem gI_238__law_sizes (P : Params) : IsG (Kf P) (fdOf P 238).scope "_law_sizes" (.ref 202) := ⟨by rfl, gl__law_sizes P, by rfl⟩
theorem bI_238_len (P : Params) : IsB (Kf P) (fdOf P 238).scope "len" (.builtin "len") := ⟨by rfl, no_len P, bt_len, by rfl, by decide⟩
noncomputable def nm_238 : List Str := ["script", "nums", "block", "check", "data", "cut", "refused"]
theorem at_238 (P : Params) : FnAt (Kf P) 238 (fdOf P 238) (bodyOf P 238) := ⟨⟨_, _, _, by rfl⟩, by rfl, by rfl, by rfl, by rfl, by rfl, by rfl, by rfl, by rfl⟩
theorem sc_238 (P : Params) : ScOk (fdOf P 238).scope nm_238 := .of (by rfl) (by decide +kernel)
theorem ba_238 (P : Params) (u : Value) : bindArgs (fdOf P 238) ⟨[u], []⟩ = pure [(("script" : Str), u)] := by kernel_rfl
theorem ar_238 (P : Params) : ArgOk (Kf P) (fdOf P 238) nm_238 1 [] := .of1 (ba_238 P)
noncomputable def r_238_1 : MS := (.asg 6 (.bool false) .nop)
noncomputable def r_238_2 : MS := (.asg 5 (.sl0 (.loc 4) (.bin .mod (.ca2 209 (.loc 1) (.int 1)) (.bin .add (.len (.loc 4)) (.int 1)))) (.ite (.nt (.dc 233 (.loc 5) (.loc 2) (.loc 3))) (.ret (.bool false)) .nop r_238_1))
noncomputable def r_238_3 : MS := (.asg 4 (.ca3 221 (.loc 1) (.loc 2) (.loc 3)) (.ite (.or (.p (.isN (.loc 4))) (.nt (.dc 233 (.loc 4) (.loc 2) (.loc 3)))) (.ret (.bool false)) .nop r_238_2))
noncomputable def r_238_4 : MS := (.asg 2 (.bin .add (.int 8) (.bin .mod (.ca2 209 (.loc 1) (.int 0)) (.int 16))) (.asg 3 (.int 2) (.ite (.p (.cmp .eq (.bin .mod (.bin .fdiv (.ca2 209 (.loc 1) (.int 0)) (.int 16)) (.int 3)) (.int 1))) (.asg 3 (.int 1) .nop) .nop r_238_3)))
noncomputable def ms_238 : MS := (.ite (.p (.cmp .eq (.len (.loc 1)) (.int 0))) (.asg 1 (.ls1 (.int 5)) .nop) .nop r_238_4)
theorem is_238 (P : Params) : IsS (Kf P) 184 (fdOf P 238).scope nm_238 true ms_238 (((bodyOf P 238).drop 1).take 9) :=
  (.ite (.cmp (op := .eq) rfl (.len (bI_238_len P) (.loc rfl)) .int) (.asg rfl (.ls1 .int) (fun _ => rfl) .nop) .nop (.asg rfl (.bin (op := .add) rfl .int (.bin (op := .mod) rfl (.ca2 (gI_238__law_draw P) (isfn_209 P) (.loc rfl) .int) .int)) (fun _ => rfl) (.asg rfl .int (fun _ => rfl) (.ite (.cmp (op := .eq) rfl (.bin (op := .mod) rfl (.bin (op := .fdiv) rfl (.ca2 (gI_238__law_draw P) (isfn_209 P) (.loc rfl) .int) .int) .int) .int) (.asg rfl .int (fun _ => rfl) .nop) .nop (.asg rfl (.ca3 (gI_238__law_lay P) (isfn_221 P) (.loc rfl) (.loc rfl) (.loc rfl)) (fun _ => rfl) (.ite (.or (.isN (.loc rfl)) (.or1 (.nt (.dc rfl (gI_238__law_agrees P) (isfn_233 P) (.loc rfl) (.loc rfl) (.loc rfl))))) (.ret .bool) .nop (.asg rfl (.sl0 (.loc rfl) (.bin (op := .mod) rfl (.ca2 (gI_238__law_draw P) (isfn_209 P) (.loc rfl) .int) (.bin (op := .add) rfl (.len (bI_238_len P) (.loc rfl)) .int))) (fun _ => rfl) (.ite (.nt (.dc rfl (gI_238__law_agrees P) (isfn_233 P) (.loc rfl) (.loc rfl) (.loc rfl))) (.ret .bool) .nop (.asg rfl .bool (fun _ => rfl) .nop)))))))))
end Mine
end

section
open PySem PySem.W PyProof.Rows PySem.Calls PySem.Builtin
set_option Elab.async false
set_option autoImplicit false
set_option maxRecDepth 100000
namespace Mine

structure NsOk (ns : List Int) : Prop where
  pos : 0 < ns.length
  le : ns.length ≤ 12
  nn : ∀ x ∈ ns, 0 ≤ x
theorem NsOk.draw {ns : List Int} (h : NsOk ns) (i : Nat) : 0 ≤ drawI ns i := by
  unfold drawI
  have hlt := Nat.mod_lt i h.pos
  have : 0 ≤ ns.getD (i % ns.length) 0 := by
    rw [List.getD_eq_getElem?_getD, List.getElem?_eq_getElem hlt]
    exact h.nn _ (List.getElem_mem _)
  generalize i / ns.length = q
  omega
theorem ev_draw {ns : List Int} {l : Loc} {H : HM} {i : Nat} (h : NsOk ns) (hl : lget l 1 = some (.lst (ns.map .int))) : Ev F14 H l (.ca2 209 (.loc 1) (.int (i : Int))) (.int (drawI ns i)) := fun Q q => by
  rw [pq35, pq6, lcS _ _ _ _ hl, pq1]
  exact .inl (.inl (.inl (draw_W h.pos (by have := h.le; omega) q)))
section
variable {v0 : Option V} {ns : List Int} {Q : Out → Loc → HM → Prop} {D : List UInt8} {B ck : Int} {v3 v4 v5 v6 : Option V}

noncomputable abbrev LawQ (v0 : Option V) (Q : Out → Loc → HM → Prop) : Prop := ∀ (ns : List Int) (B ck : Int) (D cut : List UInt8), NsOk ns → cut.length ≤ 1000 → (ck = 1 ∨ ck = 2) →
  Q .next [v0, some (.lst (ns.map .int)), some (.int B), some (.int ck), some (.bytes D), some (.bytes cut), some (.bool false)] noH

theorem law2 (hn : NsOk ns) (hB : 8 ≤ B ∧ B ≤ 23) (hk : ck = 1 ∨ ck = 2) (hD : D.length ≤ 1000) (hQ : LawQ v0 Q) : W F14 D2 M4 r_238_2 [v0, some (.lst (ns.map .int)), some (.int B), some (.int ck), some (.bytes D), v5, v6] noH Q := by
  obtain ⟨Bn, hBn⟩ := Int.eq_ofNat_of_zero_le (show 0 ≤ B by omega)
  obtain ⟨x, hx⟩ := Int.eq_ofNat_of_zero_le (hn.draw 1)
  unfold r_238_2
  have e1 : (x : Int) % ((D.length : Int) + 1) = ((x % (D.length + 1) : Nat) : Int) := by
    rw [show (D.length : Int) + 1 = ((D.length + 1 : Nat) : Int) from by simp, ← Int.natCast_emod]
  refine w_asg (v := .bytes (D.take (x % (D.length + 1)))) (fun Q q => ?_) ?_
  · rw [pq15, pq6, lcS _ _ _ _ rfl]
    refine ev_mod (ev_draw (i := 1) hn rfl) (ev_add (ev_lenB (ev_loc rfl)) ev_int) (by omega) _ ?_
    rw [hx, yB, nI]
    show 0 ≤ (x : Int) % ((D.length : Int) + 1) ∧ _
    rw [e1, Int.toNat_natCast]
    exact ⟨by omega, q⟩
  have hc : (D.take (x % (D.length + 1))).length ≤ 1000 := by simp; omega
  generalize D.take (x % (D.length + 1)) = cut at hc
  rw [wq22, tq2, tq7, pq6, lcS _ _ _ _ rfl, pq6, lcS _ _ _ _ rfl, pq6, lcS _ _ _ _ rfl]
  refine agrees_W (Bn := Bn) hk (by omega) hBn (by omega) (by omega) ⟨fun q => (by cases q), fun _ => ?_⟩
  rw [wq1]
  show W _ _ _ r_238_1 _ _ _
  unfold r_238_1
  refine w_asg ev_bool ?_
  rw [wq1]
  exact hQ ns B ck D cut hn hc hk

theorem law3 (hn : NsOk ns) (hB : 8 ≤ B ∧ B ≤ 23) (hk : ck = 1 ∨ ck = 2) (hQ : LawQ v0 Q) : W F14 D2 M4 r_238_3 [v0, some (.lst (ns.map .int)), some (.int B), some (.int ck), v4, v5, v6] noH Q := by
  obtain ⟨Bn, hBn⟩ := Int.eq_ofNat_of_zero_le (show 0 ≤ B by omega)
  unfold r_238_3
  rw [wq3, pq36, pq6, lcS _ _ _ _ rfl, pq6, lcS _ _ _ _ rfl, pq6, lcS _ _ _ _ rfl]
  refine .inl (lay_W hBn (by omega) (by omega) hk hn.pos (by have := hn.le; omega) hn.draw fun D hD => ?_)
  show W F14 D2 M4 _ [v0, some (.lst (ns.map .int)), some (.int B), some (.int ck), some (.bytes D), v5, v6] noH Q
  rw [wq22, tq4, tq1, pq9, pq6, lcS _ _ _ _ rfl]
  show (_ → _) ∧ (_ → _)
  refine ⟨fun q => (by cases q), fun _ => ?_⟩
  rw [tq2, tq7, pq6, lcS _ _ _ _ rfl, pq6, lcS _ _ _ _ rfl, pq6, lcS _ _ _ _ rfl]
  refine agrees_W (Bn := Bn) hk (by omega) hBn (by omega) (by omega) ⟨fun q => (by cases q), fun _ => ?_⟩
  rw [wq1]
  exact law2 hn hB hk hD hQ

theorem law4 {v2 : Option V} (hn : NsOk ns) (hQ : LawQ v0 Q) : W F14 D2 M4 r_238_4 [v0, some (.lst (ns.map .int)), v2, v3, v4, v5, v6] noH Q := by
  unfold r_238_4
  refine w_asg (ev_add ev_int (ev_mod (ev_draw (i := 0) hn rfl) ev_int (by decide))) ?_
  have hB : 8 ≤ 8 + drawI ns 0 % 16 ∧ 8 + drawI ns 0 % 16 ≤ 23 := by omega
  generalize 8 + drawI ns 0 % 16 = B at hB
  refine w_asg ev_int ?_
  refine w_ite (tv_p (ev_eq (ev_mod (ev_div (ev_draw (i := 0) hn rfl) ev_int (by decide)) ev_int (by decide)) ev_int rfl)) (fun _ => ?_) fun _ => ?_
  · refine w_asg ev_int ?_
    rw [wq1]
    exact law3 hn hB (.inl rfl) hQ
  · rw [wq1]
    exact law3 hn hB (.inr rfl) hQ

theorem law_W {ks : List Int} (hQ : LawQ v0 Q) : W F14 D2 M4 ms_238 [v0, some (.lst ((ks.take 12).map fun k => .int (k % 999983))), none, none, none, none, none] noH Q := by
  unfold ms_238
  have e : ((ks.take 12).map fun k => V.int (k % 999983)) = ((ks.take 12).map (· % 999983)).map .int := by rw [List.map_map]; rfl
  rw [e]
  have hl : ((ks.take 12).map (· % 999983)).length ≤ 12 := by simp; omega
  have hnn : ∀ x ∈ (ks.take 12).map (· % 999983), 0 ≤ x := by
    intro x hx
    obtain ⟨y, _, rfl⟩ := List.mem_map.mp hx
    exact Int.emod_nonneg _ (by decide)
  generalize (ks.take 12).map (· % 999983) = ns at hl hnn
  refine w_ite (c := decide (ns.length = 0)) (tv_p (ev_eq (ev_lenL (ev_loc rfl)) ev_int (by simp))) (fun hc => ?_) fun hc => ?_
  · refine w_asg (v := .lst [.int 5]) (fun Q q => by rw [pq31, pq1]; exact q) ?_
    rw [wq1]
    exact law4 (ns := [5]) ⟨by decide, by decide, by simp⟩ hQ
  · have := of_decide_eq_false hc
    rw [wq1]
    exact law4 ⟨by omega, hl, hnn⟩ hQ
end
end Mine
end

section
open PySem PySem.W PyProof.Rows PySem.Calls
set_option Elab.async false
set_option autoImplicit false
namespace Mine

/-- how the refusal flies -/
noncomputable abbrev RaiseAt (w : World) (sz : Int) : Prop := ∀ (s₀ s₁ : Shared) (mg mb : Str → Option Value), Ground lawView lawLoose PySem.Challenge.rw_no0403_01.row.records (XL lawView []) w s₀ mg mb s₁.heap →
    (frag.heap_1 w.params).In s₁.heap → ∀ (h : Heap) (L fa : Addr) (cd : Value) (m : Str → Option Value) (name : Str) (ns : List (Str × NameKind)) (ig ic : Bool) (mr : List (Str × Const)),
    Fr s₁.heap L h m → ∀ (gs : Array GenState) (dr : Drawn) (tk : Nat) (os : OsState) (b : Array UInt8) (t0 t1 t2 : Tok) (ck : Int) (Q E : Value → Shared → Prop),
    (∀ e t vs news g h' tk', Fr s₁.heap L g m → g.UpToSlots h' → RaisedK s₁.heap [envOf name ⟨.function, ns, ig, ic, mr⟩ L fa cd] e (.ref 73) t vs news h' → E (.ref e) ⟨h', gs, dr, tk', os⟩) →
    wpAny (model PySem.Challenge.rw_no0403_01.row.prog w) (callerA.deeper (envOf name ⟨.function, ns, ig, ic, mr⟩ L fa cd)) (PySem.call (.ref 184) [.bytes b t0, .int sz t1, .int ck t2]) Q E ⟨h, gs, dr, tk, os⟩

set_option maxRecDepth 100000 in
set_option maxHeartbeats 8000000 in
theorem raises {w : World} {sz : Int} (hsz : sz = 7 ∨ sz = 0 ∨ sz = -1 ∨ sz = 65543) : RaiseAt w sz := by
  intro s₀ s₁ mg mb G KX
  revert KX
  k_fill
  intro KX h L fa cd m name ns ig ic mr F gs dr tk os b t0 t1 t2 ck Q E hE
  refine Ground.open G ?_
  intro T B D TE TW
  try (refine guard_noD D (by decide +kernel) ?_; clear D)
  have K0 : Below callerA s₁.heap [] s₁.heap := below_caller s₁.heap
  have N0 : News s₁.heap L h [] := News.nil
  rcases hsz with rfl | rfl | rfl | rfl
  · k_steps
    exact hE _ _ _ _ _ _ _ (by assumption) (by assumption) (by assumption)
  · k_steps
    exact hE _ _ _ _ _ _ _ (by assumption) (by assumption) (by assumption)
  · k_steps
    exact hE _ _ _ _ _ _ _ (by assumption) (by assumption) (by assumption)
  · k_steps
    exact hE _ _ _ _ _ _ _ (by assumption) (by assumption) (by assumption)
end Mine
end

section
open PySem PySem.W PyProof.Rows PySem.Calls PySem.Builtin
set_option Elab.async false
set_option autoImplicit false
set_option maxRecDepth 100000
namespace Mine

theorem sizes_W {P : V → Prop} (hp : P (.lst [.int 7, .int 0, .int (-1), .int 65543])) : F10 202 [] P := by
  refine .inr ⟨rfl, rfl, ?_⟩
  rw [show argL nm_202 ([] ++ _) = [] from rfl]
  unfold ms_202
  exact w_ret (fun Q q => by rw [pq32, pq1, pq1, pq1, pq1]; exact q) hp

theorem bad_73 (P : Params) : excIn (Kf P) 73 [.type "Exception", .type "BaseException", .type "object"] "Exception.__new__" = true := by kernel_rfl
theorem gl_BadOption (P : Params) : nsIn (Kf P) mainGlobals "BadOption" = some (some (.ref 73)) := by rfl

noncomputable abbrev lawEnv (P : Params) (L : Addr) : Env := envOf (fdOf P 238).qualname (fdOf P 238).scope L 238 (fdOf P 238).code
theorem law_env (P : Params) (L : Addr) : callEnvC (fdOf P 238) L 238 = lawEnv P L := by rfl
theorem law_scope (P : Params) : (fdOf P 238).scope = ⟨.function, (fdOf P 238).scope.names, (fdOf P 238).scope.isGenerator, (fdOf P 238).scope.isCoroutine, (fdOf P 238).scope.more⟩ := by rfl

theorem ev_size {l : Loc} {H : HM} {ns : List Int} {Q : V → Prop} (h : NsOk ns) (hl : lget l 1 = some (.lst (ns.map .int))) (q : ∀ sz, (sz = 7 ∨ sz = 0 ∨ sz = -1 ∨ sz = 65543) → Q (.int sz)) :
    Pe F14 H l (.idx (.ca0 202) (.bin .mod (.ca2 209 (.loc 1) (.int 1)) (.int 4))) Q := by
  rw [pq14, pq33]
  refine .inl (.inl (.inl (.inl (sizes_W ?_))))
  refine ev_mod (ev_draw (i := 1) h hl) ev_int (by decide) _ ?_
  have h1 : 0 ≤ drawI ns 1 % 4 := by omega
  have h2 : drawI ns 1 % 4 < 4 := by omega
  generalize drawI ns 1 % 4 = k at h1 h2
  rw [iL]
  refine ⟨⟨h1, h2⟩, ?_⟩
  have hk : k = 0 ∨ k = 1 ∨ k = 2 ∨ k = 3 := by omega
  rcases hk with rfl | rfl | rfl | rfl
  · exact q 7 (.inl rfl)
  · exact q 0 (.inr (.inl rfl))
  · exact q (-1) (.inr (.inr (.inl rfl)))
  · exact q 65543 (.inr (.inr (.inr rfl)))

section
variable {w : World} {s₀ s₁ : Shared} {mg mb : Str → Option Value}

set_option maxHeartbeats 4000000 in
theorem try_W (G : Ground lawView lawLoose PySem.Challenge.rw_no0403_01.row.records (XL lawView []) w s₀ mg mb s₁.heap) (Y : Wd PySem.Challenge.rw_no0403_01.row.prog w (Kf w.params) mg mb 184 s₁.heap)
    {s : Shared} {z : FZ} {L : Addr} (X : Cx PySem.Challenge.rw_no0403_01.row.prog w (Kf w.params) mg mb 184 s₁.heap (fdOf w.params 238).scope nm_238 (lawEnv w.params L) F14 22 (callerA.deeper (lawEnv w.params L)))
    {v0 : Option V} {ns : List Int} {B ck : Int} {D cut : List UInt8} (S : Sim 184 s₁.heap (lawEnv w.params L) nm_238 z [v0, some (.lst (ns.map .int)), some (.int B), some (.int ck), some (.bytes D), some (.bytes cut), some (.bool false)] noH s.heap)
    (hL : s₁.heap.objs.size ≤ L) (hn : NsOk ns) {Q : Flow → Shared → Prop}
    (hQ : ∀ h' t m, Fr s₁.heap L h' m → Q (.ret (.bool true)) { s with heap := h', toks := t }) :
    wpAny (model PySem.Challenge.rw_no0403_01.row.prog w) (callerA.deeper (lawEnv w.params L)) (execs ((bodyOf w.params 238).drop 10) (lawEnv w.params L)) Q (fun _ _ => False) s := by
  obtain ⟨h, gs, dr, tk, os⟩ := s
  have kp : KpOk PySem.Challenge.rw_no0403_01.row.prog w s₁.heap (.ref 184) := fun h' hk => keeps_K Y.kC h' (Y.G.X.keeps hk)
  refine wpAny_execs_cons (wpAny_Try_except (any_of_D (rest_D (Expr_D X (CallD_N (Name_glob X S.bsIn (gI_238_LogReader w.params) ?_)) rfl))))
  refine callD3 (bs := s₁.heap) (IsE.star (K := Kf w.params) (sc := (fdOf w.params 238).scope) (nm := nm_238) (e := .loc 5) (.loc rfl))
    (IsE.star (K := Kf w.params) (sc := (fdOf w.params 238).scope) (nm := nm_238) (e := .idx (.ca0 202) (.bin .mod (.ca2 209 (.loc 1) (.int 1)) (.int 4))) (.idx (.ca0 (gI_238__law_sizes w.params) (isfn_202 w.params)) (.bin (op := .mod) rfl (.ca2 (gI_238__law_draw w.params) (isfn_209 w.params) (.loc rfl) .int) .int)))
    (IsE.star (K := Kf w.params) (sc := (fdOf w.params 238).scope) (nm := nm_238) (e := .loc 3) (.loc rfl)) kp ?_
  refine (Pe_sound X (e := .loc 5) (.loc rfl) S (P := fun v => v = .bytes cut) (by rw [pq6, lcS _ _ _ _ rfl])).on (.self S.zk) fun va ua s2 z2 hva px hv => ?_
  have S2 := S.px px
  refine (Pe_sound X (e := .idx (.ca0 202) (.bin .mod (.ca2 209 (.loc 1) (.int 1)) (.int 4))) (.idx (.ca0 (gI_238__law_sizes w.params) (isfn_202 w.params)) (.bin (op := .mod) rfl (.ca2 (gI_238__law_draw w.params) (isfn_209 w.params) (.loc rfl) .int) .int)) S2
    (P := fun v => ∃ sz : Int, (sz = 7 ∨ sz = 0 ∨ sz = -1 ∨ sz = 65543) ∧ v = .int sz) (ev_size hn rfl fun sz q => ⟨sz, q, rfl⟩)).go px fun vb ub s3 z3 hvb p3 px3 hv3 => ?_
  have S3 := S.px px3
  refine (Pe_sound X (e := .loc 3) (.loc rfl) S3 (P := fun v => v = .int ck) (by rw [pq6, lcS _ _ _ _ rfl])).go px3 fun vc uc s4 z4 hvc p4 px4 hv4 => ?_
  have S4 := S.px px4
  refine ⟨S4.bsIn, wpD_of ?_⟩
  subst hva hvc
  obtain ⟨sz, hsz, rfl⟩ := hvb
  cases hv
  cases hv3
  cases hv4
  obtain ⟨m, hm, _⟩ := S4.loc
  have F4 : Fr s₁.heap L s4.heap m := ⟨hm, S4.bsIn, hL⟩
  obtain ⟨⟨h4, tk4, rfl, _⟩, _⟩ := px4
  refine raises hsz s₀ s₁ mg mb G Y.G.X h4 L 238 (fdOf w.params 238).code m (fdOf w.params 238).qualname _ _ _ _ F4 gs dr tk4 os _ _ _ _ ck _ _ fun e t vs news g h5 tk5 FG U R => ?_
  refine Ground.open G ?_
  intro T _ _ _ _
  refine caught_O0 (bmB := [.type "Exception", .type "BaseException", .type "object"]) (newId := "Exception.__new__") (below_caller s₁.heap) FG U R Y.G.X (topRead_of T) (gl_BadOption w.params) (bad_73 w.params) rfl (fun h6 news2 F6 _ _ _ => ?_) rfl rfl (by decide) .never
  refine wpAny_execs_cons (wpAny_Assign_Name (wpAny_Constant_bool (st F6 (fun h7 F7 => wpAny_execs_nil ?_) rfl rfl)))
  refine wpAny_execs_cons (wpAny_Return_some (ld F7 (v := .bool true) rfl ?_ rfl rfl (by decide)))
  exact hQ h7 _ _ F7
end
end Mine
end

section
open PySem PySem.W PyProof.Rows PySem.Calls PySem.Builtin
set_option Elab.async false
set_option autoImplicit false
set_option maxRecDepth 100000
namespace Mine

theorem vrs_ints {z : FZ} : ∀ {us : List Value} {ks : List Int}, IntsAre us ks → VRs z (ks.map V.int) us
  | _, _, .nil => .nil
  | _, _, .cons n t r => .cons (.int n t) (vrs_ints r)

section
variable {prog : Program} {w : World} {K : Frag} {mg mb : Str → Option Value} {C : Addr} {bs : Heap} {sc : Scope} {nm : List Str} {env : Env} {F : FT} {k : Nat} {A : Around} {s : Shared} {z : FZ} {l : Loc} {H : HM} {dm : Bool}
theorem nums_D (X : Cx prog w K mg mb C bs sc nm env F k A) {i j : Nat} {wn iv sv : Str} {csc' : Scope} {k1 k2 : Nat} {p p1 p2 p3 p4 p5 p6 p7 p8 q q1 : Pos} {pr : List Stmt} {ax : Nat} {us : List Value} {ks : List Int} {Q : Flow → Shared → Prop} {E : Value → Shared → Prop}
    (hx : nm[i]? = some wn) (hk : sc.names.lookup wn = some .local) (hj : nm[j]? = some sv) (csc : CScope0 csc' iv)
    (sw : Swaps sc (.ListComp (.BinOp (.Name iv p1) .Mod (.Constant (.int 999983) k1 p2) p3) [⟨.Name iv p4, .Subscript (.Name sv p5) (.Slice none (some (.Constant (.int 12) k2 p6)) none p7) p8, [], 0⟩] csc' q1) (.Name wn p) q)
    (S : Sim C bs env nm z l H s.heap) (hl : lget l j = some (.ref ax)) (hL : s.heap.IsList ax us.toArray) (hI : IntsAre us ks) (hn : us.length ≤ 1000)
    (kk : ∀ s' z', SX env H s z H s' z' → Sim C bs env nm z' (lset l i (.lst ((ks.take 12).map fun k => .int (k % 999983)))) H s'.heap → wpD dm (model prog w) A (execs pr env) Q E s') :
    wpD dm (model prog w) A (execs (.Assign [.Name wn p] (.ListComp (.BinOp (.Name iv p1) .Mod (.Constant (.int 999983) k1 p2) p3) [⟨.Name iv p4, .Subscript (.Name sv p5) (.Slice none (some (.Constant (.int 12) k2 p6)) none p7) p8, [], 0⟩] csc' q1) q :: pr) env) Q E s := by
  refine restA (wpAny_Assign_ListComp_free (fun _ => true) (fun v u => ∃ (k : Int) (t t' : Tok), v = .int k t ∧ u = .int (k % 999983) t') (sw env X.hsc) (csc.free env) csc.nocell csc.kind csc.loc csc.hi (by rw [X.kindOf]; exact hk) (by rw [X.ok.kind]; rfl) ?_)
  refine Subscript_ (Name_loc X S hj (P := fun v => v = .ref ax) (by rw [lcS _ _ _ _ hl]) _ _ fun v u s₁ z₁ hh px hv => wpAny_Slice (evalPart_none_step (evalPart_some_step (wpAny_Constant_int (evalPart_none_step ?_)))))
  have S₁ := S.px px
  subst hh
  cases hv
  obtain ⟨lo, e, lc, ln, ld⟩ := stays_list (Keeps.keep px.1) hL
  have r : VRs z₁ (ks.map V.int) us := vrs_ints hI
  obtain ⟨m, hm, hmr⟩ := S₁.loc
  have hlr := r.length
  have hl : ({ s₁ with heap := s₁.heap.push { cls := .type "slice", data := .fields #[.none, .int 12 s₁.toks, .none] }, toks := s₁.toks + 1 } : Shared).heap.IsList ax us.toArray := ⟨lo, Heap.get?_push_of_some _ e, lc, ln, ld⟩
  refine tail_any hl.typeIs slot_list_getitem.lookup (wpAny_getItem_list_slice hl (Heap.IsSliceOf.new ..) .none (.int 12 _) .none (by simp) ?_ (by rw [sizeLine_eq]; simp; omega)) rfl
  have hsp : slicePick us.toArray none (some 12) none = (us.take 12).toArray := by
    have := slicePick_upto' us.toArray 12
    simpa using this
  rw [hsp]
  let h₁ := s₁.heap.push { cls := .type "slice", data := .fields #[.none, .int 12 s₁.toks, .none] }
  let h₂ := h₁.push (lisO (us.take 12).toArray 0)
  have k2 : ∀ b o, s₁.heap.get? b = some o → h₂.get? b = some o := fun b o e => Heap.get?_push_of_some _ (Heap.get?_push_of_some _ e)
  have eD : h₂.get? h₁.objs.size = some (lisO (us.take 12).toArray 0) := Heap.get?_push_size _ rfl
  refine wpAny_pyIter_list (items := (us.take 12).toArray) ⟨_, eD, rfl, _, rfl⟩ ?_
  have lt1 : s₁.heap.objs.size < h₂.objs.size := by show _ < (h₁.push _).objs.size; rw [Heap.size_push]; show _ < (s₁.heap.push _).objs.size + 1; rw [Heap.size_push]; omega
  have hI : s₁.heap.get? h₂.objs.size = none := fresh_none (Nat.le_of_lt lt1)
  have nI : ∀ {b o}, s₁.heap.get? b = some o → b ≠ h₂.objs.size := fun e q => by rw [q, hI] at e; cases e
  have hsz2 : h₂.objs.size = h₁.objs.size + 1 := Heap.size_push _ _
  have hne : h₁.objs.size ≠ h₂.objs.size := by rw [hsz2]; exact Nat.ne_of_lt (Nat.lt_succ_self _)
  refine ⟨_, _, _, _, _, _, m, rfl, Walks.list X.aok.hd h₂.objs.size h₁.objs.size hne (us.take 12).toArray, ?_, ⟨⟨_, Heap.get?_push_size _ rfl, rfl, rfl⟩, ⟨_, Heap.get?_push_of_some _ eD, rfl, _, rfl⟩⟩, ?_, fun hb => S₁.fresh_loc hI (List.mem_singleton.mp hb).symm, hm.at' fun o e => Heap.get?_push_of_some _ (k2 _ _ e), ⟨?_, ?_⟩, ?_⟩
  · rw [sizeLine_eq]; simp; omega
  · intro b hb
    show b < (h₂.push _).objs.size
    rw [Heap.size_push]
    rcases List.mem_cons.mp hb with rfl | hb
    · exact Nat.lt_succ_self _
    · rw [List.mem_singleton.mp hb]
      rw [hsz2]; exact Nat.lt_succ_of_lt (Nat.lt_succ_self _)
  · intro Ca i v s₃ m₃ E' _ _ _ _ _ _
    exact wpAny_pure ⟨rfl, Keeps.refl' _⟩
  · intro Ca i v s₃ m₃ E' _ hp _ hns hmx hkp _
    have hp' : us[i]? = some v := by
      have : (us.take 12)[i]? = some v := by simpa using hp
      rw [List.getElem?_take] at this
      split at this
      · exact this
      · cases this
    obtain ⟨v', q3, q4⟩ := r.get' hp'
    rw [List.getElem?_map] at q3
    obtain ⟨kv, q5, rfl⟩ := Option.map_eq_some_iff.mp q3
    cases q4
    rename_i tv
    refine wpAny_BinOp (comp_local csc.kind csc.hi csc.di hns hmx (wpAny_Constant_int (mod_int' (by decide) ⟨⟨kv, tv, _, rfl, congrArg (Value.int · _) (Int.fmod_eq_emod_of_nonneg _ (by decide))⟩, ⟨_, _, rfl, fun _ _ e => e⟩⟩)))
  · intro D h' tk ys vs hD _ hpl hlen hP hF hN hkp
    obtain ⟨cap, hpl⟩ := hpl
    refine ⟨rfl, ?_⟩
    have hf : vs.filter (fun _ => true) = vs := List.filter_eq_self.mpr fun _ _ => rfl
    rw [hf] at hF
    have hvs : vs = us.take 12 := by
      apply List.ext_getElem?
      intro j
      cases e : vs[j]? with
      | some v => have := hP j v e; simpa using this.symm
      | none =>
        have : (us.take 12).length ≤ j := by have := List.getElem?_eq_none_iff.mp e; simp at hlen ⊢; omega
        exact (List.getElem?_eq_none this).symm
    subst hvs
    have hD1 : s₁.heap.get? D = none := by
      cases q : s₁.heap.get? D with
      | none => rfl
      | some o => rw [Heap.get?_push_of_some _ (k2 _ _ q)] at hD; cases hD
    have hr12 : VRs z₁ ((ks.take 12).map V.int) (us.take 12) := by
      have := r.take 12
      rwa [← List.map_take] at this
    have fl := frozen_loc (tk := tk) (vs := (ks.take 12).map fun k => V.int (k % 999983)) X S₁ hD1 hm hmr hN hpl (fun b o hb e => hkp b o hb (by simpa using nI e) (Heap.get?_push_of_some _ (k2 _ _ e))) hx (by rw [X.kindOf]; exact hk) (by simp; omega) (mod_rel hF (ks.take 12) hr12)
    exact kk { s₁ with heap := h', toks := tk } _ ((SX.of_px px).trans S₁ fl.2) fl.1
end
end Mine
end

section
open PySem PySem.W PyProof.Rows PySem.Calls PySem.Builtin
set_option Elab.async false
set_option autoImplicit false
set_option maxRecDepth 100000
namespace Mine

theorem execs_app {env : Env} : ∀ (ps rest : List Stmt), execs (ps ++ rest) env = (execs ps env >>= fun f => match f with | .next => execs rest env | f => pure f)
  | [], rest => rfl
  | st :: ps, rest => by
    rw [List.cons_append, execs_cons, execs_cons, bind_assoc]
    congr 1
    funext f
    cases f <;> first | exact execs_app ps rest | rfl

noncomputable def LawP (v0 : Option V) (o : Out) (l : Loc) (H : HM) : Prop := ∃ (ns : List Int) (B ck : Int) (D cut : List UInt8), NsOk ns ∧ o = .next ∧ H = noH ∧
  l = [v0, some (.lst (ns.map .int)), some (.int B), some (.int ck), some (.bytes D), some (.bytes cut), some (.bool false)]

section
variable {prog : Program} {w : World} {K : Frag} {mg mb : Str → Option Value} {C : Addr} {bs : Heap} {nm : List Str} {F : FT} {k : Nat} {A : Around} {s : Shared} {dm : Bool}
theorem fn_open {f : Addr} {fd : FuncData} {body : List Stmt} {np : Nat} {us : List Value} {vs : List V} {R : Result → Shared → Prop}
    (Y : Wd prog w K mg mb C bs) (Fn : FnAt K f fd body) (Sc : ScOk fd.scope nm) (Ar : ArgOk K fd nm np []) (fok : FOk prog w bs k F) (ao : AOk (k + 1) A) (hb : BsIn bs s) (hv : VRs (fun _ => none) vs us) (hn : us.length = np)
    (kk : ∀ s₂, Cx prog w K mg mb C bs fd.scope nm (callEnvC fd s.heap.objs.size f) F k (A.deeper (callEnvC fd s.heap.objs.size f)) → Sim C bs (callEnvC fd s.heap.objs.size f) nm (fun _ => none) (argL nm vs) noH s₂.heap → (∃ h t, s₂ = { s with heap := h, toks := t }) →
      wpD dm (model prog w) (A.deeper (callEnvC fd s.heap.objs.size f)) (execs body (callEnvC fd s.heap.objs.size f)) (fun fl s' => R (.ok (.ret (match fl with | .ret v => v | _ => .none))) s') (fun _ _ => False) s₂) :
    codeD dm (model prog w) A (.call (.ref f) ⟨us, []⟩) R s := by
  have KX : K.In s.heap := Y.G.X.keeps hb
  have hkd : ∀ (i : Nat) (x : Str), nm[i]? = some x → x ∈ nm := fun i x e => List.mem_of_getElem? e
  have hbd := Ar.bind us hn s KX
  rw [List.map_nil, List.append_nil] at hbd
  refine call_fn Fn KX (by have := ao.dp; show A.depth < 1000; omega) (Y.G.lim.keeps hb) hbd (fun x hx => ?_) fun s₂ ic => ?_
  · have hm : x.1 ∈ nm := (List.of_mem_zip hx).1
    rcases (Sc.ok _ hm).1 with q | q
    · exact .inl q
    · exact .inr ⟨q, cells_some _ _ _ _ q⟩
  let env := callEnvC fd s.heap.objs.size f
  have hL : env.locals = s.heap.objs.size := rfl
  obtain ⟨⟨hsame, hns, hkeep, _⟩, hcell, hapart, habove⟩ := ic
  have frL : s.heap.get? s.heap.objs.size = none := fresh_none (Nat.le_refl _)
  have frC : ∀ x c, env.cells.lookup x = some c → s.heap.get? c = none := fun x c e => fresh_none (Nat.le_of_lt (habove x c (mem_of_lookup e)))
  have bsnone : ∀ a, s.heap.get? a = none → bs.get? a = none := fun a ha => by
    cases q : bs.get? a with
    | none => rfl
    | some o => rw [hb _ _ q] at ha; cases ha
  have X : Cx prog w K mg mb C bs fd.scope nm env F k (A.deeper env) := {
    G := Y.G
    ck := Y.ck
    ok := ⟨Fn.kind, Fn.glob, Fn.built⟩
    hsc := rfl
    nmok := fun i x e => Sc.ok x (hkd i x e)
    inj := fun i j x e e' => by
      obtain ⟨h1, q1⟩ := List.getElem?_eq_some_iff.mp e
      obtain ⟨h2, q2⟩ := List.getElem?_eq_some_iff.mp e'
      exact nodup_inj Sc.nd h1 h2 (q1.trans q2.symm)
    cells := fun x e => Option.isSome_iff_exists.mp (cells_some _ _ _ _ e)
    fok := fok
    aok := ⟨ao.hd, by have := ao.dp; show A.depth + 1 + k < 900; omega, by have := ao.un; show A.units + 3 + 10 * k + 20 < cLine; omega⟩ }
  have S₁ : Sim C bs env nm (fun _ => none) (argL nm vs) noH s₂.heap := {
    loc := ⟨_, hns, fun i v x e1 e2 e3 => by
      obtain ⟨u, q1, q2⟩ := hv.get (argL_get e1)
      exact ⟨u, (bind_at (kindOf := env.kindOf) nm us (fun _ => none) (fun _ => none) Sc.nd i x u e2 q1).1 e3, q2⟩⟩
    cel := fun x c e => ⟨fun q => by have := habove x c (mem_of_lookup e); rw [q] at this; exact absurd this (Nat.lt_irrefl _), rfl, bsnone _ (frC x c e), _, hcell x c e, fun i v e1 e2 e3 => by
      obtain ⟨u, q1, q2⟩ := hv.get (argL_get e1)
      exact ⟨u, (bind_at (kindOf := env.kindOf) nm us (fun _ => none) (fun _ => none) Sc.nd i x u e2 q1).2 (by rw [e3]; decide), q2⟩⟩
    apart := fun x y c e e' => name_of_addr hapart (mem_of_lookup e) (mem_of_lookup e')
    trk := fun a o e => by cases e
    fz := fun a o e => by cases e
    base := fun b o e => ⟨hkeep _ _ (hb b o e), rfl⟩
    bl := bsnone _ frL }
  exact kk s₂ X S₁ (by obtain ⟨h', t', rfl⟩ := hsame; exact ⟨_, _, rfl⟩)
end

section
variable {w : World} {s₀ s₁ : Shared} {mg mb : Str → Option Value}

set_option maxHeartbeats 4000000 in
/-- the law's body -/
theorem law_body (G : Ground lawView lawLoose PySem.Challenge.rw_no0403_01.row.records (XL lawView []) w s₀ mg mb s₁.heap) (Y : Wd PySem.Challenge.rw_no0403_01.row.prog w (Kf w.params) mg mb 184 s₁.heap)
    {ax : Nat} {us : List Value} {ks : List Int} (hL : s₁.heap.IsList ax us.toArray) (hI : IntsAre us ks) (hn : us.length ≤ 1000) {Q : Flow → Shared → Prop} {L : Addr} (hLs : s₁.heap.objs.size ≤ L)
    (hQ : ∀ h' t m, Fr s₁.heap L h' m → Q (.ret (.bool true)) { s₁ with heap := h', toks := t }) {s₂ : Shared} (hs : ∃ h t, s₂ = { s₁ with heap := h, toks := t })
    (X : Cx PySem.Challenge.rw_no0403_01.row.prog w (Kf w.params) mg mb 184 s₁.heap (fdOf w.params 238).scope nm_238 (lawEnv w.params L) F14 22 (callerA.deeper (lawEnv w.params L)))
    (S : Sim 184 s₁.heap (lawEnv w.params L) nm_238 (fun _ => none) (argL nm_238 [.ref ax]) noH s₂.heap) :
    wpD true (model PySem.Challenge.rw_no0403_01.row.prog w) (callerA.deeper (lawEnv w.params L)) (execs (bodyOf w.params 238) (lawEnv w.params L)) Q (fun _ _ => False) s₂ := by
  have hbody : bodyOf w.params 238 = (bodyOf w.params 238).take 1 ++ (((bodyOf w.params 238).drop 1).take 9 ++ (bodyOf w.params 238).drop 10) := by
    have h1 := List.take_append_drop 1 (bodyOf w.params 238)
    have h2 := List.take_append_drop 9 ((bodyOf w.params 238).drop 1)
    rw [List.drop_drop] at h2
    rw [h2, h1]
  rw [hbody]
  obtain ⟨h2, t2, rfl⟩ := hs
  have hL2 : h2.IsList ax us.toArray := stays_list (fun b o e => (S.base b o e).1) hL
  refine nums_D (i := 1) (j := 0) (wn := "nums") (iv := "x") (sv := "script") X rfl rfl rfl (.of rfl rfl rfl) (fun env h => by cases env; cases h; rfl) S rfl hL2 hI hn fun s3 z3 x3 S3 => ?_
  have S3' : Sim 184 s₁.heap (lawEnv w.params L) nm_238 z3 [some (.ref ax), some (.lst ((ks.take 12).map fun k => .int (k % 999983))), none, none, none, none, none] noH s3.heap := S3
  clear S3
  have hW : W F14 D2 M4 ms_238 [some (.ref ax), some (.lst ((ks.take 12).map fun k => .int (k % 999983))), none, none, none, none, none] noH (LawP (some (.ref ax))) := law_W fun ns B ck D cut h1 _ _ => ⟨ns, B, ck, D, cut, h1, rfl, rfl, rfl⟩
  show wpD _ _ _ (execs (((bodyOf w.params 238).drop 1).take 9 ++ (bodyOf w.params 238).drop 10) _) _ _ _
  rw [execs_app]
  refine wpD_bind ((is_238 w.params).go X ((mok20 Y).mono (by decide)) (dok22 Y) (fun _ => (nok16 Y).mono (by decide)) Y.kC S3' hW _ _ fun o f s4 z4 l4 H4 hP x4 S4 ho => ?_)
  obtain ⟨ns, B, ck, D, cut, hns, rfl, rfl, rfl⟩ := hP
  cases f <;> first | exact ho.elim | skip
  obtain ⟨h3, t3, rfl⟩ := x3.sh
  obtain ⟨h4, t4, rfl⟩ := x4.sh
  exact wpD_of (try_W G Y X S4 hLs hns fun h' t m F => hQ h' t m F)

theorem law_core (G : Ground lawView lawLoose PySem.Challenge.rw_no0403_01.row.records (XL lawView []) w s₀ mg mb s₁.heap) (Y : Wd PySem.Challenge.rw_no0403_01.row.prog w (Kf w.params) mg mb 184 s₁.heap)
    {ax : Nat} {us : List Value} {ks : List Int} (hL : s₁.heap.IsList ax us.toArray) (hI : IntsAre us ks) (hn : us.length ≤ 1000) {Q E : Value → Shared → Prop}
    (hQ : ∀ h' t m L, Fr s₁.heap L h' m → Q (.bool true) { s₁ with heap := h', toks := t }) : wpD true (model PySem.Challenge.rw_no0403_01.row.prog w) callerA (PySem.call (.ref 238) [.ref ax]) Q E s₁ := by
  have ao : AOk (22 + 1) callerA := ⟨rfl, by decide, by decide⟩
  refine wpD_call (fn_open Y (at_238 w.params) (sc_238 w.params) (ar_238 w.params) ((fok14 Y).mono (by decide)) ao (fun _ _ e => e) (.cons (.ref ax) .nil) rfl fun s₂ X S hs => ?_)
  rw [law_env] at X S ⊢
  exact law_body G Y hL hI hn (Nat.le_refl _) (fun h' t m F => hQ h' t m _ F) hs X S
end
end Mine
end

open PySem PySem.W PyProof.Rows PySem.Calls
set_option Elab.async false
namespace Mine
theorem ints_len : ∀ {us : List Value} {ks : List Int}, IntsAre us ks → us.length = ks.length
  | _, _, .nil => rfl
  | _, _, .cons _ _ r => congrArg (· + 1) (ints_len r)
end Mine
set_option maxRecDepth 100000 in
set_option maxHeartbeats 8000000 in
theorem PySem.Challenge.cw_no0403_01_holds : PySem.Challenge.rw_no0403_01.Holds := by
  refine Mine.hd ?_
  intro w s₀ s₁ mg mb G Y a o pm cd doc dV kV ho hod hcd hD hmg hg args vals as hpre hlay hrd hwl hlo
  have KX := kIn_of Y
  refine Ground.open G ?_
  intro T _ _ _ _
  have hlaw := mg_of KX T.g (Mine.gl_law w.params)
  obtain rfl : a = 238 := Value.ref.inj (Option.some.inj (hmg.symm.trans hlaw))
  have Wd : Mine.Wd PySem.Challenge.rw_no0403_01.row.prog w (Mine.Kf w.params) mg mb 184 s₁.heap := ⟨⟨KX, T.g, T.b, T.builtins, T.nolimit⟩, Mine.cls_184 _, by rfl⟩
  wrow_args hpre hlay hrd hwl hlo
  rename Heap.IsList _ _ _ => hL'
  rename IntsAre _ _ => hI'
  rename ¬ _ < _ => hlen'
  have hu := Mine.ints_len hI'
  refine Mine.law_core G Wd hL' hI' (by rw [hu]; omega) fun h' t m L F => ?_
  exact GoodW.toG (goodW_bool F hg (by first | exact fun _ => rfl | exact raisesW_false (by wrow_none_raised)) (by first | rfl | wrow_post))
