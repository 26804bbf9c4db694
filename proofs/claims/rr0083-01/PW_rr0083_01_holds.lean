import PyProof.Rows.All
import Wide.All
import OpenK.AllK
import Lean
import PySem.Challenge.RW_rr0083_01
set_option Elab.async false
set_option maxRecDepth 100000
namespace Mine
open PySem

/-- pure values: data; a thing of the store; a value of the model's own (a def, a class, a built-in); a range -/
inductive V where
  | d (x : PyData)
  | st (n : Nat)
  | val (v : Value)
  | rng (a b : Int)
/-- things that change -/
inductive O where
  | lst (xs : List V)
  | dict (kvs : List (Str × V))
  | inst (c : Addr) (kvs : List (Str × V))
  | junk

abbrev Sto := List O
abbrev Vars := List (Str × V)
abbrev Res (α : Type) := Option (α × Sto)
inductive Fl where
  | next
  | ret (v : V)

structure Lv where
  e : Scope → Vars → Expr → Sto → Res V
  t : Scope → Vars → Expr → Sto → Res Bool
  x : Scope → Stmt → Vars → Sto → Res (Fl × Vars)
  c : Addr → List V → Sto → Res V

/-- the text's own names at the top -/
structure Tab where
  glob : Str → Option V
  fn : Addr → Option (List Str × List Stmt × Scope)
  init : Addr → Option Addr
  meth : Addr → Str → Option Addr
  attr : Addr → Str → Bool

/-! steps, and what a run that came through had to pass -/
noncomputable def ob {α β : Type} (m : Option α) (f : α → Option β) : Option β := Option.rec (motive := fun _ => Option β) none f m
noncomputable def bd {α β : Type} (m : Res α) (f : α → Sto → Res β) : Res β := ob m fun p => f p.1 p.2
noncomputable def br {α : Type} (c : Bool) (a b : α) : α := Bool.rec (motive := fun _ => α) b a c
noncomputable def gd {α : Type} (c : Bool) (m : Option α) : Option α := br c m none
noncomputable def orr {α : Type} (m k : Option α) : Option α := Option.rec (motive := fun _ => Option α) k some m
theorem noneE' {α : Type} {a : α} {P : Prop} (e : (none : Option α) = some a) : P := nomatch e
inductive ObI {α β : Type} (m : Option α) (f : α → Option β) (r : β) : Prop
  | mk (a : α) (e1 : m = some a) (e2 : f a = some r)
inductive BdI {α β : Type} (m : Res α) (f : α → Sto → Res β) (r : β × Sto) : Prop
  | mk (a : α) (σ : Sto) (e1 : m = some (a, σ)) (e2 : f a σ = some r)
theorem ob_inv {α β : Type} {m : Option α} {f : α → Option β} {r : β} (e : ob m f = some r) : ObI m f r := by
  cases m with
  | none => exact noneE' e
  | some a => exact ⟨a, rfl, e⟩
theorem bd_inv {α β : Type} {m : Res α} {f : α → Sto → Res β} {r : β × Sto} (e : bd m f = some r) : BdI m f r := by
  cases m with
  | none => exact noneE' e
  | some a => exact ⟨a.1, a.2, rfl, e⟩
theorem gd_inv {α : Type} {c : Bool} {m : Option α} {r : α} (e : gd c m = some r) : c = true ∧ m = some r := by
  cases c with
  | false => exact noneE' e
  | true => exact ⟨rfl, e⟩
theorem orr_inv {α : Type} {m k : Option α} {r : α} (e : orr m k = some r) : m = some r ∨ k = some r := by
  cases m with
  | none => exact .inr e
  | some a => exact .inl e
theorem some2 {α β : Type} {a a' : α} {b b' : β} {P : α → β → Prop} (h : some (a, b) = some (a', b')) (k : P a b) : P a' b' := by cases h; exact k
theorem some3 {α β γ : Type} {a a' : α} {b b' : β} {c c' : γ} {P : α → β → γ → Prop} (h : some ((a, b), c) = some ((a', b'), c')) (k : P a b c) : P a' b' c' := by cases h; exact k
theorem ob_mk {α β : Type} {m : Option α} {f : α → Option β} {a : α} {r : Option β} (e1 : m = some a) (e2 : f a = r) : ob m f = r := by subst e1; exact e2
theorem bd_mk {α β : Type} {m : Res α} {f : α → Sto → Res β} {a : α} {σ : Sto} {r : Res β} (e1 : m = some (a, σ)) (e2 : f a σ = r) : bd m f = r := by subst e1; exact e2
theorem gd_mk {α : Type} {c : Bool} {m r : Option α} (e1 : c = true) (e2 : m = r) : gd c m = r := by subst e1; exact e2
theorem orr_r {α : Type} {m k r : Option α} (e1 : m = none) (e2 : k = r) : orr m k = r := by subst e1; exact e2

/-! parts of things -/
noncomputable def dNone (d : PyData) : Bool := PyData.casesOn (motive_1 := fun _ => Bool) d true (fun _ => false) (fun _ => false) (fun _ => false) (fun _ => false) (fun _ => false) (fun _ => false)
noncomputable def dBool (d : PyData) : Option Bool := PyData.casesOn (motive_1 := fun _ => Option Bool) d none some (fun _ => none) (fun _ => none) (fun _ => none) (fun _ => none) (fun _ => none)
noncomputable def dInt (d : PyData) : Option Int := PyData.casesOn (motive_1 := fun _ => Option Int) d none (fun _ => none) some (fun _ => none) (fun _ => none) (fun _ => none) (fun _ => none)
noncomputable def dStr (d : PyData) : Option Str := PyData.casesOn (motive_1 := fun _ => Option Str) d none (fun _ => none) (fun _ => none) some (fun _ => none) (fun _ => none) (fun _ => none)
noncomputable def dList (d : PyData) : Option (List PyData) := PyData.casesOn (motive_1 := fun _ => Option (List PyData)) d none (fun _ => none) (fun _ => none) (fun _ => none) some (fun _ => none) (fun _ => none)
noncomputable def dTup (d : PyData) : Option (List PyData) := PyData.casesOn (motive_1 := fun _ => Option (List PyData)) d none (fun _ => none) (fun _ => none) (fun _ => none) (fun _ => none) some (fun _ => none)
theorem dNone_inv {d : PyData} (e : dNone d = true) : d = .none := by cases d <;> first | rfl | exact nomatch e
theorem dBool_inv {d : PyData} {x : Bool} (e : dBool d = some x) : d = .bool x := by cases d <;> first | exact noneE' e | exact congrArg _ (Option.some.inj e)
theorem dInt_inv {d : PyData} {x : Int} (e : dInt d = some x) : d = .int x := by cases d <;> first | exact noneE' e | exact congrArg _ (Option.some.inj e)
theorem dStr_inv {d : PyData} {x : Str} (e : dStr d = some x) : d = .str x := by cases d <;> first | exact noneE' e | exact congrArg _ (Option.some.inj e)
theorem dList_inv {d : PyData} {x : List PyData} (e : dList d = some x) : d = .list x := by cases d <;> first | exact noneE' e | exact congrArg _ (Option.some.inj e)
theorem dTup_inv {d : PyData} {x : List PyData} (e : dTup d = some x) : d = .tuple x := by cases d <;> first | exact noneE' e | exact congrArg _ (Option.some.inj e)
noncomputable def vD (v : V) : Option PyData := V.casesOn (motive := fun _ => Option PyData) v some (fun _ => none) (fun _ => none) (fun _ _ => none)
noncomputable def vSt (v : V) : Option Nat := V.casesOn (motive := fun _ => Option Nat) v (fun _ => none) some (fun _ => none) (fun _ _ => none)
noncomputable def vVal (v : V) : Option Value := V.casesOn (motive := fun _ => Option Value) v (fun _ => none) (fun _ => none) some (fun _ _ => none)
noncomputable def vRng (v : V) : Option (Int × Int) := V.casesOn (motive := fun _ => Option (Int × Int)) v (fun _ => none) (fun _ => none) (fun _ => none) (fun a b => some (a, b))
theorem vD_inv {v : V} {x : PyData} (e : vD v = some x) : v = .d x := by cases v <;> first | exact noneE' e | exact congrArg _ (Option.some.inj e)
theorem vSt_inv {v : V} {x : Nat} (e : vSt v = some x) : v = .st x := by cases v <;> first | exact noneE' e | exact congrArg _ (Option.some.inj e)
theorem vVal_inv {v : V} {x : Value} (e : vVal v = some x) : v = .val x := by cases v <;> first | exact noneE' e | exact congrArg _ (Option.some.inj e)
theorem vRng_inv {v : V} {p : Int × Int} (e : vRng v = some p) : v = .rng p.1 p.2 := by cases v <;> first | exact noneE' e | (cases e; rfl)
noncomputable def intOf (v : V) : Option Int := ob (vD v) dInt
noncomputable def boolOf? (v : V) : Option Bool := ob (vD v) dBool
noncomputable def strOfV (v : V) : Option Str := ob (vD v) dStr
noncomputable def listOf (v : V) : Option (List PyData) := ob (vD v) dList
noncomputable def tupOf (v : V) : Option (List PyData) := ob (vD v) dTup
theorem part_inv {α : Type} {f : PyData → Option α} {c : α → PyData} (h : ∀ {d x}, f d = some x → d = c x) {v : V} {x : α} (e : ob (vD v) f = some x) : v = .d (c x) := by
  obtain ⟨d, e1, e2⟩ := ob_inv e
  rw [vD_inv e1, h e2]
theorem intOf_inv {v : V} {i : Int} (e : intOf v = some i) : v = .d (.int i) := part_inv dInt_inv e
theorem boolOf_inv {v : V} {i : Bool} (e : boolOf? v = some i) : v = .d (.bool i) := part_inv dBool_inv e
theorem strOfV_inv {v : V} {i : Str} (e : strOfV v = some i) : v = .d (.str i) := part_inv dStr_inv e
theorem listOf_inv {v : V} {ds : List PyData} (e : listOf v = some ds) : v = .d (.list ds) := part_inv dList_inv e
theorem tupOf_inv {v : V} {ds : List PyData} (e : tupOf v = some ds) : v = .d (.tuple ds) := part_inv dTup_inv e
noncomputable def oLst (o : O) : Option (List V) := O.casesOn (motive := fun _ => Option (List V)) o some (fun _ => none) (fun _ _ => none) none
noncomputable def oDict (o : O) : Option (List (Str × V)) := O.casesOn (motive := fun _ => Option (List (Str × V))) o (fun _ => none) some (fun _ _ => none) none
noncomputable def oInst (o : O) : Option (Addr × List (Str × V)) := O.casesOn (motive := fun _ => Option (Addr × List (Str × V))) o (fun _ => none) (fun _ => none) (fun c kvs => some (c, kvs)) none
theorem oLst_inv {o : O} {x : List V} (e : oLst o = some x) : o = .lst x := by cases o <;> first | exact noneE' e | exact congrArg _ (Option.some.inj e)
theorem oDict_inv {o : O} {x : List (Str × V)} (e : oDict o = some x) : o = .dict x := by cases o <;> first | exact noneE' e | exact congrArg _ (Option.some.inj e)
theorem oInst_inv {o : O} {x : Addr × List (Str × V)} (e : oInst o = some x) : o = .inst x.1 x.2 := by cases o <;> first | exact noneE' e | (cases e; rfl)
noncomputable def lstAt (σ : Sto) (n : Nat) : Option (List V) := ob σ[n]? oLst
noncomputable def dictAt (σ : Sto) (n : Nat) : Option (List (Str × V)) := ob σ[n]? oDict
noncomputable def instAt (σ : Sto) (n : Nat) : Option (Addr × List (Str × V)) := ob σ[n]? oInst
theorem at_inv {α : Type} {f : O → Option α} {c : α → O} (h : ∀ {d x}, f d = some x → d = c x) {σ : Sto} {n : Nat} {x : α} (e : ob σ[n]? f = some x) : σ[n]? = some (c x) := by
  obtain ⟨d, e1, e2⟩ := ob_inv e
  rw [e1, h e2]
theorem lstAt_inv {σ : Sto} {n : Nat} {x : List V} (e : lstAt σ n = some x) : σ[n]? = some (.lst x) := at_inv oLst_inv e
theorem dictAt_inv {σ : Sto} {n : Nat} {x : List (Str × V)} (e : dictAt σ n = some x) : σ[n]? = some (.dict x) := at_inv oDict_inv e
theorem instAt_inv {σ : Sto} {n : Nat} {x : Addr × List (Str × V)} (e : instAt σ n = some x) : σ[n]? = some (.inst x.1 x.2) := at_inv (c := fun x => .inst x.1 x.2) oInst_inv e
noncomputable def oneOf {α : Type} (l : List α) : Option α := List.casesOn (motive := fun _ => Option α) l none fun a r => List.casesOn (motive := fun _ => Option α) r (some a) fun _ _ => none
noncomputable def twoOf {α : Type} (l : List α) : Option (α × α) := List.casesOn (motive := fun _ => Option (α × α)) l none fun a r => ob (oneOf r) fun b => some (a, b)
theorem oneOf_inv {α : Type} {l : List α} {v : α} (e : oneOf l = some v) : l = [v] := by
  cases l with
  | nil => exact noneE' e
  | cons a r => cases r with
    | nil => cases e; rfl
    | cons b r => exact noneE' e
theorem twoOf_inv {α : Type} {l : List α} {v : α × α} (e : twoOf l = some v) : l = [v.1, v.2] := by
  cases l with
  | nil => exact noneE' e
  | cons a r => obtain ⟨b, e1, e2⟩ := ob_inv e; rw [oneOf_inv e1]; cases e2; rfl
noncomputable def tyOf (v : Value) : Option String := dite (v.ctorIdx = 8) (fun h => Value.type.elim (motive := fun _ => Option String) v h some) fun _ => none
noncomputable def bltOf (v : Value) : Option String := dite (v.ctorIdx = 9) (fun h => Value.builtin.elim (motive := fun _ => Option String) v h some) fun _ => none
noncomputable def refOf (v : Value) : Option Addr := dite (v.ctorIdx = 10) (fun h => Value.ref.elim (motive := fun _ => Option Addr) v h some) fun _ => none
theorem tyOf_inv {v : Value} {c : String} (e : tyOf v = some c) : v = .type c := by
  by_cases k : v.ctorIdx = 8
  · exact Value.type.elim (motive := fun v => tyOf v = some c → v = .type c) v k (fun x e => congrArg _ (Option.some.inj e)) e
  · exact noneE' ((dif_neg k).symm.trans e)
theorem bltOf_inv {v : Value} {c : String} (e : bltOf v = some c) : v = .builtin c := by
  by_cases k : v.ctorIdx = 9
  · exact Value.builtin.elim (motive := fun v => bltOf v = some c → v = .builtin c) v k (fun x e => congrArg _ (Option.some.inj e)) e
  · exact noneE' ((dif_neg k).symm.trans e)
theorem refOf_inv {v : Value} {c : Addr} (e : refOf v = some c) : v = .ref c := by
  by_cases k : v.ctorIdx = 10
  · exact Value.ref.elim (motive := fun v => refOf v = some c → v = .ref c) v k (fun x e => congrArg _ (Option.some.inj e)) e
  · exact noneE' ((dif_neg k).symm.trans e)
/-! parts of the text -/
noncomputable def isSetE (e : Expr) : Bool := e.ctorIdx == 7
noncomputable def isStarE (e : Expr) : Bool := e.ctorIdx == 22
noncomputable def isCallE (e : Expr) : Bool := e.ctorIdx == 16
noncomputable def isCompE (e : Expr) : Bool := e.ctorIdx == 8 || e.ctorIdx == 9 || e.ctorIdx == 10
noncomputable def isTupE (e : Expr) : Bool := e.ctorIdx == 25
noncomputable def isSliceE (e : Expr) : Bool := e.ctorIdx == 26
noncomputable def nameE (e : Expr) : Option Str := dite (e.ctorIdx = 23) (fun h => Expr.Name.elim (motive_1 := fun _ => Option Str) e h fun x _ => some x) fun _ => none
noncomputable def lcE (e : Expr) : Option (Expr × List Comprehension × Scope) := dite (e.ctorIdx = 8) (fun h => Expr.ListComp.elim (motive_1 := fun _ => Option (Expr × List Comprehension × Scope)) e h fun x g s _ => some (x, g, s)) fun _ => none
noncomputable def callE (e : Expr) : Option (Expr × List Expr × List Keyword) := dite (e.ctorIdx = 16) (fun h => Expr.Call.elim (motive_1 := fun _ => Option (Expr × List Expr × List Keyword)) e h fun f a k _ => some (f, a, k)) fun _ => none
noncomputable def fieldE (e : Expr) : Option (Expr × Int × Option Expr) := dite (e.ctorIdx = 17) (fun h => Expr.FormattedValue.elim (motive_1 := fun _ => Option (Expr × Int × Option Expr)) e h fun f a k _ => some (f, a, k)) fun _ => none
noncomputable def constE (e : Expr) : Option Const := dite (e.ctorIdx = 19) (fun h => Expr.Constant.elim (motive_1 := fun _ => Option Const) e h fun c _ _ => some c) fun _ => none
noncomputable def tupE (e : Expr) : Option (List Expr) := dite (e.ctorIdx = 25) (fun h => Expr.Tuple.elim (motive_1 := fun _ => Option (List Expr)) e h fun c _ _ => some c) fun _ => none
noncomputable def sliceE (e : Expr) : Option (Option Expr × Option Expr × Option Expr) := dite (e.ctorIdx = 26) (fun h => Expr.Slice.elim (motive_1 := fun _ => Option (Option Expr × Option Expr × Option Expr)) e h fun a b c _ => some (a, b, c)) fun _ => none
theorem nameE_inv {e : Expr} {x : Str} (q : nameE e = some x) : ∃ p, e = .Name x p := by
  by_cases k : e.ctorIdx = 23
  · exact Expr.Name.elim (motive_1 := fun e => nameE e = some x → ∃ p, e = .Name x p) e k (fun y p q => ⟨p, congrArg (Expr.Name · p) (Option.some.inj q)⟩) q
  · exact noneE' ((dif_neg k).symm.trans q)
theorem lcE_inv {e : Expr} {x : Expr × List Comprehension × Scope} (q : lcE e = some x) : ∃ p, e = .ListComp x.1 x.2.1 x.2.2 p := by
  by_cases k : e.ctorIdx = 8
  · exact Expr.ListComp.elim (motive_1 := fun e => lcE e = some x → ∃ p, e = .ListComp x.1 x.2.1 x.2.2 p) e k (fun _ _ _ p q => ⟨p, congrArg (fun x : Expr × List Comprehension × Scope => Expr.ListComp x.1 x.2.1 x.2.2 p) (Option.some.inj q)⟩) q
  · exact noneE' ((dif_neg k).symm.trans q)
theorem callE_inv {e : Expr} {x : Expr × List Expr × List Keyword} (q : callE e = some x) : ∃ p, e = .Call x.1 x.2.1 x.2.2 p := by
  by_cases k : e.ctorIdx = 16
  · exact Expr.Call.elim (motive_1 := fun e => callE e = some x → ∃ p, e = .Call x.1 x.2.1 x.2.2 p) e k (fun _ _ _ p q => ⟨p, congrArg (fun x : Expr × List Expr × List Keyword => Expr.Call x.1 x.2.1 x.2.2 p) (Option.some.inj q)⟩) q
  · exact noneE' ((dif_neg k).symm.trans q)
theorem fieldE_inv {e : Expr} {x : Expr × Int × Option Expr} (q : fieldE e = some x) : ∃ p, e = .FormattedValue x.1 x.2.1 x.2.2 p := by
  by_cases k : e.ctorIdx = 17
  · exact Expr.FormattedValue.elim (motive_1 := fun e => fieldE e = some x → ∃ p, e = .FormattedValue x.1 x.2.1 x.2.2 p) e k (fun _ _ _ p q => ⟨p, congrArg (fun x : Expr × Int × Option Expr => Expr.FormattedValue x.1 x.2.1 x.2.2 p) (Option.some.inj q)⟩) q
  · exact noneE' ((dif_neg k).symm.trans q)
theorem constE_inv {e : Expr} {x : Const} (q : constE e = some x) : ∃ k p, e = .Constant x k p := by
  by_cases k : e.ctorIdx = 19
  · exact Expr.Constant.elim (motive_1 := fun e => constE e = some x → ∃ k p, e = .Constant x k p) e k (fun _ k p q => ⟨k, p, congrArg (Expr.Constant · k p) (Option.some.inj q)⟩) q
  · exact noneE' ((dif_neg k).symm.trans q)
theorem tupE_inv {e : Expr} {x : List Expr} (q : tupE e = some x) : ∃ k p, e = .Tuple x k p := by
  by_cases k : e.ctorIdx = 25
  · exact Expr.Tuple.elim (motive_1 := fun e => tupE e = some x → ∃ k p, e = .Tuple x k p) e k (fun _ k p q => ⟨k, p, congrArg (Expr.Tuple · k p) (Option.some.inj q)⟩) q
  · exact noneE' ((dif_neg k).symm.trans q)
theorem sliceE_inv {e : Expr} {x : Option Expr × Option Expr × Option Expr} (q : sliceE e = some x) : ∃ p, e = .Slice x.1 x.2.1 x.2.2 p := by
  by_cases k : e.ctorIdx = 26
  · exact Expr.Slice.elim (motive_1 := fun e => sliceE e = some x → ∃ p, e = .Slice x.1 x.2.1 x.2.2 p) e k (fun _ _ _ p q => ⟨p, congrArg (fun x : Option Expr × Option Expr × Option Expr => Expr.Slice x.1 x.2.1 x.2.2 p) (Option.some.inj q)⟩) q
  · exact noneE' ((dif_neg k).symm.trans q)
noncomputable def cStr (c : Const) : Option Str := Const.casesOn (motive := fun _ => Option Str) c none (fun _ => none) (fun _ => none) (fun _ => none) (fun _ _ => none) some (fun _ => none) none
noncomputable def cInt (c : Const) : Option Int := Const.casesOn (motive := fun _ => Option Int) c none (fun _ => none) some (fun _ => none) (fun _ _ => none) (fun _ => none) (fun _ => none) none
noncomputable def cData (c : Const) : Option PyData := Const.casesOn (motive := fun _ => Option PyData) c (some .none) (fun b => some (.bool b)) (fun i => some (.int i)) (fun _ => none) (fun _ _ => none) (fun s => some (.str s)) (fun _ => none) none
theorem cStr_inv {c : Const} {x : Str} (e : cStr c = some x) : c = .str x := by cases c <;> first | exact noneE' e | exact congrArg _ (Option.some.inj e)
theorem cInt_inv {c : Const} {x : Int} (e : cInt c = some x) : c = .int x := by cases c <;> first | exact noneE' e | exact congrArg _ (Option.some.inj e)
noncomputable def strE (e : Expr) : Option Str := ob (constE e) cStr
noncomputable def intE (e : Expr) : Option Int := ob (constE e) cInt
theorem strE_inv {e : Expr} {x : Str} (q : strE e = some x) : ∃ k p, e = .Constant (.str x) k p := by
  obtain ⟨c, e1, e2⟩ := ob_inv q
  obtain ⟨k, p, h⟩ := constE_inv e1
  exact ⟨k, p, by rw [h, cStr_inv e2]⟩
theorem intE_inv {e : Expr} {x : Int} (q : intE e = some x) : ∃ k p, e = .Constant (.int x) k p := by
  obtain ⟨c, e1, e2⟩ := ob_inv q
  obtain ⟨k, p, h⟩ := constE_inv e1
  exact ⟨k, p, by rw [h, cInt_inv e2]⟩

noncomputable def putV {α : Type} (l : List (Str × α)) (x : Str) (v : α) : List (Str × α) :=
  List.rec (motive := fun _ => List (Str × α)) [(x, v)] (fun p r ih => br (p.1 == x) ((p.1, v) :: r) (p :: ih)) l
/-- a dict's store -/
noncomputable def putD (l : List (Str × V)) (x : Str) (v : V) : List (Str × V) :=
  if l.any (fun p => p.1 == x) then l.map (fun p => if p.1 == x then (p.1, v) else p) else l ++ [(x, v)]

noncomputable def numsUp (a : Int) (n : Nat) : List Int := Nat.rec (motive := fun _ => Int → List Int) (fun _ => []) (fun _ ih a => a :: ih (a + 1)) n a

/-- item i of what can be walked: none: cannot; some none: the end -/
noncomputable def itemAt (σ : Sto) (v : V) (i : Nat) : Option (Option V) :=
  V.casesOn (motive := fun _ => Option (Option V)) v
    (fun x => ob (orr (dList x) (dTup x)) fun xs => some (xs[i]?.map .d))
    (fun n => ob (lstAt σ n) fun xs => some xs[i]?)
    (fun _ => none)
    (fun a b => br (decide (a + i < b)) (some (some (.d (.int (a + i))))) (some none))

noncomputable def datas (l : List V) : Option (List PyData) := List.rec (motive := fun _ => Option (List PyData)) (some []) (fun v _ ih => ob (vD v) fun x => ob ih fun r => some (x :: r)) l

/-- the items of a list or tuple, a list of the store too, as data -/
noncomputable def itemsD (σ : Sto) (v : V) : Option (Bool × List PyData) :=
  orr (ob (listOf v) fun xs => some (true, xs)) (orr (ob (tupOf v) fun xs => some (false, xs)) (ob (vSt v) fun n => ob (lstAt σ n) fun xs => ob (datas xs) fun ds => some (true, ds)))

noncomputable def truth (v : V) : Option Bool := boolOf? v

noncomputable def baseOk (e : Expr) : Bool := br (isCallE e) (Option.rec (motive := fun _ => Bool) false (fun c => !((nameE c.1).isSome && c.2.1.isEmpty && c.2.2.isEmpty)) (callE e)) true
noncomputable def okScope (sc : Scope) : Bool := sc.kind == .function && (sc.names.lookup (Str.ofString "__debug__")).isNone && (sc.names.lookup (Str.ofString "__classdict__")).isNone && decide ((sc.names.map (·.1)).Nodup)
noncomputable def canSet (sc : Scope) (x : Str) : Bool := sc.names.lookup x == some .local || sc.names.lookup x == some .cell

noncomputable def small (xs : List PyData) : Bool := Nat.blt xs.length 1000
noncomputable def mid (i : Int) : Bool := decide (-(2 ^ 40) < i) && decide (i < 2 ^ 40)
theorem mid_inv {i : Int} (h : mid i = true) : -(2 ^ 40) < i ∧ i < 2 ^ 40 := by
  have h := Bool.and_eq_true_iff.mp h
  exact ⟨of_decide_eq_true h.1, of_decide_eq_true h.2⟩

noncomputable def bInt (f : Int → Int → Int) (a b : V) (σ : Sto) : Res V := ob (intOf a) fun i => ob (intOf b) fun j => some (.d (.int (f i j)), σ)
noncomputable def bTup (a b : V) (σ : Sto) : Res V := ob (tupOf a) fun xs => ob (tupOf b) fun ys => gd (small xs && small ys) (some (.d (.tuple (xs ++ ys)), σ))
noncomputable def bLst (a b : V) (σ : Sto) : Res V := ob (itemsD σ a) fun p => ob (itemsD σ b) fun q => gd (p.1 && q.1 && (small p.2 && small q.2)) (some (.d (.list (p.2 ++ q.2)), σ))
noncomputable def bMul (a b : V) (σ : Sto) : Res V := ob (intOf a) fun i => ob (intOf b) fun j => gd (mid i && mid j) (some (.d (.int (i * j)), σ))
noncomputable def bRep (a b : V) (σ : Sto) : Res V := ob (tupOf a) fun xs => ob (oneOf xs) fun x => ob (intOf b) fun j => gd (decide (2 ≤ j) && decide (j < 100)) (some (.d (.tuple (List.replicate j.toNat x)), σ))
noncomputable def bMod (a b : V) (σ : Sto) : Res V := ob (intOf a) fun i => ob (intOf b) fun j => gd (decide (0 < j) && mid j) (some (.d (.int (i % j)), σ))
noncomputable def binop (op : Operator) (a b : V) (σ : Sto) : Res V :=
  Operator.casesOn (motive := fun _ => Res V) op (orr (bInt (· + ·) a b σ) (orr (bTup a b σ) (bLst a b σ))) (bInt (· - ·) a b σ) (orr (bMul a b σ) (bRep a b σ)) none none (bMod a b σ) none none none none none none none

noncomputable def shapedD (d : PyData) : Bool := PySem.SeqAt.shaped d

noncomputable def memD (x : PyData) (ds : List PyData) : Option Bool := gd (shapedD (.list ds) && shapedD x) (some (ds.any (fun y => PyData.eqv y x)))
noncomputable def memT (x : PyData) (ds : List PyData) : Option Bool := gd (shapedD (.tuple ds) && shapedD x) (some (ds.any (fun y => PyData.eqv y x)))
noncomputable def strIn (x : PyData) (kvs : List (Str × V)) : Option Bool := ob (dStr x) fun k => some (kvs.lookup k).isSome
noncomputable def inPure (x y : PyData) : Option Bool := orr (ob (dList y) (memD x)) (ob (dTup y) (memT x))
noncomputable def inLst (x : PyData) (b : V) (σ : Sto) : Option Bool := ob (vSt b) fun n => ob (lstAt σ n) fun xs => ob (datas xs) (memD x)
noncomputable def inDict (x : PyData) (b : V) (σ : Sto) : Option Bool := ob (vSt b) fun n => ob (dictAt σ n) (strIn x)
noncomputable def inSeq (a b : V) (σ : Sto) : Option Bool := ob (vD a) fun x => orr (ob (vD b) (inPure x)) (inLst x b σ)
noncomputable def cmpEq (a b : V) : Option Bool := ob (vD a) fun x => ob (vD b) fun y => gd (shapedD x && shapedD y) (some (PyData.eqv x y))
noncomputable def cmpInt (f : Int → Int → Bool) (a b : V) : Option Bool := ob (intOf a) fun i => ob (intOf b) fun j => some (f i j)
noncomputable def isNoneV (v : V) : Bool := Option.rec (motive := fun _ => Bool) false dNone (vD v)
noncomputable def cmpIs (a b : V) : Option Bool := ob (boolOf? b) fun j => orr (ob (boolOf? a) fun i => some (i != j)) (gd (isNoneV a) (some true))
noncomputable def cmpB (op : CmpOp) (a b : V) (σ : Sto) : Option Bool :=
  CmpOp.casesOn (motive := fun _ => Option Bool) op (cmpEq a b) (ob (cmpEq a b) fun c => some !c) (cmpInt (fun i j => decide (i < j)) a b) (cmpInt (fun i j => decide (i ≤ j)) a b) (cmpInt (fun i j => decide (i > j)) a b) none none (cmpIs a b)
    (orr (inSeq a b σ) (ob (vD a) fun x => inDict x b σ)) (ob (inSeq a b σ) fun c => some !c)
noncomputable def cmpop (op : CmpOp) (a b : V) (σ : Sto) : Res Bool := ob (cmpB op a b σ) fun c => some (c, σ)

noncomputable def lenOf (v : V) (σ : Sto) : Option Nat := V.casesOn (motive := fun _ => Option Nat) v (fun x => ob (orr (dList x) (dTup x)) fun xs => some xs.length)
  (fun n => orr (ob (lstAt σ n) fun xs => some xs.length) (ob (dictAt σ n) fun xs => some xs.length)) (fun _ => none) (fun _ _ => none)
noncomputable def lenV (v : V) (σ : Sto) : Option Nat := ob (lenOf v σ) fun n => gd (Nat.blt n 1000) (some n)
noncomputable def isiD (x : PyData) (c : String) : Option Bool := orr (ob (dTup x) fun _ => gd (decide (c = "tuple")) (some true)) (ob (dInt x) fun _ => orr (gd (decide (c = "int")) (some true)) (gd (decide (c = "bool")) (some false)))
noncomputable def isiV (a b : V) : Option Bool := ob (vD a) fun x => ob (vVal b) fun u => ob (tyOf u) (isiD x)
noncomputable def rngOf (args : List V) : Option (Int × Int) := orr (ob (oneOf args) fun a => ob (intOf a) fun i => some (0, i)) (ob (twoOf args) fun p => ob (intOf p.1) fun i => ob (intOf p.2) fun j => some (i, j))
noncomputable def strPair (d : PyData) : Option (Str × PyData) := ob (dTup d) fun xs => ob (twoOf xs) fun p => ob (dStr p.1) fun k => some (k, p.2)
noncomputable def oddPair (d : PyData) : Option PyData := ob (dTup d) fun xs => ob (twoOf xs) fun p => ob (dTup p.1) fun ys => ob (oneOf ys) fun z => ob (dInt z) fun i => gd (i == 0) (some p.2)
noncomputable def dictD (ds : List PyData) (σ : Sto) : Res V := orr (ob (oneOf ds) fun a => ob (oddPair a) fun _ => some (.st σ.length, σ ++ [.junk]))
  (ob (twoOf ds) fun p => ob (strPair p.1) fun a => ob (strPair p.2) fun b => gd (!(a.1 == b.1)) (some (.st σ.length, σ ++ [.dict [(a.1, .d a.2), (b.1, .d b.2)]])))
noncomputable def callIsi (args : List V) (σ : Sto) : Res V := ob (twoOf args) fun p => ob (isiV p.1 p.2) fun c => some (.d (.bool c), σ)
noncomputable def callLen (args : List V) (σ : Sto) : Res V := ob (oneOf args) fun v => ob (lenV v σ) fun n => some (.d (.int (n : Int)), σ)
noncomputable def callAbs (args : List V) (σ : Sto) : Res V := ob (oneOf args) fun v => ob (intOf v) fun i => some (.d (.int (i.natAbs : Int)), σ)
noncomputable def callId (id : String) (args : List V) (σ : Sto) : Res V := orr (gd (decide (id = "isinstance")) (callIsi args σ)) (orr (gd (decide (id = "len")) (callLen args σ)) (gd (decide (id = "abs")) (callAbs args σ)))
noncomputable def callRng (args : List V) (σ : Sto) : Res V := ob (rngOf args) fun p => gd (mid p.1 && mid p.2) (some (.rng p.1 p.2, σ))
noncomputable def callTup (args : List V) (σ : Sto) : Res V := ob (oneOf args) fun v => ob (itemsD σ v) fun p => gd (p.1 && small p.2) (some (.d (.tuple p.2), σ))
noncomputable def callLst (args : List V) (σ : Sto) : Res V := ob (oneOf args) fun v => ob (vRng v) fun p => gd (decide (p.2 - p.1 < 1000) && (mid p.1 && mid p.2)) (some (.d (.list ((numsUp p.1 (p.2 - p.1).toNat).map .int)), σ))
noncomputable def callDict (args : List V) (σ : Sto) : Res V := ob (oneOf args) fun v => ob (listOf v) fun ds => dictD ds σ
noncomputable def callTy (c : String) (args : List V) (σ : Sto) : Res V :=
  orr (gd (decide (c = "range")) (callRng args σ)) (orr (gd (decide (c = "tuple")) (callTup args σ)) (orr (gd (decide (c = "list")) (callLst args σ)) (gd (decide (c = "dict")) (callDict args σ))))
noncomputable def callBlt (f : Value) (args : List V) (σ : Sto) : Res V := orr (ob (bltOf f) fun id => callId id args σ) (ob (tyOf f) fun c => callTy c args σ)

noncomputable def notVal (v : V) : Bool := V.casesOn (motive := fun _ => Bool) v (fun _ => true) (fun _ => true) (fun _ => false) (fun _ _ => false)
noncomputable def getAttrO (T : Tab) (ov : V) (name : Str) (σ : Sto) : Option V := ob (vSt ov) fun n => ob (instAt σ n) fun p => gd (T.attr p.1 name) (ob (p.2.lookup name) fun v => gd (notVal v) (some v))

noncomputable def subInt (a : V) (i : Nat) (σ : Sto) : Option V := V.casesOn (motive := fun _ => Option V) a (fun x => ob (orr (dList x) (dTup x)) fun xs => xs[i]?.map .d) (fun n => ob (lstAt σ n) fun xs => xs[i]?) (fun _ => none) (fun _ _ => none)
noncomputable def subStr (a : V) (k : Str) (σ : Sto) : Option V := ob (vSt a) fun n => ob (dictAt σ n) fun kvs => kvs.lookup k
noncomputable def subscr (a b : V) (σ : Sto) : Option V := orr (ob (intOf b) fun i => gd (decide (0 ≤ i) && decide (i < 1000)) (subInt a i.toNat σ)) (ob (strOfV b) fun k => subStr a k σ)

noncomputable def seqE (e : Expr → Sto → Res V) (xs : List Expr) : Sto → Res (List V) :=
  List.rec (motive := fun _ => Sto → Res (List V)) (fun σ => some ([], σ)) (fun x _ ih σ => gd (!isStarE x) (bd (e x σ) fun v σ => bd (ih σ) fun vs σ => some (v :: vs, σ))) xs
inductive SeqI (e : Expr → Sto → Res V) (x : Expr) (r : List Expr) (σ : Sto) : List V → Sto → Prop
  | mk (v : V) (vs : List V) (σ₁ σ₂ : Sto) : (!isStarE x) = true → e x σ = some (v, σ₁) → seqE e r σ₁ = some (vs, σ₂) → SeqI e x r σ (v :: vs) σ₂
theorem seqE_inv {e : Expr → Sto → Res V} {x : Expr} {r : List Expr} {σ σ' : Sto} {us : List V} (h : seqE e (x :: r) σ = some (us, σ')) : SeqI e x r σ us σ' := by
  have h : (gd (!isStarE x) (bd (e x σ) fun v σ => bd (seqE e r σ) fun vs σ => some (v :: vs, σ))) = some (us, σ') := h
  obtain ⟨hs, h⟩ := gd_inv h
  obtain ⟨v, σ₁, e1, h⟩ := bd_inv h
  obtain ⟨vs, σ₂, e2, h⟩ := bd_inv h
  exact some2 h ⟨_, _, _, _, hs, e1, e2⟩
/-- go on, or hand a return on -/
noncomputable def goOn (p : Fl × Vars) (k : Vars → Sto → Res (Fl × Vars)) (σ : Sto) : Res (Fl × Vars) := Fl.casesOn (motive := fun _ => Res (Fl × Vars)) p.1 (k p.2 σ) fun v => some ((.ret v, p.2), σ)
noncomputable def seqS (x : Stmt → Vars → Sto → Res (Fl × Vars)) (xs : List Stmt) : Vars → Sto → Res (Fl × Vars) :=
  List.rec (motive := fun _ => Vars → Sto → Res (Fl × Vars)) (fun fr σ => some ((.next, fr), σ)) (fun s _ ih fr σ => bd (x s fr σ) fun p σ => goOn p ih σ) xs

inductive RunI (f : Vars → Sto → Res (Fl × Vars)) (k : Vars → Sto → Res (Fl × Vars)) (fr : Vars) (σ : Sto) : Fl → Vars → Sto → Prop
  | next (fr₁ fr₂ : Vars) (σ₁ σ₂ : Sto) (fl : Fl) : f fr σ = some ((.next, fr₁), σ₁) → k fr₁ σ₁ = some ((fl, fr₂), σ₂) → RunI f k fr σ fl fr₂ σ₂
  | ret (v : V) (fr₁ : Vars) (σ₁ : Sto) : f fr σ = some ((.ret v, fr₁), σ₁) → RunI f k fr σ (.ret v) fr₁ σ₁
theorem run_inv {f k : Vars → Sto → Res (Fl × Vars)} {fr fr' : Vars} {σ σ' : Sto} {fl : Fl} (h : (bd (f fr σ) fun p σ => goOn p k σ) = some ((fl, fr'), σ')) : RunI f k fr σ fl fr' σ' := by
  obtain ⟨⟨l, fr₁⟩, σ₁, e1, h⟩ := bd_inv h
  cases l with
  | next => exact .next _ _ _ _ _ e1 h
  | ret v => exact some3 h (.ret _ _ _ e1)
theorem seqS_inv {x : Stmt → Vars → Sto → Res (Fl × Vars)} {s : Stmt} {r : List Stmt} {fr fr' : Vars} {σ σ' : Sto} {fl : Fl} (h : seqS x (s :: r) fr σ = some ((fl, fr'), σ')) : RunI (x s) (seqS x r) fr σ fl fr' σ' := run_inv h

noncomputable def allT (t : Expr → Sto → Res Bool) (isAnd : Bool) (xs : List Expr) : Sto → Res Bool :=
  List.rec (motive := fun _ => Sto → Res Bool) (fun σ => some (isAnd, σ)) (fun x _ ih σ => bd (t x σ) fun b σ => br (b == isAnd) (ih σ) (some (!isAnd, σ))) xs

/-- a target's names get a value's parts -/
noncomputable def bindAll (sc : Scope) (ts : List Expr) : List V → Vars → Option Vars :=
  List.rec (motive := fun _ => List V → Vars → Option Vars) (fun vs fr => List.casesOn (motive := fun _ => Option Vars) vs (some fr) fun _ _ => none)
    (fun t _ ih vs fr => ob (nameE t) fun x => gd (canSet sc x) (List.casesOn (motive := fun _ => Option Vars) vs none fun v vs => ih vs (putV fr x v))) ts
noncomputable def namesApart (ts : List Expr) : List Str → Bool :=
  List.rec (motive := fun _ => List Str → Bool) (fun _ => true) (fun t _ ih l => Option.rec (motive := fun _ => Bool) false (fun x => !l.contains x && ih (x :: l)) (nameE t)) ts

/-- a loop over what can be walked: at most m turns -/
noncomputable def forGo (v : V) (bind : V → Vars → Option Vars) (body : Vars → Sto → Res (Fl × Vars)) (m : Nat) : Nat → Vars → Sto → Res (Fl × Vars) :=
  Nat.rec (motive := fun _ => Nat → Vars → Sto → Res (Fl × Vars)) (fun _ _ _ => none)
    (fun _ ih i fr σ => ob (itemAt σ v i) fun o => Option.rec (motive := fun _ => Res (Fl × Vars)) (some ((.next, fr), σ)) (fun x => ob (bind x fr) fun fr => bd (body fr σ) fun p σ => goOn p (ih (i + 1)) σ) o) m

inductive ForI (v : V) (bind : V → Vars → Option Vars) (body : Vars → Sto → Res (Fl × Vars)) (m i : Nat) (fr : Vars) (σ : Sto) : Fl → Vars → Sto → Prop
  | stop : itemAt σ v i = some none → ForI v bind body m i fr σ .next fr σ
  | turn (x : V) (fr₁ fr' : Vars) (fl : Fl) (σ' : Sto) : itemAt σ v i = some (some x) → bind x fr = some fr₁ → RunI body (forGo v bind body m (i + 1)) fr₁ σ fl fr' σ' → ForI v bind body m i fr σ fl fr' σ'
theorem forGo_inv {v : V} {bind : V → Vars → Option Vars} {body : Vars → Sto → Res (Fl × Vars)} {m i : Nat} {fr fr' : Vars} {σ σ' : Sto} {fl : Fl} (h : forGo v bind body (m + 1) i fr σ = some ((fl, fr'), σ')) : ForI v bind body m i fr σ fl fr' σ' := by
  have h : (ob (itemAt σ v i) fun o => Option.rec (motive := fun _ => Res (Fl × Vars)) (some ((.next, fr), σ)) (fun x => ob (bind x fr) fun fr => bd (body fr σ) fun p σ => goOn p (forGo v bind body m (i + 1)) σ) o) = some ((fl, fr'), σ') := h
  obtain ⟨o, e1, h⟩ := ob_inv h
  cases o with
  | none => exact some3 h (.stop e1)
  | some x =>
    obtain ⟨fr₁, e2, h⟩ := ob_inv h
    exact .turn _ _ _ _ _ e1 e2 (run_inv h)

noncomputable def whileGo (test : Vars → Sto → Res Bool) (body : Vars → Sto → Res (Fl × Vars)) (m : Nat) : Vars → Sto → Res (Fl × Vars) :=
  Nat.rec (motive := fun _ => Vars → Sto → Res (Fl × Vars)) (fun _ _ => none)
    (fun _ ih fr σ => bd (test fr σ) fun b σ => br b (bd (body fr σ) fun p σ => goOn p ih σ) (some ((.next, fr), σ))) m

inductive WhileI (test : Vars → Sto → Res Bool) (body : Vars → Sto → Res (Fl × Vars)) (m : Nat) (fr : Vars) (σ : Sto) : Fl → Vars → Sto → Prop
  | stop (σ₁ : Sto) : test fr σ = some (false, σ₁) → WhileI test body m fr σ .next fr σ₁
  | turn (σ₁ : Sto) (fr' : Vars) (fl : Fl) (σ' : Sto) : test fr σ = some (true, σ₁) → RunI body (whileGo test body m) fr σ₁ fl fr' σ' → WhileI test body m fr σ fl fr' σ'
theorem whileGo_inv {test : Vars → Sto → Res Bool} {body : Vars → Sto → Res (Fl × Vars)} {m : Nat} {fr fr' : Vars} {σ σ' : Sto} {fl : Fl} (h : whileGo test body (m + 1) fr σ = some ((fl, fr'), σ')) : WhileI test body m fr σ fl fr' σ' := by
  have h : (bd (test fr σ) fun b σ => br b (bd (body fr σ) fun p σ => goOn p (whileGo test body m) σ) (some ((.next, fr), σ))) = some ((fl, fr'), σ') := h
  obtain ⟨b, σ₁, e1, h⟩ := bd_inv h
  cases b with
  | false => exact some3 h (.stop _ e1)
  | true => exact .turn _ _ _ _ e1 (run_inv h)

/-- a clause's turns: the walked thing, the turn (it hands on what is gathered) -/
noncomputable def compGo (v : V) (turn : V → Sto → List PyData → Res (List PyData)) (m : Nat) : Nat → Sto → List PyData → Res (List PyData) :=
  Nat.rec (motive := fun _ => Nat → Sto → List PyData → Res (List PyData)) (fun _ _ _ => none)
    (fun _ ih i σ acc => ob (itemAt σ v i) fun o => Option.rec (motive := fun _ => Res (List PyData)) (some (acc, σ)) (fun x => bd (turn x σ acc) fun acc σ => ih (i + 1) σ acc) o) m

inductive CompI (v : V) (turn : V → Sto → List PyData → Res (List PyData)) (m i : Nat) (σ : Sto) (acc : List PyData) : List PyData → Sto → Prop
  | stop : itemAt σ v i = some none → CompI v turn m i σ acc acc σ
  | turn (x : V) (acc₁ acc' : List PyData) (σ₁ σ' : Sto) : itemAt σ v i = some (some x) → turn x σ acc = some (acc₁, σ₁) → compGo v turn m (i + 1) σ₁ acc₁ = some (acc', σ') → CompI v turn m i σ acc acc' σ'
theorem compGo_inv {v : V} {turn : V → Sto → List PyData → Res (List PyData)} {m i : Nat} {σ σ' : Sto} {acc acc' : List PyData} (h : compGo v turn (m + 1) i σ acc = some (acc', σ')) : CompI v turn m i σ acc acc' σ' := by
  have h : (ob (itemAt σ v i) fun o => Option.rec (motive := fun _ => Res (List PyData)) (some (acc, σ)) (fun x => bd (turn x σ acc) fun acc σ => compGo v turn m (i + 1) σ acc) o) = some (acc', σ') := h
  obtain ⟨o, e1, h⟩ := ob_inv h
  cases o with
  | none => exact some2 h (.stop e1)
  | some x =>
    obtain ⟨acc₁, σ₁, e2, h⟩ := bd_inv h
    exact .turn _ _ _ _ _ e1 e2 h

noncomputable def turnsMost : Nat := 100

/-- what a turn does once its tests came true: gather, or go into the next clause -/
noncomputable def turnIn (L : Lv) (sc : Scope) (elt : Expr) (nxt : Option Comprehension) (rest : Vars → V → Sto → List PyData → Res (List PyData)) (fr : Vars) (σ : Sto) (acc : List PyData) : Res (List PyData) :=
  Option.rec (motive := fun _ => Res (List PyData)) (bd (L.e sc fr elt σ) fun u σ => ob (vD u) fun r => gd (small acc) (some (acc ++ [r], σ))) (fun g => bd (L.e sc fr g.iter σ) fun u σ => rest fr u σ acc) nxt
noncomputable def turnC (L : Lv) (sc : Scope) (elt : Expr) (x : Str) (ifs : List Expr) (nxt : Option Comprehension) (rest : Vars → V → Sto → List PyData → Res (List PyData)) (fr : Vars) (y : V) (σ : Sto) (acc : List PyData) : Res (List PyData) :=
  bd (allT (L.t sc (putV fr x y)) true ifs σ) fun b σ => br b (turnIn L sc elt nxt rest (putV fr x y) σ acc) (some (acc, σ))
/-- one clause; the next one; what the clauses behind it do -/
noncomputable def compOne (L : Lv) (sc : Scope) (elt : Expr) (c : Comprehension) (nxt : Option Comprehension) (rest : Vars → V → Sto → List PyData → Res (List PyData)) (fr : Vars) (v : V) (σ : Sto) (acc : List PyData) : Res (List PyData) :=
  ob (nameE c.target) fun x => gd (c.is_async == 0 && !(!canSet sc x || isSetE c.iter || (fr.lookup x).isSome)) (compGo v (turnC L sc elt x c.ifs nxt rest fr) turnsMost 0 σ acc)
noncomputable def compAll (L : Lv) (sc : Scope) (elt : Expr) (gs : List Comprehension) : Vars → V → Sto → List PyData → Res (List PyData) :=
  List.rec (motive := fun _ => Vars → V → Sto → List PyData → Res (List PyData)) (fun _ _ _ _ => none) (fun g gs ih fr v σ acc => compOne L sc elt g gs.head? ih fr v σ acc) gs

noncomputable def keysOf (ks : List (Option Expr)) : Option (List Str) := List.rec (motive := fun _ => Option (List Str)) (some []) (fun k _ ih => ob k fun e => ob (strE e) fun s => ob ih fun r => some (s :: r)) ks

noncomputable def pairUp (xs : List PyData) : List PyData → List PyData :=
  List.rec (motive := fun _ => List PyData → List PyData) (fun _ => []) (fun x _ ih ys => List.casesOn (motive := fun _ => List PyData) ys [] fun y ys => .tuple [x, y] :: ih ys) xs

noncomputable def strOf (d : PyData) : Option Str := orr (dStr d) (ob (dInt d) fun i => gd (decide (-(10 ^ 6) < i) && decide (i < 10 ^ 6)) (some (Str.ofString (toString i))))

/-- the parts of an f-string -/
noncomputable def fparts (e : Expr → Sto → Res V) (xs : List Expr) : Sto → Res Str :=
  List.rec (motive := fun _ => Sto → Res Str) (fun σ => some (Str.empty, σ)) (fun x _ ih σ => orr (ob (strE x) fun s => bd (ih σ) fun u σ => some (s ++ u, σ))
    (ob (fieldE x) fun c => gd (c.2.1 == -1 && c.2.2.isNone) (bd (e c.1 σ) fun v σ => ob (vD v) fun y => ob (strOf y) fun s => bd (ih σ) fun u σ => some (s ++ u, σ)))) xs

/-- a comprehension's free names have their cells -/
noncomputable def okFree (sc : Scope) (fr : Vars) (scope : Scope) : Bool := scope.names.all fun p => !(p.2 == .free) || (sc.names.lookup p.1 == some .cell || (sc.names.lookup p.1 == some .free && (fr.lookup p.1).isSome))

noncomputable def compE (L : Lv) (sc : Scope) (fr : Vars) (elt : Expr) (gens : List Comprehension) (scope : Scope) (σ : Sto) : Res V :=
  ob gens.head? fun g => gd (okScope scope && okFree sc fr scope) (bd (L.e sc fr g.iter σ) fun v σ => bd (compAll L scope elt gens (fr.filter fun p => scope.names.lookup p.1 == some .free) v σ []) fun acc σ => some (.d (.list acc), σ))
noncomputable def asgV (L : Lv) (sc : Scope) (fr : Vars) (v : Expr) (σ : Sto) : Res V := br (isCompE v) (ob (lcE v) fun c => compE L sc fr c.1 c.2.1 c.2.2 σ) (L.e sc fr v σ)

noncomputable def zipBind (x y : Str) (u : V) (fr : Vars) : Option Vars := ob (tupOf u) fun xs => ob (twoOf xs) fun p => some (putV (putV fr x (.d p.1)) y (.d p.2))
noncomputable def forZ (L : Lv) (sc : Scope) (x y : Str) (f p q : Expr) (b : List Stmt) (fr : Vars) (σ : Sto) : Res (Fl × Vars) :=
  gd (canSet sc x && canSet sc y && !isStarE p && !isStarE q && !(x == y)) (bd (L.e sc fr f σ) fun z σ => ob (vVal z) fun z => ob (tyOf z) fun c => gd (decide (c = "zip")) (
    bd (L.e sc fr p σ) fun u σ => ob (listOf u) fun us => bd (L.e sc fr q σ) fun v σ => ob (listOf v) fun vs => forGo (.d (.list (pairUp us vs))) (zipBind x y) (seqS (L.x sc) b) turnsMost 0 fr σ))
noncomputable def forT (L : Lv) (sc : Scope) (ts : List Expr) (it : Expr) (b : List Stmt) (fr : Vars) (σ : Sto) : Res (Fl × Vars) :=
  ob (twoOf ts) fun t => ob (nameE t.1) fun x => ob (nameE t.2) fun y => ob (callE it) fun c => gd ((nameE c.1).isSome && c.2.2.isEmpty) (ob (twoOf c.2.1) fun a => forZ L sc x y c.1 a.1 a.2 b fr σ)

noncomputable def subTo (e : Expr → Sto → Res V) (v : Expr) (k : Int) (σ : Sto) : Res V := bd (e v σ) fun a σ => ob (listOf a) fun xs => gd (decide (0 ≤ k) && decide (k < 1000) && small xs) (some (.d (.list (xs.take k.toNat)), σ))
noncomputable def subFrom (e : Expr → Sto → Res V) (v : Expr) (k : Int) (σ : Sto) : Res V := bd (e v σ) fun a σ => ob (tupOf a) fun xs => gd (decide (1 ≤ k) && decide (k ≤ xs.length) && small xs) (some (.d (.tuple (xs.drop k.toNat)), σ))
noncomputable def subAt (e : Expr → Sto → Res V) (v i : Expr) (σ : Sto) : Res V := bd (e v σ) fun a σ => bd (e i σ) fun b σ => ob (subscr a b σ) fun v => some (v, σ)
noncomputable def subE (e : Expr → Sto → Res V) (v i : Expr) (σ : Sto) : Res V :=
  br (isSliceE i) (ob (sliceE i) fun s => gd s.2.2.isNone (orr (gd s.1.isNone (ob s.2.1 fun c => ob (intE c) fun k => subTo e v k σ)) (gd s.2.1.isNone (ob s.1 fun c => ob (intE c) fun k => subFrom e v k σ)))) (subAt e v i σ)

noncomputable def asgVs (e : Expr → Sto → Res V) (sc : Scope) (ts vs : List Expr) (fr : Vars) (σ : Sto) : Res (Fl × Vars) :=
  gd (!(vs.all (constantsAlone 8) || !Nat.blt vs.length 1000)) (bd (seqE e vs σ) fun us σ => ob (bindAll sc ts us fr) fun fr => some ((.next, fr), σ))
noncomputable def asgU (e : Expr → Sto → Res V) (sc : Scope) (ts : List Expr) (v : Expr) (fr : Vars) (σ : Sto) : Res (Fl × Vars) :=
  bd (e v σ) fun u σ => ob (vD u) fun x => ob (orr (dTup x) (dList x)) fun xs => ob (bindAll sc ts (xs.map .d) fr) fun fr => some ((.next, fr), σ)
noncomputable def asgT (e : Expr → Sto → Res V) (sc : Scope) (ts : List Expr) (v : Expr) (fr : Vars) (σ : Sto) : Res (Fl × Vars) :=
  gd (namesApart ts []) (br (isTupE v) (ob (tupE v) fun vs => asgVs e sc ts vs fr σ) (asgU e sc ts v fr σ))

/-! the evaluator's cases -/
section
variable (T : Tab) (L : Lv) (sc : Scope) (fr : Vars)
noncomputable def eName (x : Str) (σ : Sto) : Res V := ob (sc.names.lookup x) fun k =>
  NameKind.casesOn (motive := fun _ => Res V) k (ob (fr.lookup x) fun v => some (v, σ)) (ob (fr.lookup x) fun v => some (v, σ)) (ob (fr.lookup x) fun v => some (v, σ)) none (ob (T.glob x) fun v => some (v, σ))
noncomputable def eNot (x : Expr) (σ : Sto) : Res V := bd (L.e sc fr x σ) fun v σ => ob (truth v) fun b => some (.d (.bool !b), σ)
noncomputable def eBool (op : BoolOp) (x y : Expr) (σ : Sto) : Res V := bd (L.e sc fr x σ) fun v σ => ob (truth v) fun b => br (b == BoolOp.casesOn (motive := fun _ => Bool) op true false) (L.e sc fr y σ) (some (v, σ))
noncomputable def eCmp (op : CmpOp) (l r : Expr) (σ : Sto) : Res V := gd (!isSetE r) (bd (L.e sc fr l σ) fun a σ => bd (L.e sc fr r σ) fun b σ => bd (cmpop op a b σ) fun c σ => some (.d (.bool c), σ))
noncomputable def eSeq (mk : List PyData → PyData) (xs : List Expr) (σ : Sto) : Res V := bd (seqE (L.e sc fr) xs σ) fun vs σ => ob (datas vs) fun ds => gd (small ds) (some (.d (mk ds), σ))
noncomputable def eDict (ks : List (Option Expr)) (vs : List Expr) (σ : Sto) : Res V := ob (keysOf ks) fun ks => bd (seqE (L.e sc fr) vs σ) fun vs σ => gd (ks.length == vs.length && ks.length < 10 && ks.Nodup) (some (.st σ.length, σ ++ [.dict (ks.zip vs)]))
/-- a class is called -/
noncomputable def callCls (a fi : Addr) (vs : List V) (σ : Sto) : Res V := gd (T.fn fi).isSome (bd (L.c fi (.st σ.length :: vs) (σ ++ [.inst a []])) fun v σ' => ob (vD v) fun d => gd (dNone d) (some (.st σ.length, σ')))
/-- what a call of a thing by its name comes to -/
noncomputable def callV (f : Value) (vs : List V) (σ : Sto) : Res V :=
  Option.rec (motive := fun _ => Res V) (callBlt f vs σ) (fun a => Option.rec (motive := fun _ => Res V) (gd (T.fn a).isSome (L.c a vs σ)) (fun fi => callCls T L a fi vs σ) (T.init a)) (refOf f)
noncomputable def eCallN (f : Expr) (args : List Expr) (σ : Sto) : Res V := gd (Nat.blt args.length 10) (bd (L.e sc fr f σ) fun g σ => ob (vVal g) fun g => bd (seqE (L.e sc fr) args σ) fun vs σ => callV T L g vs σ)
noncomputable def eApp (n : Nat) (args : List Expr) (σ : Sto) : Res V := bd (seqE (L.e sc fr) args σ) fun vs σ => ob (oneOf vs) fun v => ob (lstAt σ n) fun xs => gd (Nat.blt xs.length 1000) (some (.d .none, σ.set n (.lst (xs ++ [v]))))
noncomputable def eMeth (n : Nat) (p : Addr × List (Str × V)) (name : Str) (args : List Expr) (σ : Sto) : Res V := gd (p.2.lookup name).isNone (ob (T.meth p.1 name) fun f => gd (T.fn f).isSome (bd (seqE (L.e sc fr) args σ) fun vs σ => L.c f (.st n :: vs) σ))
noncomputable def eCallA (o : Expr) (name : Str) (args : List Expr) (σ : Sto) : Res V := bd (L.e sc fr o σ) fun u σ => ob (vSt u) fun n => orr (ob (lstAt σ n) fun _ => gd (name == Str.ofString "append") (eApp L sc fr n args σ)) (ob (instAt σ n) fun p => eMeth T L sc fr n p name args σ)
noncomputable def eAttr (o : Expr) (name : Str) (σ : Sto) : Res V := gd (baseOk o) (bd (L.e sc fr o σ) fun ov σ => ob (getAttrO T ov name σ) fun v => some (v, σ))
noncomputable def eJoin (xs : List Expr) (σ : Sto) : Res V := gd (Nat.blt 1 xs.length) (bd (fparts (L.e sc fr) xs σ) fun s σ => gd (Nat.blt s.cps.size 1000) (some (.d (.str s), σ)))
noncomputable def eCall (f : Expr) (args : List Expr) (p : Pos) (σ : Sto) : Res V :=
  orr (ob (nameE f) fun _ => eCallN T L sc fr f args σ) (dite (f.ctorIdx = 20) (fun h => Expr.Attribute.elim (motive_1 := fun _ => Res V) f h fun o name ap => gd (ap.endLine == p.line && Nat.blt args.length 10 && baseOk o) (eCallA T L sc fr o name args σ)) fun _ => none)
noncomputable def tNot (x : Expr) (σ : Sto) : Res Bool := bd (L.t sc fr x σ) fun b σ => some (!b, σ)
noncomputable def tCmp (op : CmpOp) (l r : Expr) (σ : Sto) : Res Bool := gd (!isSetE r) (bd (L.e sc fr l σ) fun a σ => bd (L.e sc fr r σ) fun b σ => cmpop op a b σ)
noncomputable def tCmp2 (op op' : CmpOp) (l r r' : Expr) (σ : Sto) : Res Bool := gd (!isSetE r') (bd (L.e sc fr l σ) fun a σ => bd (L.e sc fr r σ) fun b σ => bd (cmpop op a b σ) fun c σ => br c (bd (L.e sc fr r' σ) fun c σ => cmpop op' b c σ) (some (false, σ)))
noncomputable def tCmps (l : Expr) (ops : List CmpOp) (rs : List Expr) (σ : Sto) : Res Bool :=
  orr (ob (oneOf ops) fun op => ob (oneOf rs) fun r => tCmp L sc fr op l r σ) (ob (twoOf ops) fun op => ob (twoOf rs) fun r => tCmp2 L sc fr op.1 op.2 l r.1 r.2 σ)
noncomputable def tPlain (x : Expr) (σ : Sto) : Res Bool := bd (L.e sc fr x σ) fun v σ => ob (truth v) fun b => some (b, σ)
noncomputable def isNextD (d : PyData) : Bool := dNone d || (dInt d).isSome
noncomputable def xExpr (v : Expr) (σ : Sto) : Res (Fl × Vars) := gd (isCallE v) (bd (L.e sc fr v σ) fun u σ => ob (vD u) fun d => gd (isNextD d) (some ((.next, fr), σ)))
noncomputable def xRet (v : Expr) (σ : Sto) : Res (Fl × Vars) := bd (L.e sc fr v σ) fun v σ => some ((.ret v, fr), σ)
noncomputable def xAsgN (x : Str) (v : Expr) (σ : Sto) : Res (Fl × Vars) := gd (canSet sc x) (bd (asgV L sc fr v σ) fun v σ => some ((.next, putV fr x v), σ))
noncomputable def xAsgA (o : Expr) (name : Str) (v : Expr) (σ : Sto) : Res (Fl × Vars) := bd (L.e sc fr v σ) fun v σ => bd (L.e sc fr o σ) fun u σ => ob (vSt u) fun n => ob (instAt σ n) fun p => gd (T.attr p.1 name && Nat.blt p.2.length 1000) (some ((.next, fr), σ.set n (.inst p.1 (putD p.2 name v))))
noncomputable def xAsgS (o i v : Expr) (σ : Sto) : Res (Fl × Vars) := bd (L.e sc fr v σ) fun v σ => bd (L.e sc fr o σ) fun u σ => ob (vSt u) fun n => bd (L.e sc fr i σ) fun k σ => ob (strOfV k) fun k => ob (dictAt σ n) fun kvs => gd (Nat.blt kvs.length 1000) (some ((.next, fr), σ.set n (.dict (putD kvs k v))))
noncomputable def xIf (t : Expr) (b o : List Stmt) (σ : Sto) : Res (Fl × Vars) := bd (L.t sc fr t σ) fun c σ => br c (seqS (L.x sc) b fr σ) (seqS (L.x sc) o fr σ)
noncomputable def forBind (x : Str) : V → Vars → Option Vars := fun y fr => some (putV fr x y)
noncomputable def xForN (x : Str) (it : Expr) (b : List Stmt) (σ : Sto) : Res (Fl × Vars) := gd (canSet sc x && !isSetE it) (bd (L.e sc fr it σ) fun v σ => forGo v (forBind x) (seqS (L.x sc) b) turnsMost 0 fr σ)
noncomputable def none1 {α β : Type} : α → Option β := fun _ => none
noncomputable def none2 {α β γ : Type} : α → β → Option γ := fun _ _ => none
noncomputable def none3 {α β γ δ : Type} : α → β → γ → Option δ := fun _ _ _ => none
noncomputable def none4 {α β γ δ ε : Type} : α → β → γ → δ → Option ε := fun _ _ _ _ => none
noncomputable def xAsg (t v : Expr) (σ : Sto) : Res (Fl × Vars) :=
  Expr.casesOn (motive_1 := fun _ => Res (Fl × Vars)) t none3 none3 none4 none3 none4 none4 none3 none3 none4 none4 (fun _ _ _ _ _ => none) none4 none2 none2 none2 none4 none4 none4 none2 none3
    (fun o name _ => xAsgA T L sc fr o name v σ) (fun o i _ => xAsgS L sc fr o i v σ) none2 (fun x _ => xAsgN L sc fr x v σ) none2 (fun ts _ _ => asgT (L.e sc fr) sc ts v fr σ) none4
noncomputable def xFor (t it : Expr) (b : List Stmt) (σ : Sto) : Res (Fl × Vars) := orr (ob (nameE t) fun x => xForN L sc fr x it b σ) (ob (tupE t) fun ts => forT L sc ts it b fr σ)
end

noncomputable def build (T : Tab) (L : Lv) : Lv where
  e sc fr ex σ := Expr.casesOn (motive_1 := fun _ => Res V) ex
    (fun op xs _ => ob (twoOf xs) fun p => eBool L sc fr op p.1 p.2 σ) none3
    (fun l op r _ => bd (L.e sc fr l σ) fun a σ => bd (L.e sc fr r σ) fun b σ => binop op a b σ)
    (fun op x _ => UnaryOp.casesOn (motive := fun _ => Res V) op none (eNot L sc fr x σ) none none) none4
    (fun t b o _ => bd (L.t sc fr t σ) fun c σ => br c (L.e sc fr b σ) (L.e sc fr o σ))
    (fun ks vs _ => eDict L sc fr ks vs σ) none3
    (fun elt gens scope _ => compE L sc fr elt gens scope σ) none4 (fun _ _ _ _ _ => none) none4 none2 none2 none2
    (fun l ops rs _ => ob (oneOf ops) fun op => ob (oneOf rs) fun r => eCmp L sc fr op l r σ)
    (fun f args kws p => gd kws.isEmpty (eCall T L sc fr f args p σ)) none4
    (fun xs _ => eJoin L sc fr xs σ)
    (fun c _ _ => ob (cData c) fun d => some (.d d, σ))
    (fun o name _ => eAttr T L sc fr o name σ)
    (fun v s _ => subE (L.e sc fr) v s σ) none2
    (fun x _ => eName T sc fr x σ)
    (fun xs _ => List.casesOn (motive := fun _ => Res V) xs (some (.st σ.length, σ ++ [.lst []])) fun x r => eSeq L sc fr .list (x :: r) σ)
    (fun xs _ _ => eSeq L sc fr .tuple xs σ) none4
  t sc fr ex σ := Expr.casesOn (motive_1 := fun _ => Res Bool) ex
    (fun op xs _ => allT (L.t sc fr) (op == .And) xs σ) (fun _ _ _ => tPlain L sc fr ex σ) (fun _ _ _ _ => tPlain L sc fr ex σ)
    (fun op x _ => UnaryOp.casesOn (motive := fun _ => Res Bool) op (tPlain L sc fr ex σ) (tNot L sc fr x σ) (tPlain L sc fr ex σ) (tPlain L sc fr ex σ))
    (fun _ _ _ _ => tPlain L sc fr ex σ) none4 (fun _ _ _ => tPlain L sc fr ex σ) (fun _ _ _ => tPlain L sc fr ex σ) (fun _ _ _ _ => tPlain L sc fr ex σ) (fun _ _ _ _ => tPlain L sc fr ex σ) (fun _ _ _ _ _ => tPlain L sc fr ex σ)
    (fun _ _ _ _ => tPlain L sc fr ex σ) (fun _ _ => tPlain L sc fr ex σ) (fun _ _ => tPlain L sc fr ex σ) (fun _ _ => tPlain L sc fr ex σ)
    (fun l ops rs _ => tCmps L sc fr l ops rs σ)
    (fun _ _ _ _ => tPlain L sc fr ex σ) (fun _ _ _ _ => tPlain L sc fr ex σ) (fun _ _ => tPlain L sc fr ex σ) (fun _ _ _ => tPlain L sc fr ex σ) (fun _ _ _ => tPlain L sc fr ex σ) (fun _ _ _ => tPlain L sc fr ex σ) (fun _ _ => tPlain L sc fr ex σ)
    (fun _ _ => tPlain L sc fr ex σ) (fun _ _ => tPlain L sc fr ex σ) (fun _ _ _ => tPlain L sc fr ex σ) (fun _ _ _ _ => tPlain L sc fr ex σ)
  x sc st fr σ := Stmt.casesOn (motive_2 := fun _ => Res (Fl × Vars)) st
    (fun _ _ _ _ _ _ _ _ _ _ => none) (fun _ _ _ _ _ _ _ _ _ _ => none) (fun _ _ _ _ _ _ _ _ _ _ _ => none)
    (fun v _ => ob v fun v => xRet L sc fr v σ) none2
    (fun ts v _ => ob (oneOf ts) fun t => xAsg T L sc fr t v σ) (fun _ _ _ _ _ _ _ => none) none4 (fun _ _ _ _ _ => none)
    (fun t it b o _ => gd o.isEmpty (xFor L sc fr t it b σ)) (fun _ _ _ _ _ => none)
    (fun t b o _ => gd o.isEmpty (whileGo (fun fr σ => L.t sc fr t σ) (seqS (L.x sc) b) turnsMost fr σ))
    (fun t b o _ => xIf L sc fr t b o σ) none3 none3 none3 none3 (fun _ _ _ _ _ => none) (fun _ _ _ _ _ => none) none3 none2 none4 none2 none2
    (fun v _ => xExpr L sc fr v σ) none1 none1 none1
  c f args σ := ob (T.fn f) fun p => gd (p.1.length == args.length) (bd (seqS (L.x p.2.2) p.2.1 (p.1.zip args) σ) fun r σ => some (Fl.casesOn (motive := fun _ => V) r.1 (.d .none) (fun v => v), σ))

noncomputable def level (T : Tab) : Nat → Lv
  | 0 => ⟨fun _ _ _ _ => none, fun _ _ _ _ => none, fun _ _ _ _ => none, fun _ _ _ => none⟩
  | n + 1 => build T (level T n)
end Mine
namespace Mine
open PySem PySem.Calls PyProof.Rows

/-! the heap and the pure state -/
inductive All2 {α β : Type} (R : α → β → Prop) : List α → List β → Prop
  | nil : All2 R [] []
  | cons {a b l m} : R a b → All2 R l m → All2 R (a :: l) (b :: m)
theorem All2.mono {α β : Type} {R S : α → β → Prop} (f : ∀ a b, R a b → S a b) {l m} (h : All2 R l m) : All2 S l m := by
  induction h with
  | nil => exact .nil
  | cons a _ ih => exact .cons (f _ _ a) ih
theorem All2.length {α β : Type} {R : α → β → Prop} {l m} (h : All2 R l m) : l.length = m.length := by
  induction h with
  | nil => rfl
  | cons _ _ ih => exact congrArg (· + 1) ih
theorem All2.get {α β : Type} {R : α → β → Prop} {l m} (h : All2 R l m) {i : Nat} {b : β} (e : m[i]? = some b) : ∃ a, l[i]? = some a ∧ R a b := by
  induction h generalizing i with
  | nil => exact noneE' e
  | cons a _ ih => cases i with
    | zero => cases Option.some.inj e; exact ⟨_, rfl, a⟩
    | succ i => exact ih e
theorem All2.none {α β : Type} {R : α → β → Prop} {l m} (h : All2 R l m) {i : Nat} (e : m[i]? = none) : l[i]? = none := by
  rw [List.getElem?_eq_none_iff] at e ⊢
  rw [h.length]; exact e
theorem All2.append {α β : Type} {R : α → β → Prop} {l m l' m'} (h : All2 R l m) (h' : All2 R l' m') : All2 R (l ++ l') (m ++ m') := by
  induction h with
  | nil => exact h'
  | cons a _ ih => exact .cons a ih
theorem All2.take {α β : Type} {R : α → β → Prop} {l m} (h : All2 R l m) (k : Nat) : All2 R (l.take k) (m.take k) := by
  induction h generalizing k with
  | nil => cases k <;> exact .nil
  | cons a _ ih => cases k with
    | zero => exact .nil
    | succ k => exact .cons a (ih k)
theorem All2.drop {α β : Type} {R : α → β → Prop} {l m} (h : All2 R l m) (k : Nat) : All2 R (l.drop k) (m.drop k) := by
  induction h generalizing k with
  | nil => cases k <;> exact .nil
  | cons a r ih => cases k with
    | zero => exact .cons a r
    | succ k => exact ih k

theorem All2.cons_inv {α β : Type} {R : α → β → Prop} {l : List α} {b : β} {m : List β} (h : All2 R l (b :: m)) : ∃ a r, l = a :: r ∧ R a b ∧ All2 R r m := by
  cases h with
  | cons h r => exact ⟨_, _, rfl, h, r⟩
theorem All2.nil_inv {α β : Type} {R : α → β → Prop} {l : List α} (h : All2 R l []) : l = [] := by cases h; rfl
theorem All2.one {α β : Type} {R : α → β → Prop} {l : List α} {b : β} (h : All2 R l [b]) : ∃ a, l = [a] ∧ R a b := by
  obtain ⟨a, r, e, q, h⟩ := h.cons_inv
  exact ⟨a, by rw [e, h.nil_inv], q⟩
theorem All2.two {α β : Type} {R : α → β → Prop} {l : List α} {b c : β} (h : All2 R l [b, c]) : ∃ a d, l = [a, d] ∧ R a b ∧ R d c := by
  obtain ⟨a, r, e, q, h⟩ := h.cons_inv
  obtain ⟨d, e2, q2⟩ := h.one
  exact ⟨a, d, by rw [e, e2], q, q2⟩

noncomputable def RV (g : Heap) (ρ : List (Addr × Addr)) (v : Value) : V → Prop
  | .d x => ∃ as, Reads g v x as
  | .st n => ∃ p, ρ[n]? = some p ∧ v = .ref p.1
  | .val u => v = u
  | .rng a b => ∃ r t u k, v = .ref r ∧ IsRange g r a b 1 t u k ∧ -(2 ^ 40) < a ∧ a < 2 ^ 40 ∧ -(2 ^ 40) < b ∧ b < 2 ^ 40

noncomputable def InR (ρ : List (Addr × Addr)) (a : Addr) : Prop := ∃ p ∈ ρ, a = p.1 ∨ a = p.2

/-- a thing with its own dict: x at p.1, the dict at p.2 -/
noncomputable def RInst (h : Heap) (p : Addr × Addr) (C : Addr) (mA : Str → Option Value) : Prop :=
  ∃ o, h.get? p.1 = some o ∧ o.cls = .ref C ∧ (∀ c, o.data ≠ .cls c) ∧ o.dict = some p.2 ∧ p.2 ≠ p.1 ∧ h.Ns1 p.2 mA

noncomputable def RO (prog : Program) (w : World) (g : Heap) (ρ : List (Addr × Addr)) (h : Heap) (p : Addr × Addr) : O → Prop
  | .lst xs => p.2 = p.1 ∧ ∃ vs n, h.get? p.1 = some { cls := .type "list", data := .seq vs n } ∧ All2 (RV g ρ) vs.toList xs
  | .dict kvs => p.2 = p.1 ∧ (p.1 == sysModules) = false ∧ ∃ kvs', h.DictOf (strKind prog w) p.1 kvs' ∧ All2 (fun a b => a.1 = b.1 ∧ RV g ρ a.2 b.2) kvs' kvs
  | .junk => p.2 = p.1
  | .inst C kvs => ∃ mA, RInst h p C mA ∧ ∀ n, (match kvs.lookup n with | some v => ∃ u, mA n = some u ∧ RV g ρ u v | none => mA n = none)

/-- a list or tuple of things with a dict of its own: the pure run makes none such -/
noncomputable def badO (o : Obj) : Bool := o.dict.isSome && match o.data with
  | .seq (vs : Array Value) _ => match vs[0]? with
    | some (Value.ref _) => true
    | _ => false
  | _ => false

structure SR (prog : Program) (w : World) (h₀ g : Heap) (ρ : List (Addr × Addr)) (σ : Sto) (h : Heap) : Prop where
  base : ∀ a o, h₀.get? a = some o → g.get? a = some o
  sub : ∀ a o, g.get? a = some o → h.get? a = some o
  len : ρ.length = σ.length
  sto : ∀ (n : Nat) (o : O) (p : Addr × Addr), σ[n]? = some o → ρ[n]? = some p → RO prog w g ρ h p o
  free : ∀ a, InR ρ a → g.get? a = none ∧ h.get? a ≠ none
  apart : ∀ (i j : Nat) (p q : Addr × Addr), ρ[i]? = some p → ρ[j]? = some q → i ≠ j → p.1 ≠ q.1 ∧ p.1 ≠ q.2 ∧ p.2 ≠ q.1 ∧ p.2 ≠ q.2
  nd : ∀ a o, g.get? a = some o → badO o = false

structure Ext (ex : Addr → Prop) (g : Heap) (ρ : List (Addr × Addr)) (h : Heap) (g' : Heap) (ρ' : List (Addr × Addr)) (h' : Heap) : Prop where
  gs : ∀ a o, g.get? a = some o → g'.get? a = some o
  gn : ∀ a, h.get? a ≠ none → g.get? a = none → g'.get? a = none
  rs : ∃ l, ρ' = ρ ++ l ∧ ∀ p ∈ l, h.get? p.1 = none ∧ h.get? p.2 = none
  keep : ∀ a o, ¬ InR ρ a → ¬ ex a → h.get? a = some o → h'.get? a = some o
  dom : ∀ a, h.get? a ≠ none → h'.get? a ≠ none

abbrev no : Addr → Prop := fun _ => False

theorem Ext.refl (ex : Addr → Prop) (g : Heap) (ρ : List (Addr × Addr)) (h : Heap) : Ext ex g ρ h g ρ h :=
  ⟨fun _ _ e => e, fun _ _ e => e, ⟨[], by simp, fun _ hp => nomatch hp⟩, fun _ _ _ _ e => e, fun _ e => e⟩

theorem InR.append {ρ l : List (Addr × Addr)} {a : Addr} : InR (ρ ++ l) a ↔ InR ρ a ∨ InR l a := by
  unfold InR
  constructor
  · rintro ⟨p, hp, h⟩
    rcases List.mem_append.mp hp with hp | hp
    · exact .inl ⟨p, hp, h⟩
    · exact .inr ⟨p, hp, h⟩
  · rintro (⟨p, hp, h⟩ | ⟨p, hp, h⟩)
    · exact ⟨p, List.mem_append_left _ hp, h⟩
    · exact ⟨p, List.mem_append_right _ hp, h⟩

theorem Ext.trans {ex : Addr → Prop} {g g' g'' : Heap} {ρ ρ' ρ'' : List (Addr × Addr)} {h h' h'' : Heap} (x : Ext ex g ρ h g' ρ' h') (y : Ext ex g' ρ' h' g'' ρ'' h'') : Ext ex g ρ h g'' ρ'' h'' := by
  obtain ⟨l, rfl, hl⟩ := x.rs
  obtain ⟨l', rfl, hl'⟩ := y.rs
  refine ⟨fun a o e => y.gs _ _ (x.gs _ _ e), fun a h1 h2 => y.gn _ (x.dom _ h1) (x.gn _ h1 h2), ⟨l ++ l', by rw [List.append_assoc], fun p hp => ?_⟩, fun a o h1 h2 h3 => ?_, fun a h1 => y.dom _ (x.dom _ h1)⟩
  · rcases List.mem_append.mp hp with hp | hp
    · exact hl p hp
    · have := hl' p hp
      refine ⟨?_, ?_⟩
      · cases e : h.get? p.1 with
        | none => rfl
        | some o => exact absurd this.1 (x.dom _ (by rw [e]; exact Option.some_ne_none _))
      · cases e : h.get? p.2 with
        | none => rfl
        | some o => exact absurd this.2 (x.dom _ (by rw [e]; exact Option.some_ne_none _))
  · refine y.keep a o (fun q => ?_) h2 (x.keep a o h1 h2 h3)
    rcases InR.append.mp q with q | ⟨p, hp, q⟩
    · exact h1 q
    · have := hl p hp
      rcases q with rfl | rfl
      · rw [this.1] at h3; cases h3
      · rw [this.2] at h3; cases h3

theorem Ext.weaken {ex ex' : Addr → Prop} {g g' : Heap} {ρ ρ' : List (Addr × Addr)} {h h' : Heap} (x : Ext ex g ρ h g' ρ' h') (hw : ∀ a, ex a → h.get? a ≠ none → ex' a) : Ext ex' g ρ h g' ρ' h' :=
  ⟨x.gs, x.gn, x.rs, fun a o h1 h2 h3 => x.keep a o h1 (fun q => h2 (hw a q (by rw [h3]; exact Option.some_ne_none _))) h3, x.dom⟩

theorem getElem?_append_some {α : Type} {l m : List α} {i : Nat} {a : α} (h : l[i]? = some a) : (l ++ m)[i]? = some a := by
  rw [List.getElem?_append_left]
  · exact h
  · exact (List.getElem?_eq_some_iff.mp h).1

theorem RV.ext {ex : Addr → Prop} {g g' : Heap} {ρ ρ' : List (Addr × Addr)} {h h' : Heap} (x : Ext ex g ρ h g' ρ' h') {v : Value} {u : V} (r : RV g ρ v u) : RV g' ρ' v u := by
  obtain ⟨l, rfl, _⟩ := x.rs
  cases u with
  | d y => obtain ⟨as, r⟩ := r; exact ⟨as, Reads.keeps x.gs r⟩
  | st n => obtain ⟨p, h1, h2⟩ := r; exact ⟨p, getElem?_append_some h1, h2⟩
  | val u => exact r
  | rng a b => obtain ⟨r, t, u, k, h1, h2, hb⟩ := r; exact ⟨r, t, u, k, h1, x.gs _ _ h2, hb⟩

/-! putting an object among the frozen ones -/
noncomputable def freedObj : Obj := ⟨.none, none, .freed, #[]⟩
noncomputable def heapOf (f : Addr → Option Obj) (n : Nat) : Heap := ⟨((List.range n).map fun i => (f i).getD freedObj).toArray, {}⟩
theorem heapOf_get {f : Addr → Option Obj} {n : Nat} (hn : ∀ a o, f a = some o → a < n ∧ o.isFreed = false) (a : Addr) : (heapOf f n).get? a = f a := by
  unfold Heap.get? heapOf
  have key : (((List.range n).map fun i => (f i).getD freedObj).toArray)[a]? = if a < n then some ((f a).getD freedObj) else none := by
    simp only [List.getElem?_toArray, List.getElem?_map]
    by_cases h : a < n
    · rw [if_pos h]; simp [h]
    · rw [if_neg h]; simp [h]
  show (match (((List.range n).map fun i => (f i).getD freedObj).toArray)[a]? with | some ⟨_, _, .freed, _⟩ => none | o => o) = f a
  rw [key]
  by_cases h : a < n
  · rw [if_pos h]
    cases e : f a with
    | none => rfl
    | some o =>
      have := (hn a o e).2
      obtain ⟨c, d, dt, sl⟩ := o
      cases dt <;> first | rfl | (simp [Obj.isFreed] at this)
  · rw [if_neg h]
    cases e : f a with
    | none => rfl
    | some o => exact absurd (hn a o e).1 h
theorem exists_put (g : Heap) (a : Addr) (o : Obj) (ho : o.isFreed = false) : ∃ g' : Heap, g'.get? a = some o ∧ ∀ b, b ≠ a → g'.get? b = g.get? b := by
  refine ⟨heapOf (fun b => if b = a then some o else g.get? b) (max g.objs.size (a + 1)), ?_, fun b hb => ?_⟩
  · rw [heapOf_get]
    · simp
    · intro b o' e
      by_cases h : b = a
      · subst h; simp at e; subst e; exact ⟨Nat.lt_of_lt_of_le (Nat.lt_succ_self _) (Nat.le_max_right _ _), ho⟩
      · rw [if_neg h] at e
        exact ⟨Nat.lt_of_lt_of_le (Heap.lt_size e) (Nat.le_max_left _ _), (Heap.get?_some_iff.mp e).2⟩
  · rw [heapOf_get]
    · simp [hb]
    · intro b o' e
      by_cases h : b = a
      · subst h; simp at e; subst e; exact ⟨Nat.lt_of_lt_of_le (Nat.lt_succ_self _) (Nat.le_max_right _ _), ho⟩
      · rw [if_neg h] at e
        exact ⟨Nat.lt_of_lt_of_le (Heap.lt_size e) (Nat.le_max_left _ _), (Heap.get?_some_iff.mp e).2⟩

theorem not_freed {h : Heap} {a : Addr} {o : Obj} (e : h.get? a = some o) : o.isFreed = false := (Heap.get?_some_iff.mp e).2
theorem push_none {h : Heap} {o : Obj} {a : Addr} (e : h.get? a = none) (ha : a ≠ h.objs.size) : (h.push o).get? a = none := by
  cases q : (h.push o).get? a with
  | none => rfl
  | some o' =>
    obtain ⟨q1, q2⟩ := Heap.get?_some_iff.mp q
    cases h with
    | mk objs life =>
      simp [Heap.push, Array.getElem?_push] at q1
      have ha' : ¬ a = objs.size := ha
      rw [if_neg ha'] at q1
      have : (⟨objs, life⟩ : Heap).get? a = some o' := Heap.get?_some_iff.mpr ⟨q1, q2⟩
      rw [e] at this; cases this
theorem size_none (h : Heap) : h.get? h.objs.size = none := by
  cases q : h.get? h.objs.size with
  | none => rfl
  | some o => exact absurd (Heap.lt_size q) (Nat.lt_irrefl _)
theorem RInst.keep {h h' : Heap} {p : Addr × Addr} {C : Addr} {mA : Str → Option Value} (r : RInst h p C mA) (k1 : ∀ o, h.get? p.1 = some o → h'.get? p.1 = some o) (k2 : ∀ o, h.get? p.2 = some o → h'.get? p.2 = some o) : RInst h' p C mA := by
  obtain ⟨o, h1, h2, h3, h4, h5, h6⟩ := r
  exact ⟨o, k1 _ h1, h2, h3, h4, h5, h6.at k2⟩

section
variable {prog : Program} {w : World} {h₀ g g' : Heap} {ρ ρ' : List (Addr × Addr)} {σ : Sto} {h h' : Heap}
theorem dictOf_keep {a : Addr} {kvs : List (Str × Value)} (d : h.DictOf (strKind prog w) a kvs) (k : ∀ o, h.get? a = some o → h'.get? a = some o) : h'.DictOf (strKind prog w) a kvs := by
  obtain ⟨o, es, ep, h1, h2⟩ := d
  exact ⟨o, es, ep, k _ h1, h2⟩
theorem RO.keep {p : Addr × Addr} {o : O} (r : RO prog w g ρ h p o) (kv : ∀ v u, RV g ρ v u → RV g' ρ' v u) (k1 : ∀ o, h.get? p.1 = some o → h'.get? p.1 = some o) (k2 : ∀ o, h.get? p.2 = some o → h'.get? p.2 = some o) : RO prog w g' ρ' h' p o := by
  cases o with
  | lst xs => obtain ⟨e, vs, n, h1, h2⟩ := r; exact ⟨e, vs, n, k1 _ h1, h2.mono kv⟩
  | junk => exact r
  | dict kvs => obtain ⟨e, lo, kvs', h1, h2⟩ := r; exact ⟨e, lo, kvs', dictOf_keep h1 k1, h2.mono fun a b q => ⟨q.1, kv _ _ q.2⟩⟩
  | inst C kvs =>
    obtain ⟨mA, h1, h2⟩ := r
    refine ⟨mA, h1.keep k1 k2, fun n => ?_⟩
    have := h2 n
    revert this
    cases kvs.lookup n with
    | none => exact id
    | some v => exact fun ⟨u, q1, q2⟩ => ⟨u, q1, kv _ _ q2⟩

/-- the heap grew, nothing tracked changed -/
theorem SR.grow (S : SR prog w h₀ g ρ σ h) (k : ∀ a o, h.get? a = some o → h'.get? a = some o) : SR prog w h₀ g ρ σ h' ∧ Ext no g ρ h g ρ h' := by
  have kd : ∀ a, h.get? a ≠ none → h'.get? a ≠ none := fun a q => by
    cases e : h.get? a with
    | none => exact absurd e q
    | some o => rw [k _ _ e]; exact Option.some_ne_none _
  refine ⟨⟨S.base, fun a o e => k _ _ (S.sub _ _ e), S.len, fun n o p e1 e2 => (S.sto n o p e1 e2).keep (fun _ _ r => r) (k _) (k _), fun a q => ⟨(S.free a q).1, kd _ (S.free a q).2⟩, S.apart, S.nd⟩, ?_⟩
  exact ⟨fun _ _ e => e, fun _ _ e => e, ⟨[], by simp, fun _ hp => nomatch hp⟩, fun a o _ _ e => k _ _ e, kd⟩

/-- one object more among the frozen ones -/
theorem SR.freeze (S : SR prog w h₀ g ρ σ h) {a : Addr} {o : Obj} (k : ∀ a o, h.get? a = some o → h'.get? a = some o) (ha : h.get? a = none) (ho : h'.get? a = some o) (hb : badO o = false := by rfl) :
    ∃ g', SR prog w h₀ g' ρ σ h' ∧ Ext no g ρ h g' ρ h' ∧ g'.get? a = some o ∧ ∀ b o, g.get? b = some o → g'.get? b = some o := by
  obtain ⟨g', e1, e2⟩ := exists_put g a o (not_freed ho)
  have kd : ∀ a, h.get? a ≠ none → h'.get? a ≠ none := fun a q => by
    cases e : h.get? a with
    | none => exact absurd e q
    | some o => rw [k _ _ e]; exact Option.some_ne_none _
  have ne : ∀ b o, g.get? b = some o → b ≠ a := fun b o e q => by subst q; have := S.sub _ _ e; rw [ha] at this; cases this
  have gs : ∀ b o, g.get? b = some o → g'.get? b = some o := fun b o e => (e2 b (ne b o e)).trans e
  have X : Ext no g ρ h g' ρ h' := ⟨gs, fun b q1 q2 => (e2 b fun q => by subst q; exact q1 ha).trans q2, ⟨[], by simp, fun _ hp => nomatch hp⟩, fun a o _ _ e => k _ _ e, kd⟩
  refine ⟨g', ⟨fun b o e => gs _ _ (S.base _ _ e), fun b o' e => ?_, S.len, fun n o p q1 q2 => (S.sto n o p q1 q2).keep (fun _ _ r => r.ext X) (k _) (k _), fun b q => ?_, S.apart, fun b o' e => ?_⟩, X, e1, gs⟩
  · by_cases hb : b = a
    · subst hb; rw [e1] at e; cases e; exact ho
    · rw [e2 b hb] at e; exact k _ _ (S.sub _ _ e)
  · have hb : b ≠ a := fun q' => by subst q'; exact (S.free _ q).2 ha
    exact ⟨(e2 b hb).trans (S.free b q).1, kd _ (S.free b q).2⟩
  · by_cases q : b = a
    · subst q; rw [e1] at e; cases e; exact hb
    · rw [e2 b q] at e; exact S.nd _ _ e

theorem snoc_get {α : Type} {l : List α} {p q : α} {i : Nat} (e : (l ++ [p])[i]? = some q) : l[i]? = some q ∧ i < l.length ∨ i = l.length ∧ q = p := by
  by_cases hi : i < l.length
  · rw [List.getElem?_append_left hi] at e; exact .inl ⟨e, hi⟩
  · rw [List.getElem?_append_right (Nat.le_of_not_lt hi)] at e
    cases hk : i - l.length with
    | zero => rw [hk] at e; exact .inr ⟨Nat.le_antisymm (Nat.sub_eq_zero_iff_le.mp hk) (Nat.le_of_not_lt hi), (Option.some.inj e).symm⟩
    | succ k => rw [hk] at e; exact noneE' e
theorem SR.last (S : SR prog w h₀ g ρ σ h) {p : Addr × Addr} : (ρ ++ [p])[σ.length]? = some p := by rw [← S.len]; exact List.getElem?_concat_length ..
/-- a new thing of the store -/
theorem SR.add (S : SR prog w h₀ g ρ σ h) {p : Addr × Addr} {o : O} (k : ∀ a o, h.get? a = some o → h'.get? a = some o) (h1 : h.get? p.1 = none) (h2 : h.get? p.2 = none) (n1 : h'.get? p.1 ≠ none) (n2 : h'.get? p.2 ≠ none)
    (r : RO prog w g (ρ ++ [p]) h' p o) : SR prog w h₀ g (ρ ++ [p]) (σ ++ [o]) h' ∧ Ext no g ρ h g (ρ ++ [p]) h' := by
  have kd : ∀ a, h.get? a ≠ none → h'.get? a ≠ none := fun a q => by
    cases e : h.get? a with
    | none => exact absurd e q
    | some o => rw [k _ _ e]; exact Option.some_ne_none _
  have X : Ext no g ρ h g (ρ ++ [p]) h' := ⟨fun _ _ e => e, fun _ _ e => e, ⟨[p], rfl, fun q hq => by rw [List.mem_singleton.mp hq]; exact ⟨h1, h2⟩⟩, fun a o _ _ e => k _ _ e, kd⟩
  have gno : ∀ b, h.get? b = none → g.get? b = none := fun b e => by
    cases q : g.get? b with
    | none => rfl
    | some o => rw [S.sub _ _ q] at e; cases e
  refine ⟨⟨S.base, fun a o e => k _ _ (S.sub _ _ e), by simp [S.len], fun n o' p' e1 e2 => ?_, fun a q => ?_, fun i j q q' e1 e2 hij => ?_, S.nd⟩, X⟩
  · rcases snoc_get e2 with ⟨a2, l2⟩ | ⟨a2, rfl⟩
    · rcases snoc_get e1 with ⟨a1, l1⟩ | ⟨a1, _⟩
      · exact (S.sto n o' p' a1 a2).keep (fun _ _ r => r.ext X) (k _) (k _)
      · exact absurd (S.len ▸ a1 ▸ l2) (Nat.lt_irrefl _)
    · rcases snoc_get e1 with ⟨a1, l1⟩ | ⟨_, rfl⟩
      · exact absurd (S.len ▸ a2 ▸ l1) (Nat.lt_irrefl _)
      · exact r
  · rcases InR.append.mp q with q | ⟨p', hp, q⟩
    · exact ⟨(S.free a q).1, kd _ (S.free a q).2⟩
    · rw [List.mem_singleton.mp hp] at q
      rcases q with rfl | rfl
      · exact ⟨gno _ h1, n1⟩
      · exact ⟨gno _ h2, n2⟩
  · have nn : ∀ i (q : Addr × Addr), ρ[i]? = some q → h.get? q.1 ≠ none ∧ h.get? q.2 ≠ none := fun i q e => by
      have hm : q ∈ ρ := List.mem_of_getElem? e
      exact ⟨(S.free q.1 ⟨q, hm, .inl rfl⟩).2, (S.free q.2 ⟨q, hm, .inr rfl⟩).2⟩
    rcases snoc_get e1 with ⟨a1, l1⟩ | ⟨a1, rfl⟩ <;> rcases snoc_get e2 with ⟨a2, l2⟩ | ⟨a2, rfl⟩
    · exact S.apart i j q q' a1 a2 hij
    · have := nn i q a1
      exact ⟨fun z => this.1 (z ▸ h1), fun z => this.1 (z ▸ h2), fun z => this.2 (z ▸ h1), fun z => this.2 (z ▸ h2)⟩
    · have := nn j q' a2
      exact ⟨fun z => this.1 (z ▸ h1), fun z => this.2 (z ▸ h1), fun z => this.1 (z ▸ h2), fun z => this.2 (z ▸ h2)⟩
    · exact absurd (a1.trans a2.symm) hij

/-- a thing of the store changes -/
theorem SR.set (S : SR prog w h₀ g ρ σ h) {n : Nat} {p : Addr × Addr} {o : O} (hp : ρ[n]? = some p) (k : ∀ a o, a ≠ p.1 → a ≠ p.2 → h.get? a = some o → h'.get? a = some o) (n1 : h'.get? p.1 ≠ none) (n2 : h'.get? p.2 ≠ none)
    (r : RO prog w g ρ h' p o) : SR prog w h₀ g ρ (σ.set n o) h' ∧ Ext no g ρ h g ρ h' := by
  have hm : p ∈ ρ := List.mem_of_getElem? hp
  have f1 := S.free p.1 ⟨p, hm, .inl rfl⟩
  have f2 := S.free p.2 ⟨p, hm, .inr rfl⟩
  have gne : ∀ a o, g.get? a = some o → a ≠ p.1 ∧ a ≠ p.2 := fun a o e => ⟨fun q => (by rw [q, f1.1] at e; cases e), fun q => (by rw [q, f2.1] at e; cases e)⟩
  have kd : ∀ a, h.get? a ≠ none → h'.get? a ≠ none := fun a q => by
    by_cases h1 : a = p.1
    · rw [h1]; exact n1
    by_cases h2 : a = p.2
    · rw [h2]; exact n2
    cases e : h.get? a with
    | none => exact absurd e q
    | some o => rw [k _ _ h1 h2 e]; exact Option.some_ne_none _
  refine ⟨⟨S.base, fun a o e => k _ _ (gne a o e).1 (gne a o e).2 (S.sub _ _ e), by rw [List.length_set]; exact S.len, fun i o' q e1 e2 => ?_, fun a q => ⟨(S.free a q).1, kd _ (S.free a q).2⟩, S.apart, S.nd⟩, ?_⟩
  · rw [List.getElem?_set] at e1
    by_cases hi : n = i
    · subst hi
      rw [if_pos rfl] at e1
      rw [hp] at e2; cases e2
      by_cases hl : n < σ.length
      · rw [if_pos hl] at e1; cases e1; exact r
      · rw [if_neg hl] at e1; cases e1
    · rw [if_neg hi] at e1
      have ap := S.apart i n q p e2 hp (Ne.symm hi)
      exact (S.sto i o' q e1 e2).keep (fun _ _ r => r) (k _ · ap.1 ap.2.1) (k _ · ap.2.2.1 ap.2.2.2)
  · exact ⟨fun _ _ e => e, fun _ _ e => e, ⟨[], by simp, fun _ hp => nomatch hp⟩, fun a o q _ e => k _ _ (fun z => q ⟨p, hm, .inl z⟩) (fun z => q ⟨p, hm, .inr z⟩) e, kd⟩
end
end Mine
namespace Mine
open PySem PySem.Calls PyProof.Rows PySem.W

theorem ns_at {h h' : Heap} {a : Addr} {m : Str → Option Value} (x : h.Ns a m) (k : ∀ o, h.get? a = some o → h'.get? a = some o) : h'.Ns a m := by
  obtain ⟨o, es, ep, h1, h2⟩ := x
  exact ⟨o, es, ep, k _ h1, h2⟩
theorem cell_at {h h' : Heap} {c : Addr} {v : Option Value} (x : h.IsCell c v) (k : ∀ o, h.get? c = some o → h'.get? c = some o) : h'.IsCell c v := by
  obtain ⟨o, h1, h2⟩ := x
  exact ⟨o, k _ h1, h2⟩

/-- a frame of the pure run and the frame of the model -/
structure FR (g : Heap) (ρ : List (Addr × Addr)) (env : Env) (sc : Scope) (fr : Vars) (h : Heap) : Prop where
  kind : env.scope.kind = .function
  globals : env.globals = mainGlobals
  builtins : env.builtins = builtinsNs
  ok : okScope sc = true
  glob : ∀ x, sc.names.lookup x = some .globalImplicit → env.kindOf x = some .globalImplicit
  loc : ∀ x, sc.names.lookup x = some .local → env.kindOf x = some .local
  cel : ∀ x, sc.names.lookup x = some .cell → env.kindOf x = some .cell ∧ ∃ c ov, env.cells.lookup x = some c ∧ h.IsCell c ov
  fre : ∀ x, sc.names.lookup x = some .free → env.kindOf x = some .cell ∨ env.kindOf x = some .free
  vars : ∃ m, h.Ns env.locals m ∧ ∀ x v, fr.lookup x = some v → sc.names.lookup x = some .local → ∃ u, m x = some u ∧ RV g ρ u v
  cvars : ∀ x v, fr.lookup x = some v → (sc.names.lookup x = some .cell ∨ sc.names.lookup x = some .free) → ∃ c u, env.cells.lookup x = some c ∧ h.IsCell c (some u) ∧ RV g ρ u v
  L : g.get? env.locals = none ∧ ¬ InR ρ env.locals ∧ h.get? env.locals ≠ none
  C : ∀ x c, env.cells.lookup x = some c → g.get? c = none ∧ ¬ InR ρ c ∧ h.get? c ≠ none ∧ c ≠ env.locals
  inj : ∀ x y c, env.cells.lookup x = some c → env.cells.lookup y = some c → x = y

noncomputable def Own (env : Env) (sc : Scope) (a : Addr) : Prop := a = env.locals ∨ ∃ x, sc.names.lookup x = some .cell ∧ env.cells.lookup x = some a

theorem Ext.fresh {ex : Addr → Prop} {g g' : Heap} {ρ ρ' : List (Addr × Addr)} {h h' : Heap} (x : Ext ex g ρ h g' ρ' h') {a : Addr} (ha : h.get? a ≠ none) (hr : ¬ InR ρ a) : ¬ InR ρ' a := by
  obtain ⟨l, rfl, hl⟩ := x.rs
  intro q
  rcases InR.append.mp q with q | ⟨p, hp, q⟩
  · exact hr q
  · have := hl p hp
    rcases q with rfl | rfl
    · exact ha this.1
    · exact ha this.2

theorem FR.ext {ex : Addr → Prop} {g g' : Heap} {ρ ρ' : List (Addr × Addr)} {h h' : Heap} {env : Env} {sc : Scope} {fr : Vars} (F : FR g ρ env sc fr h) (x : Ext ex g ρ h g' ρ' h')
    (hL : ¬ ex env.locals) (hC : ∀ y c, env.cells.lookup y = some c → ¬ ex c) : FR g' ρ' env sc fr h' := by
  have kL : ∀ o, h.get? env.locals = some o → h'.get? env.locals = some o := fun o e => x.keep _ _ F.L.2.1 hL e
  have kC : ∀ y c, env.cells.lookup y = some c → ∀ o, h.get? c = some o → h'.get? c = some o := fun y c hc o e => x.keep _ _ (F.C y c hc).2.1 (hC y c hc) e
  refine ⟨F.kind, F.globals, F.builtins, F.ok, F.glob, F.loc, fun y hy => ?_, F.fre, ?_, fun y v h1 h2 => ?_, ?_, fun y c hc => ?_, F.inj⟩
  · obtain ⟨h1, c, ov, h2, h3⟩ := F.cel y hy
    exact ⟨h1, c, ov, h2, cell_at h3 (kC y c h2)⟩
  · obtain ⟨m, h1, h2⟩ := F.vars
    exact ⟨m, ns_at h1 kL, fun y v a b => let ⟨u, p, q⟩ := h2 y v a b; ⟨u, p, q.ext x⟩⟩
  · obtain ⟨c, u, a, b, d⟩ := F.cvars y v h1 h2
    exact ⟨c, u, a, cell_at b (kC y c a), d.ext x⟩
  · exact ⟨x.gn _ F.L.2.2 F.L.1, x.fresh F.L.2.2 F.L.2.1, x.dom _ F.L.2.2⟩
  · have := F.C y c hc
    exact ⟨x.gn _ this.2.2.1 this.1, x.fresh this.2.2.1 this.2.1, x.dom _ this.2.2.1, this.2.2.2⟩
theorem FR.extNo {g g' : Heap} {ρ ρ' : List (Addr × Addr)} {h h' : Heap} {env : Env} {sc : Scope} {fr : Vars} (F : FR g ρ env sc fr h) (x : Ext no g ρ h g' ρ' h') : FR g' ρ' env sc fr h' :=
  F.ext x id fun _ _ _ => id

structure Room (A : Around) (n : Nat) : Prop where
  handled : A.handled = none
  depth : A.depth + 2 * n + 2 < recursionLimit
  units : A.units + 10 * n + 90 < cLine
theorem Room.le {A : Around} {n m : Nat} (r : Room A n) (h : m ≤ n) : Room A m := ⟨r.handled, by have := r.depth; lia, by have := r.units; lia⟩
theorem Room.pred {A : Around} {n : Nat} (r : Room A (n + 1)) : Room A n := r.le (Nat.le_succ n)

section
variable (prog : Program) (w : World) (h₀ : Heap)
noncomputable def KV (g : Heap) (ρ : List (Addr × Addr)) (s : Shared) (σ' : Sto) (v : V) (Q : Value → Shared → Prop) : Prop :=
  ∀ g' ρ' h' tk u, SR prog w h₀ g' ρ' σ' h' → Ext no g ρ s.heap g' ρ' h' → RV g' ρ' u v → Q u { s with heap := h', toks := tk }
noncomputable def KB (g : Heap) (ρ : List (Addr × Addr)) (s : Shared) (σ' : Sto) (b : Bool) (Q : Bool → Shared → Prop) : Prop :=
  ∀ g' ρ' h' tk, SR prog w h₀ g' ρ' σ' h' → Ext no g ρ s.heap g' ρ' h' → Q b { s with heap := h', toks := tk }
noncomputable def KVs (g : Heap) (ρ : List (Addr × Addr)) (s : Shared) (σ' : Sto) (vs : List V) (Q : List Value → Shared → Prop) : Prop :=
  ∀ g' ρ' h' tk us, SR prog w h₀ g' ρ' σ' h' → Ext no g ρ s.heap g' ρ' h' → All2 (RV g' ρ') us vs → Q us { s with heap := h', toks := tk }
inductive RF (g : Heap) (ρ : List (Addr × Addr)) : Flow → Fl → Prop
  | next : RF g ρ .next .next
  | ret {u : Value} {v : V} : RV g ρ u v → RF g ρ (.ret u) (.ret v)
noncomputable def KX (env : Env) (sc : Scope) (g : Heap) (ρ : List (Addr × Addr)) (s : Shared) (σ' : Sto) (fr' : Vars) (fl : Fl) (Q : Flow → Shared → Prop) : Prop :=
  ∀ g' ρ' h' tk f, SR prog w h₀ g' ρ' σ' h' → Ext (Own env sc) g ρ s.heap g' ρ' h' → FR g' ρ' env sc fr' h' → RF g' ρ' f fl → Q f { s with heap := h', toks := tk }

noncomputable def EOK (n : Nat) (L : Lv) : Prop := ∀ sc fr ex σ v σ', L.e sc fr ex σ = some (v, σ') → ∀ A env g ρ s Q E, Room A n → SR prog w h₀ g ρ σ s.heap → FR g ρ env sc fr s.heap →
  KV prog w h₀ g ρ s σ' v Q → wpAny (model prog w) A (eval ex env) Q E s
noncomputable def TOK (n : Nat) (L : Lv) : Prop := ∀ sc fr ex σ b σ', L.t sc fr ex σ = some (b, σ') → ∀ A env g ρ s Q E, Room A n → SR prog w h₀ g ρ σ s.heap → FR g ρ env sc fr s.heap →
  KB prog w h₀ g ρ s σ' b Q → wpAny (model prog w) A (isTrue ex env (eval ex env)) Q E s
noncomputable def XOK (n : Nat) (L : Lv) : Prop := ∀ sc st fr σ fl fr' σ', L.x sc st fr σ = some ((fl, fr'), σ') → ∀ A env g ρ s Q E, Room A n → SR prog w h₀ g ρ σ s.heap → FR g ρ env sc fr s.heap →
  KX prog w h₀ env sc g ρ s σ' fr' fl Q → wpAny (model prog w) A (exec st env) Q E s
noncomputable def COK (n : Nat) (L : Lv) : Prop := ∀ f args σ v σ', L.c f args σ = some (v, σ') → ∀ A g ρ s us Q E, Room A n → SR prog w h₀ g ρ σ s.heap → All2 (RV g ρ) us args →
  KV prog w h₀ g ρ s σ' v Q → wpAny (model prog w) A (call (.ref f) us) Q E s
structure OK (n : Nat) (L : Lv) : Prop where
  e : EOK prog w h₀ n L
  t : TOK prog w h₀ n L
  x : XOK prog w h₀ n L
  c : COK prog w h₀ n L
end

section
variable {prog : Program} {w : World} {h₀ : Heap} {g g' : Heap} {ρ ρ' : List (Addr × Addr)} {σ σ' : Sto} {s : Shared} {h' : Heap} {tk : Nat}

theorem KV.ext {v : V} {Q : Value → Shared → Prop} (K : KV prog w h₀ g ρ s σ' v Q) (x : Ext no g ρ s.heap g' ρ' h') : KV prog w h₀ g' ρ' { s with heap := h', toks := tk } σ' v Q :=
  fun g'' ρ'' h'' tk' u S' X' R' => K g'' ρ'' h'' tk' u S' (x.trans X') R'
theorem KB.ext {v : Bool} {Q : Bool → Shared → Prop} (K : KB prog w h₀ g ρ s σ' v Q) (x : Ext no g ρ s.heap g' ρ' h') : KB prog w h₀ g' ρ' { s with heap := h', toks := tk } σ' v Q :=
  fun g'' ρ'' h'' tk' S' X' => K g'' ρ'' h'' tk' S' (x.trans X')
theorem KVs.ext {v : List V} {Q : List Value → Shared → Prop} (K : KVs prog w h₀ g ρ s σ' v Q) (x : Ext no g ρ s.heap g' ρ' h') : KVs prog w h₀ g' ρ' { s with heap := h', toks := tk } σ' v Q :=
  fun g'' ρ'' h'' tk' u S' X' R' => K g'' ρ'' h'' tk' u S' (x.trans X') R'

theorem KV.of {v v1 : V} {σ1 : Sto} {Q : Value → Shared → Prop} (K : KV prog w h₀ g ρ s σ' v Q) (e : some (v1, σ1) = some (v, σ')) : KV prog w h₀ g ρ s σ1 v1 Q := some2 (P := fun v σ => KV prog w h₀ g ρ s σ v Q) e.symm K
theorem KB.of {v v1 : Bool} {σ1 : Sto} {Q : Bool → Shared → Prop} (K : KB prog w h₀ g ρ s σ' v Q) (e : some (v1, σ1) = some (v, σ')) : KB prog w h₀ g ρ s σ1 v1 Q := some2 (P := fun v σ => KB prog w h₀ g ρ s σ v Q) e.symm K
theorem KVs.of {v v1 : List V} {σ1 : Sto} {Q : List Value → Shared → Prop} (K : KVs prog w h₀ g ρ s σ' v Q) (e : some (v1, σ1) = some (v, σ')) : KVs prog w h₀ g ρ s σ1 v1 Q := some2 (P := fun v σ => KVs prog w h₀ g ρ s σ v Q) e.symm K
theorem KX.of {env : Env} {sc : Scope} {fr fr1 : Vars} {fl fl1 : Fl} {σ1 : Sto} {Q : Flow → Shared → Prop} (K : KX prog w h₀ env sc g ρ s σ' fr fl Q) (e : some ((fl1, fr1), σ1) = some ((fl, fr), σ')) : KX prog w h₀ env sc g ρ s σ1 fr1 fl1 Q := some3 (P := fun fl fr σ => KX prog w h₀ env sc g ρ s σ fr fl Q) e.symm K
theorem KV.now {v : V} {Q : Value → Shared → Prop} (K : KV prog w h₀ g ρ s σ v Q) (S : SR prog w h₀ g ρ σ s.heap) {u : Value} (R : RV g ρ u v) (tk : Nat) : Q u { s with toks := tk } := K g ρ s.heap tk u S (.refl ..) R
theorem KV.now' {v : V} {Q : Value → Shared → Prop} (K : KV prog w h₀ g ρ s σ v Q) (S : SR prog w h₀ g ρ σ s.heap) {u : Value} (R : RV g ρ u v) : Q u s := K g ρ s.heap s.toks u S (.refl ..) R
theorem KB.now' {v : Bool} {Q : Bool → Shared → Prop} (K : KB prog w h₀ g ρ s σ v Q) (S : SR prog w h₀ g ρ σ s.heap) : Q v s := K g ρ s.heap s.toks S (.refl ..)

/-- a value stands where the heap grew by one frozen object -/
theorem KV.frozen {v : V} {Q : Value → Shared → Prop} (K : KV prog w h₀ g ρ s σ v Q) (S : SR prog w h₀ g ρ σ s.heap) {a : Addr} {o : Obj} (k : ∀ a o, s.heap.get? a = some o → h'.get? a = some o) (ha : s.heap.get? a = none) (ho : h'.get? a = some o)
    (R : ∀ g', (∀ b o, g.get? b = some o → g'.get? b = some o) → g'.get? a = some o → RV g' ρ (.ref a) v) (tk : Nat) (hb : badO o = false := by rfl) : Q (.ref a) { s with heap := h', toks := tk } := by
  obtain ⟨g', S', X, e, gs⟩ := S.freeze k ha ho hb
  exact K g' ρ h' tk _ S' X (R g' gs e)
theorem KV.pushed {v : V} {Q : Value → Shared → Prop} (K : KV prog w h₀ g ρ s σ v Q) (S : SR prog w h₀ g ρ σ s.heap) {o : Obj} (ho : o.isFreed = false)
    (R : ∀ g', (∀ b o, g.get? b = some o → g'.get? b = some o) → g'.get? s.heap.objs.size = some o → RV g' ρ (.ref s.heap.objs.size) v) (tk : Nat) (hb : badO o = false := by rfl) : Q (.ref s.heap.objs.size) { s with heap := s.heap.push o, toks := tk } :=
  K.frozen S (fun a o' e => Heap.get?_push_of_some _ e) (size_none _) (Heap.get?_push_size _ ho) R tk hb
end
end Mine
namespace Mine
open PySem PySem.Calls PyProof.Rows PySem.W

theorem readsAll_of {h : Heap} {vs : List Value} {xs : List PyData} (r : All2 (fun v d => ∃ as, Reads h v d as) vs xs) : ∃ as, ReadsAll h vs xs as := by
  induction r with
  | nil => exact ⟨_, .nil⟩
  | cons a _ ih => obtain ⟨_, a⟩ := a; obtain ⟨as, e⟩ := ih; exact ⟨_, .cons a e⟩
theorem of_readsAll {h : Heap} {vs : List Value} {xs : List PyData} {as : List Addr} (r : ReadsAll h vs xs as) : All2 (fun v d => ∃ as, Reads h v d as) vs xs := by
  refine ReadsAll.rec (motive_1 := fun _ _ _ _ => True) (motive_2 := fun vs xs _ _ => All2 (fun v d => ∃ as, Reads h v d as) vs xs) trivial (fun _ => trivial) (fun _ _ => trivial) (fun _ _ => trivial) (fun _ _ _ _ _ => trivial) (fun _ _ _ _ _ => trivial) (fun _ _ _ _ _ _ _ => trivial) .nil (fun a _ _ ih => .cons ⟨_, a⟩ ih) r
theorem readsAll_append {h : Heap} {vs ws : List Value} {xs ys : List PyData} {as bs : List Addr} (r : ReadsAll h vs xs as) (q : ReadsAll h ws ys bs) : ∃ cs, ReadsAll h (vs ++ ws) (xs ++ ys) cs :=
  readsAll_of ((of_readsAll r).append (of_readsAll q))
theorem readsAll_get {h : Heap} {vs : List Value} {xs : List PyData} {as : List Addr} (r : ReadsAll h vs xs as) {i : Nat} {d : PyData} (e : xs[i]? = some d) : ∃ v bs, vs[i]? = some v ∧ Reads h v d bs := by
  obtain ⟨v, h1, bs, h2⟩ := (of_readsAll r).get e
  exact ⟨v, bs, h1, h2⟩
theorem datas_all2 {g : Heap} {ρ : List (Addr × Addr)} {us : List Value} {vs : List V} {ds : List PyData} (h : All2 (RV g ρ) us vs) (e : datas vs = some ds) : All2 (fun v d => ∃ as, Reads g v d as) us ds := by
  induction h generalizing ds with
  | nil => cases e; exact .nil
  | cons a _ ih =>
    obtain ⟨x, e1, e⟩ := ob_inv e
    obtain ⟨r, e2, e⟩ := ob_inv e
    cases e
    rw [vD_inv e1] at a
    exact .cons a (ih e2)
theorem small_len {xs : List PyData} (h : small xs = true) : xs.length < 1000 := Nat.le_of_ble_eq_true h
theorem line_big : (1000000 : Nat) ≤ sizeLine := by decide

section
variable {prog : Program} {w : World} {A : Around} {E : Value → Shared → Prop} {s : Shared}
theorem tuple_mulW (l : Addr) (y : Value) (n : Nat) (dd : Option Addr) (sl : Array (Option Value)) (x : Int) (u : Tok) (h2 : 2 ≤ x) (h3 : x < 100) :
    Meets (Builtin.«tuple.__mul__» ⟨[.ref l, .int x u], []⟩) (fun _ R s => s.heap.get? l = some { cls := .type "tuple", dict := dd, data := .seq #[y] n, slots := sl } ∧ R (.ok (.ret (Value.ref s.heap.objs.size))) { s with heap := s.heap.push { cls := Value.type "tuple", data := Data.seq (List.foldl (fun x1 x2 => x1 ++ x2) #[] (List.replicate x.toNat #[y])) }, toks := s.toks }) :=
  .of_wp fun prog w A R s h => by
    obtain ⟨hp, g, d, tk, os⟩ := s; obtain ⟨hl, h⟩ := h
    have f1 := AutoSeq1.idx_int; have f2 := AutoSeq1.sub_tuple_tuple; have f3 := AutoSeq1.sub_list_list; have f4 := AutoSeq1.sub_tuple_list; have f5 := AutoSeq1.sub_list_tuple
    wp_walk using wpAny_loadPart' hl
    refine wpAny_ite_false (by simp; lia) ?_
    wp_walk using wpAny_loadPart' hl
    refine wpAny_ite_false (by simp; lia) ?_
    wp_walk using wpAny_loadPart' hl
    refine wpAny_ite_false (by simp; lia) ?_
    wp_walk using wpAny_loadPart' hl
    refine wpAny_ite_false (by simp; lia) ?_
    wp_walk using wpAny_loadPart' hl
    refine wpAny_ite_false (by simp [Builtin.Tuple.tupleTooMany, sizeLine]; lia) ?_
    have hsz : (List.foldl (fun x1 x2 => x1 ++ x2) #[] (List.replicate x.toNat #[y])).size ≤ sizeLine := by
      rw [listMul_foldl]; simp [sizeLine]; lia
    refine wpAny_bind ?_
    refine wpAny_ite_false (decide_eq_false (Nat.not_lt.mpr hsz)) ?_
    wp_walk using wpAny_loadPart' hl
    exact ⟨_, rfl, h⟩

theorem int_rmul_tuple (a : Int) (t : Tok) (l : Addr) (items : Array Value) (n : Nat) (d : Option Addr) (sl : Array (Option Value)) :
    Meets (Builtin.«int.__rmul__» ⟨[.int a t, .ref l], []⟩) (fun _ R s => s.heap.get? l = some { cls := .type "tuple", dict := d, data := .seq items n, slots := sl } ∧ R (.ok (.ret Value.notImplemented)) s) :=
  .of_wp fun prog w A R s h => by obtain ⟨hp, g, d, tk, os⟩ := s; obtain ⟨hl, h⟩ := h; wp_walk; exact ⟨_, rfl, h⟩
theorem noFill_tuple_mul : fillsNumberSlot (.type "tuple") "mul" = pure false :=
  PySem.fillsNumberSlot_seq (id := "tuple.__mul__") (r := some (.builtin "tuple.__rmul__")) F.slot_tuple_mul.lookup (by decide +kernel) F.slot_tuple_rmul.lookup (by decide +kernel)
theorem repeat_tuple : seqRepeat? (.type "tuple") = pure (some (.builtin "tuple.__mul__")) := by
  unfold seqRepeat?
  rw [PySem.seqSlot_of (T := "tuple") (name := "__mul__") (id := "tuple.__mul__") F.slot_tuple_mul.lookup (by decide +kernel), PySem.seqSlot_of (T := "tuple") (name := "__rmul__") (id := "tuple.__rmul__") F.slot_tuple_rmul.lookup (by decide +kernel)]
  rfl
end

/-- a list or tuple of the heap with data items -/
inductive SeqD (g h : Heap) (T : String) (xs : List PyData) : Value → Prop
  | mk (l : Addr) (vs : Array Value) (n : Nat) (d : Option Addr) (sl : Array (Option Value)) (as : List Addr) : h.get? l = some { cls := .type T, dict := d, data := .seq vs n, slots := sl } → ReadsAll g vs.toList xs as → vs.size = xs.length → SeqD g h T xs (.ref l)
/-- what a value is that reads as data -/
noncomputable def RI (h : Heap) (x : Value) (d : PyData) : Prop :=
  PyData.casesOn (motive_1 := fun _ => Prop) d (x = .none) (fun b => x = .bool b) (fun i => ∃ t, x = .int i t) (fun k => ∃ t, x = .str k t) (fun xs => SeqD h h "list" xs x) (fun xs => SeqD h h "tuple" xs x) (fun _ => True)
theorem readsAll_len {h : Heap} {vs : Array Value} {xs : List PyData} {as : List Addr} (r : ReadsAll h vs.toList xs as) : vs.size = xs.length := by
  have := (of_readsAll r).length
  rwa [Array.length_toList] at this
theorem seqD_mk {h : Heap} {T : String} {xs : List PyData} {a : Addr} {o : Obj} {vs : Array Value} {n : Nat} {as : List Addr} (e : h.get? a = some o) (hc : o.cls = .type T) (hd : o.data = .seq vs n) (r : ReadsAll h vs.toList xs as) : SeqD h h T xs (.ref a) := by
  obtain ⟨c, d, dt, sl⟩ := o
  cases hc; cases hd
  exact ⟨a, vs, n, d, sl, as, e, r, readsAll_len r⟩
theorem reads_inv {h : Heap} {x : Value} {d : PyData} {as : List Addr} (r : Reads h x d as) : RI h x d := by
  cases r with
  | none => exact rfl
  | bool b => exact rfl
  | int i t => exact ⟨t, rfl⟩
  | str k t => exact ⟨t, rfl⟩
  | list h1 h2 h3 h4 => exact seqD_mk h1 h2 h3 h4
  | tuple h1 h2 h3 h4 => exact seqD_mk h1 h2 h3 h4
  | dict => exact trivial
theorem int_inv {h : Heap} {x : Value} {i : Int} {as : List Addr} (r : Reads h x (.int i) as) : ∃ t, x = .int i t := reads_inv r
theorem bool_inv {h : Heap} {x : Value} {b : Bool} {as : List Addr} (r : Reads h x (.bool b) as) : x = .bool b := reads_inv r
theorem none_inv {h : Heap} {x : Value} {as : List Addr} (r : Reads h x .none as) : x = .none := reads_inv r
theorem str_inv {h : Heap} {x : Value} {k : Str} {as : List Addr} (r : Reads h x (.str k) as) : ∃ t, x = .str k t := reads_inv r
theorem lst_inv {h : Heap} {x : Value} {xs : List PyData} {as : List Addr} (r : Reads h x (.list xs) as) : SeqD h h "list" xs x := reads_inv r
theorem tup_inv {h : Heap} {x : Value} {xs : List PyData} {as : List Addr} (r : Reads h x (.tuple xs) as) : SeqD h h "tuple" xs x := reads_inv r

section
variable {prog : Program} {w : World} {A : Around} {E : Value → Shared → Prop} {s : Shared} {h₀ g : Heap} {ρ : List (Addr × Addr)} {σ : Sto}
theorem SeqD.sub {T : String} {xs : List PyData} {x : Value} (S : SR prog w h₀ g ρ σ s.heap) (q : SeqD g g T xs x) : SeqD g s.heap T xs x := by
  obtain ⟨a, vs, n, d, sl, as, h1, h2, h3⟩ := q
  exact ⟨a, vs, n, d, sl, as, S.sub _ _ h1, h2, h3⟩
theorem seqD_list {x : Value} {xs : List PyData} (S : SR prog w h₀ g ρ σ s.heap) (r : RV g ρ x (.d (.list xs))) : SeqD g s.heap "list" xs x := let ⟨_, r⟩ := r; (lst_inv r).sub S
theorem seqD_tuple {x : Value} {xs : List PyData} (S : SR prog w h₀ g ρ σ s.heap) (r : RV g ρ x (.d (.tuple xs))) : SeqD g s.heap "tuple" xs x := let ⟨_, r⟩ := r; (tup_inv r).sub S
theorem SR.at (S : SR prog w h₀ g ρ σ s.heap) {n : Nat} {o : O} (e : σ[n]? = some o) : ∃ p, ρ[n]? = some p ∧ RO prog w g ρ s.heap p o := by
  have hn : n < ρ.length := by rw [S.len]; exact (List.getElem?_eq_some_iff.mp e).1
  exact ⟨ρ[n], List.getElem?_eq_getElem hn, S.sto n o _ e (List.getElem?_eq_getElem hn)⟩
/-- a list of the store, a dict, a thing of a class -/
inductive AtL (g : Heap) (ρ : List (Addr × Addr)) (h : Heap) (n : Nat) (xs : List V) : Value → Prop
  | mk (p : Addr × Addr) (vs : Array Value) (k : Nat) : ρ[n]? = some p → p.2 = p.1 → h.get? p.1 = some { cls := .type "list", data := .seq vs k } → All2 (RV g ρ) vs.toList xs → vs.size = xs.length → AtL g ρ h n xs (.ref p.1)
inductive AtD (prog : Program) (w : World) (g : Heap) (ρ : List (Addr × Addr)) (h : Heap) (n : Nat) (kvs : List (Str × V)) : Value → Prop
  | mk (p : Addr × Addr) (kvs' : List (Str × Value)) : ρ[n]? = some p → p.2 = p.1 → (p.1 == sysModules) = false → h.DictOf (strKind prog w) p.1 kvs' → All2 (fun a b => a.1 = b.1 ∧ RV g ρ a.2 b.2) kvs' kvs → AtD prog w g ρ h n kvs (.ref p.1)
inductive AtI (g : Heap) (ρ : List (Addr × Addr)) (h : Heap) (n : Nat) (C : Addr) (kvs : List (Str × V)) : Value → Prop
  | mk (p : Addr × Addr) (mA : Str → Option Value) : ρ[n]? = some p → RInst h p C mA → (∀ n, (match kvs.lookup n with | some v => ∃ u, mA n = some u ∧ RV g ρ u v | none => mA n = none)) → AtI g ρ h n C kvs (.ref p.1)
theorem SR.atL (S : SR prog w h₀ g ρ σ s.heap) {n : Nat} {xs : List V} {x : Value} (e : σ[n]? = some (.lst xs)) (r : RV g ρ x (.st n)) : AtL g ρ s.heap n xs x := by
  obtain ⟨p, h1, rfl⟩ := r
  obtain ⟨h2, vs, k, h3, h4⟩ := S.sto _ _ p e h1
  exact ⟨p, vs, k, h1, h2, h3, h4, by have := h4.length; rwa [Array.length_toList] at this⟩
theorem SR.atD (S : SR prog w h₀ g ρ σ s.heap) {n : Nat} {xs : List (Str × V)} {x : Value} (e : σ[n]? = some (.dict xs)) (r : RV g ρ x (.st n)) : AtD prog w g ρ s.heap n xs x := by
  obtain ⟨p, h1, rfl⟩ := r
  obtain ⟨h2, h3, k, h4, h5⟩ := S.sto _ _ p e h1
  exact ⟨p, k, h1, h2, h3, h4, h5⟩
theorem SR.atI (S : SR prog w h₀ g ρ σ s.heap) {n : Nat} {C : Addr} {xs : List (Str × V)} {x : Value} (e : σ[n]? = some (.inst C xs)) (r : RV g ρ x (.st n)) : AtI g ρ s.heap n C xs x := by
  obtain ⟨p, h1, rfl⟩ := r
  obtain ⟨m, h2, h3⟩ := S.sto _ _ p e h1
  exact ⟨p, m, h1, h2, h3⟩
theorem seqD_st {x : Value} {n : Nat} {xs : List V} {ds : List PyData} (S : SR prog w h₀ g ρ σ s.heap) (r : RV g ρ x (.st n)) (e : σ[n]? = some (.lst xs)) (hd : datas xs = some ds) : SeqD g s.heap "list" ds x := by
  obtain ⟨p, vs, k, h1, h2, h3, h4, -⟩ := S.atL e r
  obtain ⟨as, ra⟩ := readsAll_of (datas_all2 h4 hd)
  exact ⟨p.1, vs, k, none, #[], as, h3, ra, readsAll_len ra⟩
theorem SeqD.reads_list {x : Value} {xs : List PyData} (S : SR prog w h₀ g ρ σ s.heap) (q : SeqD g s.heap "list" xs x) : ∃ as, Reads s.heap x (.list xs) as := by
  obtain ⟨a, vs, n, d, sl, as, h1, h2, -⟩ := q
  exact ⟨_, .list h1 rfl rfl (ReadsAll.keeps S.sub h2)⟩
theorem SR.reads {x : Value} {d : PyData} (S : SR prog w h₀ g ρ σ s.heap) (r : RV g ρ x (.d d)) : ∃ as, Reads s.heap x d as := let ⟨as, r⟩ := r; ⟨as, Reads.keeps S.sub r⟩
theorem itemsD_seq {x : Value} {v : V} {p : Bool × List PyData} (S : SR prog w h₀ g ρ σ s.heap) (r : RV g ρ x v) (e : itemsD σ v = some p) (hp : p.1 = true) : SeqD g s.heap "list" p.2 x := by
  rcases orr_inv e with e | e
  · obtain ⟨xs, e1, e⟩ := ob_inv e
    cases e
    rw [listOf_inv e1] at r
    exact seqD_list S r
  · rcases orr_inv e with e | e
    · obtain ⟨xs, e1, e⟩ := ob_inv e
      cases e
      exact nomatch hp
    · obtain ⟨n, e1, e⟩ := ob_inv e
      obtain ⟨xs, e2, e⟩ := ob_inv e
      obtain ⟨ds, e3, e⟩ := ob_inv e
      cases e
      rw [vSt_inv e1] at r
      exact seqD_st S r (lstAt_inv e2) e3

/-- a new list or tuple with data items -/
theorem KV.newList {xs : List PyData} {Q : Value → Shared → Prop} (K : KV prog w h₀ g ρ s σ (.d (.list xs)) Q) (S : SR prog w h₀ g ρ σ s.heap) {vs : Array Value} {n : Nat} {as : List Addr} (r : ReadsAll g vs.toList xs as) (tk : Nat) :
    Q (.ref s.heap.objs.size) { s with heap := s.heap.push { cls := .type "list", data := .seq vs n }, toks := tk } :=
  K.pushed S rfl (fun _ gs e => ⟨_, .list e rfl rfl (ReadsAll.keeps gs r)⟩) tk
theorem KV.newTuple {xs : List PyData} {Q : Value → Shared → Prop} (K : KV prog w h₀ g ρ s σ (.d (.tuple xs)) Q) (S : SR prog w h₀ g ρ σ s.heap) {vs : Array Value} {n : Nat} {as : List Addr} (r : ReadsAll g vs.toList xs as) (tk : Nat) :
    Q (.ref s.heap.objs.size) { s with heap := s.heap.push { cls := .type "tuple", data := .seq vs n }, toks := tk } :=
  K.pushed S rfl (fun _ gs e => ⟨_, .tuple e rfl rfl (ReadsAll.keeps gs r)⟩) tk

theorem readsAll_replicate {h : Heap} {v : Value} {x : PyData} {as : List Addr} (r : Reads h v x as) (k : Nat) : ∃ bs, ReadsAll h (List.replicate k v) (List.replicate k x) bs := by
  induction k with
  | zero => exact ⟨_, .nil⟩
  | succ k ih => obtain ⟨_, q⟩ := ih; exact ⟨_, .cons r q⟩
theorem RV.int {x : Value} {i : Int} (r : RV g ρ x (.d (.int i))) : ∃ t, x = .int i t := let ⟨_, r⟩ := r; int_inv r
theorem RV.str {x : Value} {i : Str} (r : RV g ρ x (.d (.str i))) : ∃ t, x = .str i t := let ⟨_, r⟩ := r; str_inv r
theorem RV.bool {x : Value} {b : Bool} (r : RV g ρ x (.d (.bool b))) : x = .bool b := let ⟨_, r⟩ := r; bool_inv r
theorem RV.ofInt {i : Int} {t : Tok} : RV g ρ (.int i t) (.d (.int i)) := ⟨_, .int _ _⟩
theorem RV.ofBool {b : Bool} : RV g ρ (.bool b) (.d (.bool b)) := ⟨_, .bool _⟩
theorem RV.intOf {x : Value} {a : V} {i : Int} (r : RV g ρ x a) (e : intOf a = some i) : ∃ t, x = .int i t := by rw [intOf_inv e] at r; exact r.int
inductive Ints {α : Type} (f : Int → Int → Option α) (r : α) : Value → Value → Prop
  | mk (i j : Int) (t u : Tok) : f i j = some r → Ints f r (.int i t) (.int j u)
theorem ints_inv {α : Type} {f : Int → Int → Option α} {r : α} {a b : V} {x y : Value} (e : (ob (Mine.intOf a) fun i => ob (Mine.intOf b) fun j => f i j) = some r) (ra : RV g ρ x a) (rb : RV g ρ y b) : Ints f r x y := by
  obtain ⟨i, e1, e⟩ := ob_inv e
  obtain ⟨j, e2, e⟩ := ob_inv e
  obtain ⟨t, rfl⟩ := ra.intOf e1
  obtain ⟨u, rfl⟩ := rb.intOf e2
  exact ⟨i, j, t, u, e⟩

section
variable {a b v : V} {σ' : Sto} {x y : Value} {Q : Value → Shared → Prop}
theorem bRep_ok (e : bRep a b σ = some (v, σ')) (S : SR prog w h₀ g ρ σ s.heap) (ra : RV g ρ x a) (rb : RV g ρ y b) (K : KV prog w h₀ g ρ s σ' v Q) : wpAny (model prog w) A (binaryOp .Mult x y) Q E s := by
  obtain ⟨xs, e1, e⟩ := ob_inv e
  obtain ⟨z, e2, e⟩ := ob_inv e
  obtain ⟨j, e3, e⟩ := ob_inv e
  obtain ⟨hj, e⟩ := gd_inv e
  have K := K.of e
  clear e
  rw [tupOf_inv e1, oneOf_inv e2] at ra
  clear e1 e2
  obtain ⟨u, rfl⟩ := rb.intOf e3
  clear rb e3
  have hj := Bool.and_eq_true_iff.mp hj
  obtain ⟨l, vs, n, d, sl, as, ho, rr, -⟩ := seqD_tuple S ra
  obtain ⟨vs⟩ := vs
  cases rr with
  | @cons y1 _ _ _ _ _ r1 r2 =>
    cases r2
    refine wpAny_binaryOp_repeat_ref (T := "tuple") (U := "int") (by decide) ⟨_, ho, rfl⟩ (fun s' => typeIs_int s' _ u) noFill_tuple_mul F.fills_int_mul F.slot_int_rmul repeat_tuple F.slot_int_index.lookup
      (call_meets F.slot_int_rmul (typeIs_int s _ u) F.entry_int_rmul (F.args_int_rmul_2 _ _) (int_rmul_tuple _ u l _ n d sl)
        ⟨ho, rfl, ⟨_, ho, rfl⟩, call_meets F.slot_tuple_mul ⟨_, ho, rfl⟩ F.entry_tuple_mul (F.args_tuple_mul_2 _ _) (tuple_mulW l y1 n d sl j u (of_decide_eq_true hj.1) (of_decide_eq_true hj.2)) ⟨ho, ?_⟩⟩)
    obtain ⟨bs, rr⟩ := readsAll_replicate r1 j.toNat
    refine K.newTuple S (as := bs) ?_ _
    rw [listMul_foldl]
    simpa using rr
theorem bTup_ok (e : bTup a b σ = some (v, σ')) (S : SR prog w h₀ g ρ σ s.heap) (ra : RV g ρ x a) (rb : RV g ρ y b) (K : KV prog w h₀ g ρ s σ' v Q) : wpAny (model prog w) A (binaryOp .Add x y) Q E s := by
  obtain ⟨xs, e1, e⟩ := ob_inv e
  obtain ⟨ys, e2, e⟩ := ob_inv e
  obtain ⟨hs, e⟩ := gd_inv e
  have K := K.of e
  clear e
  rw [tupOf_inv e1] at ra
  rw [tupOf_inv e2] at rb
  clear e1 e2
  have hs := Bool.and_eq_true_iff.mp hs
  obtain ⟨l, vs, n, d, sl, as, ho, rr, hz⟩ := seqD_tuple S ra
  obtain ⟨l2, vs2, n2, d2, sl2, as2, ho2, rr2, hz2⟩ := seqD_tuple S rb
  have s1 := small_len hs.1
  have s2 := small_len hs.2
  clear hs
  by_cases c0 : vs.isEmpty = true
  · refine concat_meets ⟨_, ho, rfl⟩ ⟨_, ho2, rfl⟩ noFill_tuple_add seq_tuple_add F.slot_tuple_add F.entry_tuple_add (F.args_tuple_add_2 _ _) (tuple_addW0 l l2 vs vs2 n n2 d d2 sl sl2 c0) ⟨ho, ho2, ?_⟩
    cases Array.isEmpty_iff.mp c0
    cases rr
    exact K.now' S rb
  · by_cases c1 : vs2.isEmpty = true
    · refine concat_meets ⟨_, ho, rfl⟩ ⟨_, ho2, rfl⟩ noFill_tuple_add seq_tuple_add F.slot_tuple_add F.entry_tuple_add (F.args_tuple_add_2 _ _) (tuple_addW1 l l2 vs vs2 n n2 d d2 sl sl2 c0 c1) ⟨ho, ho2, ?_⟩
      cases Array.isEmpty_iff.mp c1
      cases rr2
      rw [List.append_nil] at K
      exact K.now' S ra
    · refine concat_meets ⟨_, ho, rfl⟩ ⟨_, ho2, rfl⟩ noFill_tuple_add seq_tuple_add F.slot_tuple_add F.entry_tuple_add (F.args_tuple_add_2 _ _) (tuple_addW2 l l2 vs vs2 n n2 d d2 sl sl2 c0 c1 (by have := line_big; lia)) ⟨ho, ho2, ?_⟩
      obtain ⟨cs, rc⟩ := readsAll_append rr rr2
      exact K.newTuple S (as := cs) (by simpa using rc) _
theorem bLst_ok (e : bLst a b σ = some (v, σ')) (S : SR prog w h₀ g ρ σ s.heap) (ra : RV g ρ x a) (rb : RV g ρ y b) (K : KV prog w h₀ g ρ s σ' v Q) : wpAny (model prog w) A (binaryOp .Add x y) Q E s := by
  obtain ⟨p, e1, e⟩ := ob_inv e
  obtain ⟨q, e2, e⟩ := ob_inv e
  obtain ⟨hs, e⟩ := gd_inv e
  have K := K.of e
  clear e
  have hs := Bool.and_eq_true_iff.mp hs
  have hb := Bool.and_eq_true_iff.mp hs.1
  have hs := Bool.and_eq_true_iff.mp hs.2
  obtain ⟨l, vs, n, d, sl, as, ho, rr, hz⟩ := itemsD_seq S ra e1 hb.1
  obtain ⟨l2, vs2, n2, d2, sl2, as2, ho2, rr2, hz2⟩ := itemsD_seq S rb e2 hb.2
  have s1 := small_len hs.1
  have s2 := small_len hs.2
  refine concat_meets ⟨_, ho, rfl⟩ ⟨_, ho2, rfl⟩ noFill_list_add seq_list_add F.slot_list_add F.entry_list_add (F.args_list_add_2 _ _) (list_addW l l2 vs vs2 n n2 d d2 sl sl2 (by have := line_big; lia)) ⟨ho, ho2, ?_⟩
  obtain ⟨cs, rc⟩ := readsAll_append rr rr2
  exact K.newList S (as := cs) (by simpa using rc) _
theorem binop_ok {op : Operator} (e : binop op a b σ = some (v, σ')) (S : SR prog w h₀ g ρ σ s.heap) (ra : RV g ρ x a) (rb : RV g ρ y b) (K : KV prog w h₀ g ρ s σ' v Q) : wpAny (model prog w) A (binaryOp op x y) Q E s := by
  cases op
  case Add =>
    rcases orr_inv e with e | e
    · cases ints_inv e ra rb with
      | mk i j t u e => exact P.add_int ((K.of e).now S .ofInt _)
    · exact (orr_inv e).elim (bTup_ok · S ra rb K) (bLst_ok · S ra rb K)
  case Sub =>
    cases ints_inv e ra rb with
    | mk i j t u e => exact P.sub_int ((K.of e).now S .ofInt _)
  case Mult =>
    rcases orr_inv e with e | e
    · cases ints_inv e ra rb with
      | mk i j t u e =>
        obtain ⟨hm, e⟩ := gd_inv e
        have hm := mid_inv (Bool.and_eq_true_iff.mp hm).1
        exact P.mul_int ((K.of e).now S .ofInt _) (IntMulOk.of_left (intBits_le_64 (by lia) (by lia)))
    · exact bRep_ok e S ra rb K
  case Mod =>
    cases ints_inv e ra rb with
    | mk i j t u e =>
      obtain ⟨hj, e⟩ := gd_inv e
      have hj := Bool.and_eq_true_iff.mp hj
      have h0 := of_decide_eq_true hj.1
      refine mod_int' (Int.ne_of_gt h0) ?_
      rw [Int.fmod_eq_emod_of_nonneg _ (Int.le_of_lt h0)]
      exact (K.of e).now S .ofInt _
  all_goals exact noneE' e
end
end
end Mine

namespace Mine
open PySem PySem.Calls PyProof.Rows PySem.W

theorem plain_upd_loop : plainId "dict.update.loop" = true := by decide +kernel
theorem entry_upd_loop : entryFor table "dict.update.loop" = some Builtin.«dict.update.loop» := entryFor_of_fast (by kernel_rfl)
theorem list_no_keys : typeLookup (.type "list") (Str.ofString "keys") = pure none := by rw [typeLookup_type, builtinLookup_eq_fast]; kernel_rfl
section
variable {prog : Program} {w : World} {A : Around} {E : Value → Shared → Prop} {s : Shared}
theorem getAttr?_list_keys {a : Addr} {xs : Array Value} {k : Nat} {sl : Array (Option Value)} {Q : Option Value → Shared → Prop} (hx : s.heap.get? a = some { cls := .type "list", dict := none, data := .seq xs k, slots := sl }) (hA : A.handled = none)
    (h : ∀ h' tk, (∀ b o, s.heap.get? b = some o → h'.get? b = some o) → Q none { s with heap := h', toks := tk }) : wpAny (model prog w) A (getAttr? (.ref a) (Str.ofString "keys")) Q E s := by
  obtain ⟨hp, g, d, tk, os⟩ := s
  have hT : ∀ tk', (⟨hp, g, d, tk', os⟩ : Shared).TypeIs (.ref a) "list" := fun _ => ⟨_, hx, rfl⟩
  have f1 := sub_AttributeError
  have f3 := F.slot_list_getattribute.lookup
  have f4 := F.slot_list_getattribute.bind (.ref a)
  have f5 := am_list_getattr_none
  have hmiss := list_no_keys
  unfold getAttr? getAttrBy? getAttrBy
  repeat (any_goals (first | assumption | exact hT _ | ((with_reducible show wpAny _ _ (call (Value.builtin "list.__getattribute__") _ _) _ _ _); refine call_meets F.slot_list_getattribute (hT _) am_entry_list_getattribute (F.args_list_getattribute_2 _ _) (meets_getattribute_miss_list a xs k sl _ _ hmiss (by decide +kernel) (by decide +kernel)) ⟨hx, hA, fun h' tk' e hx' => ?_⟩) | wp_step))
  obtain ⟨t', u', he⟩ := hx'.there
  show wpAny _ _ (getattributeRaised _ _ _ _ _ _ _) _ _ _
  unfold getattributeRaised
  have hT2 : ∀ g d tk os, (⟨h', g, d, tk, os⟩ : Shared).TypeIs (.ref e) "AttributeError" := fun _ _ _ _ => ⟨_, he, rfl⟩
  repeat (any_goals (first | assumption | exact hT2 _ _ _ _ | wp_step))
  exact h _ _ hx'.keeps
/-- dict(a list): up to its loop -/
theorem dict_from {a : Addr} {xs : Array Value} {k : Nat} {sl : Array (Option Value)} {Q : Value → Shared → Prop} (hx : s.heap.get? a = some { cls := .type "list", dict := none, data := .seq xs k, slots := sl }) (hA : A.handled = none)
    (h : ∀ h' tk I, (∀ b o, s.heap.get? b = some o → h'.get? b = some o) → s.heap.get? I = none → I ≠ s.heap.objs.size → h'.get? s.heap.objs.size = some { cls := .type "dict", data := .dict #[] } → h'.IsListIter I a 0 →
      codeAny (model prog w) A.in1 (.builtin "dict.update.loop" ⟨[.ref s.heap.objs.size, .ref I, rawInt 0, .none], []⟩) (wants (fun r s₂ => r = .none ∧ Q (.ref s.heap.objs.size) s₂) E) { s with heap := h', toks := tk }) :
    wpAny (model prog w) A (call (.type "dict") [.ref a]) Q E s := by
  refine callType_codes (Q₁ := fun obj s₁ => obj = .ref s.heap.objs.size ∧ s₁ = { s with heap := s.heap.push { cls := .type "dict", data := .dict #[] } }) F.kt_called_dict (F.kt_typeCall_dict_1 _) F.entry_dict_init (kt_code_dict_new _ ⟨rfl, rfl⟩) ?_
  rintro obj s₁ ⟨rfl, rfl⟩
  have hd : (s.heap.push { cls := .type "dict", data := .dict #[] }).get? s.heap.objs.size = some { cls := .type "dict", data := .dict #[] } := Heap.get?_push_size _ rfl
  have hx2 : (s.heap.push { cls := .type "dict", data := .dict #[] }).get? a = some { cls := .type "list", dict := none, data := .seq xs k, slots := sl } := Heap.get?_push_of_some _ hx
  have hT : ∀ tk, ({ s with heap := s.heap.push { cls := .type "dict", data := .dict #[] }, toks := tk } : Shared).TypeIs (.ref s.heap.objs.size) "dict" := fun _ => ⟨_, hd, rfl⟩
  refine ⟨⟨_, hd, rfl⟩, F.args_dict_init_2 _ _, ?_⟩
  unfold Builtin.«dict.__init__»
  refine wpAny_bind ?_
  unfold Builtin.Dict.selfAndRest
  refine wpAny_bind (wpAny_notOrdered_dict ⟨_, hd, rfl⟩ ?_)
  show wpAny _ _ (pure (s.heap.objs.size, [Value.ref a])) _ _ _
  refine wpAny_pure ?_
  show wpAny _ _ (Builtin.Dict.updateFrom "dict.__init__" s.heap.objs.size (.ref a) [] .none) _ _ _
  unfold Builtin.Dict.updateFrom
  refine wpAny_bind (wpAny_typeOf (T := "list") ⟨_, hx2, rfl⟩ ?_)
  rw [if_pos (by decide)]
  refine wpAny_bind (getAttr?_list_keys hx2 hA fun h' tk hk => ?_)
  simp only [Option.isNone_none, if_true]
  refine wpAny_bind (wpAny_rule ?_)
  refine wpAny_bind (wpAny_pyIter_list (items := xs) ⟨_, hk _ _ hx2, rfl, _, rfl⟩ ?_)
  have hs : s.heap.objs.size < h'.objs.size := Heap.lt_size (hk _ _ hd)
  refine wpAny_pure ⟨plainId_quiet plain_upd_loop _, ?_⟩
  refine h _ _ _ (fun b o e => Heap.get?_push_of_some _ (hk _ _ (Heap.get?_push_of_some _ e))) ?_ (Nat.ne_of_gt hs) (Heap.get?_push_of_some _ (hk _ _ hd)) ⟨_, Heap.get?_push_size _ rfl, rfl, rfl⟩
  cases q : s.heap.get? h'.objs.size with
  | none => rfl
  | some o => exact absurd (Heap.lt_size (hk _ _ (Heap.get?_push_of_some _ q))) (Nat.lt_irrefl _)
theorem upd_item {d I a p : Addr} {i : Nat} {xs : Array Value} {kx vx : Value} {n : Nat} {dd : Option Addr} {sl : Array (Option Value)} {R : Result → Shared → Prop} (hit : s.heap.IsListIter I a i) (hl : s.heap.IsList a xs) (hx : xs[i]? = some (.ref p)) (hIp : p ≠ I)
    (hp : s.heap.get? p = some { cls := .type "tuple", dict := dd, data := .seq #[kx, vx] n, slots := sl })
    (h : ∀ h', h'.IsListIter I a (i + 1) → Heap.SameBut I s.heap h' → wpAny (model prog w) A.in1 (dictSet d kx vx) (fun _ s' => codeAny (model prog w) A (.builtin "dict.update.loop" ⟨[.ref d, .ref I, rawInt ((i : Int) + 1), .none], []⟩) R s') (fun e s' => R (.error e) s') { s with heap := h' }) :
    codeAny (model prog w) A (.builtin "dict.update.loop" ⟨[.ref d, .ref I, rawInt i, .none], []⟩) R s := by
  refine codeAny_builtin entry_upd_loop ?_
  rw [Around.under_plainId plain_upd_loop _]
  show wpAny _ A.in1 (pyNext (.ref I) >>= _) _ _ s
  refine wpAny_bind (wpAny_pyNext_list_item hit hl hx fun h' hit' hs => ?_)
  have hp' : h'.get? p = some { cls := .type "tuple", dict := dd, data := .seq #[kx, vx] n, slots := sl } := by rw [hs.2 p hIp]; exact hp
  have h := h h' hit' hs
  refine wpAny_bind (wpAny_holding ?_)
  refine wpAny_bind (wpAny_tryCatch ?_)
  unfold Builtin.Dict.pairItems
  refine wpAny_bind (wpAny_typeOf (T := "tuple") ⟨_, hp', rfl⟩ ?_)
  rw [if_pos (by decide)]
  refine wpAny_bind (wpAny_seqItems hp' rfl (wpAny_pure ?_))
  show wpAny _ A.in1 (holding [kx, vx] (dictSet d kx vx)) _ _ _
  refine wpAny_holding (wpAny_mono h (fun _ s' q => ?_) fun _ _ q => q)
  exact wpAny_pure ⟨plainId_quiet plain_upd_loop _, q⟩
theorem upd_end {d I a : Addr} {i : Nat} {xs : Array Value} {R : Result → Shared → Prop} (hA : A.handled = none) (hit : s.heap.IsListIter I a i) (hl : s.heap.IsList a xs) (hx : xs[i]? = none)
    (h : ∀ h', Heap.ExtBut I s.heap h' → R (.ok (.ret .none)) { s with heap := h' }) : codeAny (model prog w) A (.builtin "dict.update.loop" ⟨[.ref d, .ref I, rawInt i, .none], []⟩) R s := by
  refine codeAny_builtin entry_upd_loop ?_
  rw [Around.under_plainId plain_upd_loop _]
  show wpAny _ A.in1 (pyNext (.ref I) >>= _) _ _ s
  refine wpAny_bind (wpAny_pyNext_list_end hA hit hl hx fun h' hs => ?_)
  exact wpAny_bind (wpAny_pure (wpAny_pure (h h' hs)))
end
section
variable {prog : Program} {w : World} {A : Around} {E : Value → Shared → Prop} {s : Shared} {h₀ g : Heap} {ρ : List (Addr × Addr)} {σ : Sto}
/-- a frozen pair; a frozen list of pairs (it has no dict of its own) -/
inductive FPair (g : Heap) (d e : PyData) : Value → Prop
  | mk (p : Addr) (kx vx : Value) (n : Nat) (dd : Option Addr) (sl : Array (Option Value)) (a1 a2 : List Addr) : g.get? p = some { cls := .type "tuple", dict := dd, data := .seq #[kx, vx] n, slots := sl } → Reads g kx d a1 → Reads g vx e a2 → FPair g d e (.ref p)
theorem frozen_pair {x : Value} {d e : PyData} {as : List Addr} (ra : Reads g x (.tuple [d, e]) as) : FPair g d e x := by
  obtain ⟨p, ⟨vs⟩, n, dd, sl, as, h1, h2, -⟩ := tup_inv ra
  obtain ⟨kx, vx, hv, ⟨a1, r1⟩, ⟨a2, r2⟩⟩ := (of_readsAll h2).two
  cases hv
  exact ⟨p, kx, vx, n, dd, sl, a1, a2, h1, r1, r2⟩
inductive FList (g h : Heap) (d e : PyData) (r : List PyData) : Value → Prop
  | mk (a : Addr) (u : Value) (us : List Value) (n : Nat) (sl : Array (Option Value)) : h.get? a = some { cls := .type "list", dict := none, data := .seq ⟨u :: us⟩ n, slots := sl } → FPair g d e u → All2 (fun v d => ∃ as, Reads g v d as) us r → FList g h d e r (.ref a)
theorem frozen_list {x : Value} {d e : PyData} {r : List PyData} (S : SR prog w h₀ g ρ σ s.heap) (ra : RV g ρ x (.d (.list (.tuple [d, e] :: r)))) : FList g s.heap d e r x := by
  obtain ⟨as, ra⟩ := ra
  obtain ⟨a, ⟨vs⟩, n, dd, sl, as, h1, h2, -⟩ := lst_inv ra
  obtain ⟨u, us, hv, ⟨a1, r1⟩, r2⟩ := (of_readsAll h2).cons_inv
  cases hv
  have f := frozen_pair r1
  have hn := S.nd _ _ h1
  cases dd with
  | none => exact ⟨a, u, us, n, sl, S.sub _ _ h1, f, r2⟩
  | some z => cases f; exact nomatch hn
/-- what the two dicts need: addresses that are the new list's iterator, the new dict -/
theorem off_new {I : Addr} (hI : s.heap.get? I = none) {b : Addr} {o : Obj} (e : s.heap.get? b = some o) : b ≠ I ∧ b ≠ s.heap.objs.size := ⟨fun q => noneE' (hI.symm.trans (q ▸ e)), Nat.ne_of_lt (Heap.lt_size e)⟩
theorem dict_two {k k' : Str} {v v' : PyData} {x : Value} {Q : Value → Shared → Prop} (hk : k ≠ k') (hh : A.handled = none) (hbig : sysModules < s.heap.objs.size) (S : SR prog w h₀ g ρ σ s.heap) (ra : RV g ρ x (.d (.list [.tuple [.str k, v], .tuple [.str k', v']])))
    (K : KV prog w h₀ g ρ s (σ ++ [.dict [(k, .d v), (k', .d v')]]) (.st σ.length) Q) : wpAny (model prog w) A (call (.type "dict") [x]) Q E s := by
  obtain ⟨a, u, us, n, sl, hx, ⟨p1, kx1, vx1, n1, dd1, sl1, _, _, hp1, rk1, rv1⟩, r2⟩ := frozen_list S ra
  obtain ⟨u2, rfl, ⟨_, r2⟩⟩ := r2.one
  obtain ⟨p2, kx2, vx2, n2, dd2, sl2, _, _, hp2, rk2, rv2⟩ := frozen_pair r2
  obtain ⟨t1, rfl⟩ := str_inv rk1
  obtain ⟨t2, rfl⟩ := str_inv rk2
  clear ra r2 rk1 rk2
  have hp1 := S.sub _ _ hp1
  have hp2 := S.sub _ _ hp2
  refine dict_from hx hh fun h1 tk I hk1 hI hIS hd hit => ?_
  have fa := off_new hI hx
  have fp1 := off_new hI hp1
  have fp2 := off_new hI hp2
  refine upd_item (i := 0) hit ⟨_, hk1 _ _ hx, rfl, _, rfl⟩ rfl fp1.1 (hk1 _ _ hp1) fun h2 hit2 s2 => ?_
  have hD2 : h2.DictOf (strKind prog w) s.heap.objs.size [] := ⟨_, #[], 0, (s2.2 _ (Ne.symm hIS)).trans hd, ⟨rfl, rfl, rfl⟩, rfl, fun _ he => by simp at he, Pairs.nil, List.nodup_nil⟩
  refine wpAny_dictSet_pairs (hsz := Nat.zero_le _) (knd := strKind prog w) (k := k) (by simp [PySem.strKind, Value.isStrOf]) hD2 fun h3 hD3 s3 => ?_
  have hit3 : h3.IsListIter I a 1 := by obtain ⟨o, q1, q2⟩ := hit2; exact ⟨o, (s3.2 _ hIS).trans q1, q2⟩
  have k3 : ∀ b o, s.heap.get? b = some o → h3.get? b = some o := fun b o e => (s3.2 _ (off_new hI e).2).trans ((s2.2 _ (off_new hI e).1).trans (hk1 _ _ e))
  clear hk1 hd hit hit2 s2 s3 hD2
  refine upd_item (i := 1) (s := { s with heap := h3, toks := tk + 1 }) hit3 ⟨_, k3 _ _ hx, rfl, _, rfl⟩ rfl fp2.1 (k3 _ _ hp2) fun h4 hit4 s4 => ?_
  have hD4 := hD3.sameBut s4 (Ne.symm hIS)
  refine wpAny_dictSet_pairs (hsz := by simp [stored, sizeLine]) (knd := strKind prog w) (k := k') (by simp [PySem.strKind, Value.isStrOf]) hD4 fun h5 hD5 s5 => ?_
  have hit5 : h5.IsListIter I a 2 := by obtain ⟨o, q1, q2⟩ := hit4; exact ⟨o, (s5.2 _ hIS).trans q1, q2⟩
  have k5 : ∀ b o, s.heap.get? b = some o → h5.get? b = some o := fun b o e => (s5.2 _ (off_new hI e).2).trans ((s4.2 _ (off_new hI e).1).trans (k3 _ _ e))
  clear k3 s4 s5 hD3 hD4 hit3 hit4
  refine upd_end (i := 2) (s := { s with heap := h5, toks := tk + 1 + 1 }) hh hit5 ⟨_, k5 _ _ hx, rfl, _, rfl⟩ rfl fun h6 s6 => ⟨rfl, ?_⟩
  have hD6 := hD5.extBut s6 (Ne.symm hIS)
  have est : stored (stored ([] : List (Str × Value)) k vx1) k' vx2 = [(k, vx1), (k', vx2)] := by simp [stored, hk]
  rw [est] at hD6
  have hne : h6.get? s.heap.objs.size ≠ none := by obtain ⟨o, _, _, q, _⟩ := hD6; rw [q]; exact Option.some_ne_none _
  obtain ⟨S', X⟩ := S.add (p := (s.heap.objs.size, s.heap.objs.size)) (o := .dict [(k, .d v), (k', .d v')]) (fun b o e => s6 b o (off_new hI e).1 (k5 _ _ e)) (size_none _) (size_none _) hne hne
    ⟨rfl, beq_eq_false_iff_ne.mpr (Nat.ne_of_gt hbig), _, hD6, .cons ⟨rfl, _, rv1⟩ (.cons ⟨rfl, _, rv2⟩ .nil)⟩
  refine K _ _ _ _ _ S' X ⟨(s.heap.objs.size, s.heap.objs.size), S.last, rfl⟩
theorem dict_odd {v : PyData} {x : Value} {Q : Value → Shared → Prop} (hh : A.handled = none) (hu : A.units + 66 < cLine) (S : SR prog w h₀ g ρ σ s.heap) (ra : RV g ρ x (.d (.list [.tuple [.tuple [.int 0], v]])))
    (K : KV prog w h₀ g ρ s (σ ++ [.junk]) (.st σ.length) Q) : wpAny (model prog w) A (call (.type "dict") [x]) Q E s := by
  obtain ⟨a, u, us, n, sl, hx, ⟨p1, kx1, vx1, n1, dd1, sl1, _, _, hp1, rk1, rv1⟩, r2⟩ := frozen_list S ra
  cases r2.nil_inv
  obtain ⟨b1, ⟨vb⟩, nb, db, slb, _, q1, q4, -⟩ := tup_inv rk1
  obtain ⟨z, hz, ⟨_, q5⟩⟩ := (of_readsAll q4).one
  cases hz
  obtain ⟨t0, rfl⟩ := int_inv q5
  clear ra r2 rk1 q4 q5
  have hp1 := S.sub _ _ hp1
  have q1 := S.sub _ _ q1
  refine dict_from hx hh fun h1 tk I hk1 hI hIS hd hit => ?_
  have fp1 := off_new hI hp1
  refine upd_item (i := 0) hit ⟨_, hk1 _ _ hx, rfl, _, rfl⟩ rfl fp1.1 (hk1 _ _ hp1) fun h2 hit2 s2 => ?_
  have k2 : ∀ b o, s.heap.get? b = some o → h2.get? b = some o := fun b o e => (s2.2 _ (off_new hI e).1).trans (hk1 _ _ e)
  have hD2 : h2.DictOfH (tupleKind (intKind prog w)) s.heap.objs.size [] := ⟨_, #[], 0, (s2.2 _ (Ne.symm hIS)).trans hd, ⟨rfl, rfl, rfl⟩, rfl, rfl, fun _ he => by simp at he, List.nodup_nil⟩
  have hkey : IsTupleKey (intKind prog w) h2 [0] b1 := ⟨_, _, _, k2 _ _ q1, rfl, rfl, .cons (by simp [PySem.intKind, Value.isInt]) .nil⟩
  refine wpAny_dictSet_heap (hsz := Nat.zero_le _) (knd := tupleKind (intKind prog w)) (k := [0]) (show A.in1.in1.units < cLine by have h1 : A.in1.in1.units = A.units + 1 + 1 := rfl; lia) hkey hD2 fun h3 hD3 s3 => ?_
  have hit3 : h3.IsListIter I a 1 := by obtain ⟨o, q1, q2⟩ := hit2; exact ⟨o, (s3.2 _ hIS).trans q1, q2⟩
  have k3 : ∀ b o, s.heap.get? b = some o → h3.get? b = some o := fun b o e => (s3.2 _ (off_new hI e).2).trans (k2 _ _ e)
  refine upd_end (i := 1) (s := { s with heap := h3, toks := _ }) hh hit3 ⟨_, k3 _ _ hx, rfl, _, rfl⟩ rfl fun h6 s6 => ⟨rfl, ?_⟩
  have hne : h6.get? s.heap.objs.size ≠ none := by
    obtain ⟨o, _, _, q, _⟩ := hD3
    rw [s6 _ _ (Ne.symm hIS) q]; exact Option.some_ne_none _
  obtain ⟨S', X⟩ := S.add (p := (s.heap.objs.size, s.heap.objs.size)) (o := .junk) (fun b o e => s6 b o (off_new hI e).1 (k3 _ _ e)) (size_none _) (size_none _) hne hne rfl
  refine K _ _ _ _ _ S' X ⟨(s.heap.objs.size, s.heap.objs.size), S.last, rfl⟩
end
end Mine
namespace Mine
open PySem PySem.Calls PyProof.Rows PySem.W

theorem lookup_valueAt {g : Heap} {ρ : List (Addr × Addr)} {k : Str} {v : V} {kvs' : List (Str × Value)} {kvs : List (Str × V)} (h : All2 (fun a b => a.1 = b.1 ∧ RV g ρ a.2 b.2) kvs' kvs) (e : kvs.lookup k = some v) : ∃ u, valueAt kvs' k = some u ∧ RV g ρ u v := by
  induction h with
  | nil => exact noneE' e
  | @cons a b _ _ h1 _ ih =>
    obtain ⟨a, u⟩ := a
    obtain ⟨b, z⟩ := b
    obtain ⟨rfl, h2⟩ := h1
    by_cases q : k = a
    · subst q
      rw [List.lookup_cons_self] at e
      cases e
      exact ⟨u, by simp [valueAt], h2⟩
    · rw [List.lookup_cons, beq_eq_false_iff_ne.mpr q] at e
      obtain ⟨u', h3, h4⟩ := ih e
      exact ⟨u', by rw [← h3]; simp [valueAt, List.find?_cons, Ne.symm q], h4⟩
theorem lookup_isSome {g : Heap} {ρ : List (Addr × Addr)} {k : Str} {kvs' : List (Str × Value)} {kvs : List (Str × V)} (h : All2 (fun a b => a.1 = b.1 ∧ RV g ρ a.2 b.2) kvs' kvs) : (valueAt kvs' k).isSome = (kvs.lookup k).isSome := by
  induction h with
  | nil => rfl
  | @cons a b _ _ h1 _ ih =>
    obtain ⟨a, u⟩ := a
    obtain ⟨b, z⟩ := b
    obtain ⟨rfl, h2⟩ := h1
    by_cases q : k = a
    · subst q
      rw [List.lookup_cons_self]
      simp [valueAt]
    · rw [List.lookup_cons, beq_eq_false_iff_ne.mpr q, ← ih]
      simp [valueAt, List.find?_cons, Ne.symm q]
theorem stored_putD {g : Heap} {ρ : List (Addr × Addr)} {k : Str} {u : Value} {v : V} (hv : RV g ρ u v) {kvs' : List (Str × Value)} {kvs : List (Str × V)} (h : All2 (fun a b => a.1 = b.1 ∧ RV g ρ a.2 b.2) kvs' kvs) :
    All2 (fun a b => a.1 = b.1 ∧ RV g ρ a.2 b.2) (stored kvs' k u) (putD kvs k v) := by
  have e : ∀ {kvs' : List (Str × Value)} {kvs : List (Str × V)}, All2 (fun a b => a.1 = b.1 ∧ RV g ρ a.2 b.2) kvs' kvs → kvs'.any (fun kv => decide (kv.1 = k)) = kvs.any (fun p => p.1 == k) := by
    intro l m h
    induction h with
    | nil => rfl
    | cons a _ ih => rw [List.any_cons, List.any_cons, ih, a.1]; rfl
  unfold stored putD
  rw [e h]
  split
  · have : ∀ {kvs' : List (Str × Value)} {kvs : List (Str × V)}, All2 (fun a b => a.1 = b.1 ∧ RV g ρ a.2 b.2) kvs' kvs →
        All2 (fun a b => a.1 = b.1 ∧ RV g ρ a.2 b.2) (kvs'.map fun kv => if kv.1 = k then (kv.1, u) else kv) (kvs.map fun p => if p.1 == k then (p.1, v) else p) := by
      intro l m h
      induction h with
      | nil => exact .nil
      | @cons a b _ _ h1 _ ih =>
        rw [List.map_cons, List.map_cons]
        refine .cons ?_ ih
        by_cases q : a.1 = k
        · have q' : (b.1 == k) = true := by rw [← h1.1]; simpa using q
          rw [if_pos q, if_pos q']
          exact ⟨h1.1, hv⟩
        · have q' : ¬ (b.1 == k) = true := by rw [← h1.1]; simpa using q
          rw [if_neg q, if_neg q']
          exact h1
    exact this h
  · exact h.append (.cons ⟨rfl, hv⟩ .nil)

theorem strPair_inv {d : PyData} {p : Str × PyData} (e : strPair d = some p) : d = .tuple [.str p.1, p.2] := by
  obtain ⟨xs, e1, e⟩ := ob_inv e
  obtain ⟨q, e2, e⟩ := ob_inv e
  obtain ⟨k, e3, e⟩ := ob_inv e
  cases e
  rw [dTup_inv e1, twoOf_inv e2, dStr_inv e3]
theorem oddPair_inv {d v : PyData} (e : oddPair d = some v) : d = .tuple [.tuple [.int 0], v] := by
  obtain ⟨xs, e1, e⟩ := ob_inv e
  obtain ⟨q, e2, e⟩ := ob_inv e
  obtain ⟨ys, e3, e⟩ := ob_inv e
  obtain ⟨z, e4, e⟩ := ob_inv e
  obtain ⟨i, e5, e⟩ := ob_inv e
  obtain ⟨h, e⟩ := gd_inv e
  cases e
  rw [dTup_inv e1, twoOf_inv e2, dTup_inv e3, oneOf_inv e4, dInt_inv e5, beq_iff_eq.mp h]
section
variable {prog : Program} {w : World} {A : Around} {E : Value → Shared → Prop} {s : Shared} {h₀ g : Heap} {ρ : List (Addr × Addr)} {σ : Sto}
noncomputable def inOp (neg : Bool) : CmpOp := br neg .NotIn .In
section
variable {c : Bool} {x y : Value} {Q : Value → Shared → Prop} (neg : Bool)
theorem memD_ok {d : PyData} {ds : List PyData} {as bs : List Addr} (e : memD d ds = some c) (hu : A.units + 66 < cLine) (rb : Reads s.heap y (.list ds) as) (ra : Reads s.heap x d bs) (K : ∀ tk, Q (.bool (br neg (!c) c)) { s with toks := tk }) : wpAny (model prog w) A (compareOp (inOp neg) x y) Q E s := by
  obtain ⟨hs, e⟩ := gd_inv e
  cases e
  have hs := Bool.and_eq_true_iff.mp hs
  cases neg with
  | false => exact SeqAt.in_list_reads rb ra (SeqAt.canLay_of_shaped hs.1) (SeqAt.canLay_of_shaped hs.2) (room_in_shaped hs.2 (by lia)) (K _)
  | true => exact SeqAt.notIn_list_reads rb ra (SeqAt.canLay_of_shaped hs.1) (SeqAt.canLay_of_shaped hs.2) (room_in_shaped hs.2 (by lia)) (K _)
theorem memT_ok {d : PyData} {ds : List PyData} {as bs : List Addr} (e : memT d ds = some c) (hu : A.units + 66 < cLine) (rb : Reads s.heap y (.tuple ds) as) (ra : Reads s.heap x d bs) (K : ∀ tk, Q (.bool (br neg (!c) c)) { s with toks := tk }) : wpAny (model prog w) A (compareOp (inOp neg) x y) Q E s := by
  obtain ⟨hs, e⟩ := gd_inv e
  cases e
  have hs := Bool.and_eq_true_iff.mp hs
  cases neg with
  | false => exact SeqAt.in_tuple_reads rb ra (SeqAt.canLay_of_shaped hs.1) (SeqAt.canLay_of_shaped hs.2) (room_in_shaped hs.2 (by lia)) (K _)
  | true => exact SeqAt.notIn_tuple_reads rb ra (SeqAt.canLay_of_shaped hs.1) (SeqAt.canLay_of_shaped hs.2) (room_in_shaped hs.2 (by lia)) (K _)
theorem inSeq_ok {a b : V} (e : inSeq a b σ = some c) (hu : A.units + 66 < cLine) (S : SR prog w h₀ g ρ σ s.heap) (ra : RV g ρ x a) (rb : RV g ρ y b)
    (K : ∀ tk, Q (.bool (br neg (!c) c)) { s with toks := tk }) : wpAny (model prog w) A (compareOp (inOp neg) x y) Q E s := by
  obtain ⟨d, e1, e⟩ := ob_inv e
  rw [vD_inv e1] at ra
  obtain ⟨_, ra⟩ := S.reads ra
  rcases orr_inv e with e | e
  · obtain ⟨z, e2, e⟩ := ob_inv e
    rw [vD_inv e2] at rb
    obtain ⟨_, rb⟩ := S.reads rb
    rcases orr_inv e with e | e
    · obtain ⟨ds, e3, e⟩ := ob_inv e
      rw [dList_inv e3] at rb
      exact memD_ok neg e hu rb ra K
    · obtain ⟨ds, e3, e⟩ := ob_inv e
      rw [dTup_inv e3] at rb
      exact memT_ok neg e hu rb ra K
  · obtain ⟨n, e2, e⟩ := ob_inv e
    obtain ⟨xs, e3, e⟩ := ob_inv e
    obtain ⟨ds, e4, e⟩ := ob_inv e
    rw [vSt_inv e2] at rb
    obtain ⟨_, rl⟩ := (seqD_st S rb (lstAt_inv e3) e4).reads_list S
    exact memD_ok neg e hu rl ra K
theorem inDict_ok {d : PyData} {b : V} (e : inDict d b σ = some c) (S : SR prog w h₀ g ρ σ s.heap) (ra : RV g ρ x (.d d)) (rb : RV g ρ y b) (K : ∀ tk, Q (.bool c) { s with toks := tk }) : wpAny (model prog w) A (compareOp .In x y) Q E s := by
  obtain ⟨n, e1, e⟩ := ob_inv e
  obtain ⟨kvs, e2, e⟩ := ob_inv e
  obtain ⟨k, e3, e⟩ := ob_inv e
  cases e
  rw [dStr_inv e3] at ra
  obtain ⟨t, rfl⟩ := ra.str
  rw [vSt_inv e1] at rb
  obtain ⟨p, kvs', h1, h2, h3, h4, h5⟩ := S.atD (dictAt_inv e2) rb
  refine wpAny_in_of (knd := PySem.strKind prog w) (k := k) (by simp [PySem.strKind, Value.isStrOf]) h3 h4.mapOf ?_
  rw [lookup_isSome h5]
  exact K _
end
inductive EqI (a b : V) (c : Bool) : Prop
  | mk (x y : PyData) : a = .d x → b = .d y → shapedD x = true → shapedD y = true → c = PyData.eqv x y → EqI a b c
theorem cmpEq_inv {a b : V} {c : Bool} (e : cmpEq a b = some c) : EqI a b c := by
  obtain ⟨x, e1, e⟩ := ob_inv e
  obtain ⟨y, e2, e⟩ := ob_inv e
  obtain ⟨h, e⟩ := gd_inv e
  have h := Bool.and_eq_true_iff.mp h
  exact ⟨x, y, vD_inv e1, vD_inv e2, h.1, h.2, (Option.some.inj e).symm⟩
theorem cmpIs_ok {a b : V} {c : Bool} {x y : Value} {Q : Value → Shared → Prop} (e : cmpIs a b = some c) (ra : RV g ρ x a) (rb : RV g ρ y b) (K : Q (.bool c) s) : wpAny (model prog w) A (compareOp .IsNot x y) Q E s := by
  obtain ⟨j, e1, e⟩ := ob_inv e
  rw [boolOf_inv e1] at rb
  cases rb.bool
  rcases orr_inv e with e | e
  · obtain ⟨i, e2, e⟩ := ob_inv e
    rw [boolOf_inv e2] at ra
    cases ra.bool
    cases e
    refine wpAny_isNot_plain rfl ?_
    have e : (!(Value.bool i == Value.bool j)) = (i != j) := by cases i <;> cases j <;> decide
    rw [e]
    exact K
  · obtain ⟨hn, e⟩ := gd_inv e
    cases e
    have ha : a = .d .none := by
      cases a with
      | d z => exact congrArg _ (dNone_inv hn)
      | _ => exact nomatch hn
    rw [ha] at ra
    obtain ⟨_, ra⟩ := ra
    cases none_inv ra
    exact wpAny_isNot_plain rfl K
theorem cmpop_ok {op : CmpOp} {a b : V} {c : Bool} {σ' : Sto} {x y : Value} {Q : Value → Shared → Prop} (e : cmpop op a b σ = some (c, σ')) (hu : A.units + 66 < cLine) (S : SR prog w h₀ g ρ σ s.heap) (ra : RV g ρ x a) (rb : RV g ρ y b)
    (K : ∀ tk, σ' = σ → Q (.bool c) { s with toks := tk }) : wpAny (model prog w) A (compareOp op x y) Q E s := by
  obtain ⟨c', e, ec⟩ := ob_inv e
  have K : ∀ tk, Q (.bool c') { s with toks := tk } := by cases ec; exact fun tk => K tk rfl
  clear ec
  cases op
  case Eq =>
    obtain ⟨x1, y1, rfl, rfl, h1, h2, rfl⟩ := cmpEq_inv e
    obtain ⟨_, ra⟩ := S.reads ra; obtain ⟨_, rb⟩ := S.reads rb
    exact eq_dataH ra rb h1 h2 (by lia) (K _)
  case NotEq =>
    obtain ⟨c1, e1, ec⟩ := ob_inv e
    cases ec
    obtain ⟨x1, y1, rfl, rfl, h1, h2, rfl⟩ := cmpEq_inv e1
    obtain ⟨_, ra⟩ := S.reads ra; obtain ⟨_, rb⟩ := S.reads rb
    exact ne_dataH ra rb h1 h2 (by lia) (K _)
  case Lt =>
    cases ints_inv e ra rb with
    | mk i j t u e => cases e; exact P.lt_int (K _)
  case LtE =>
    cases ints_inv e ra rb with
    | mk i j t u e => cases e; exact P.le_int (K _)
  case Gt =>
    cases ints_inv e ra rb with
    | mk i j t u e => cases e; exact P.gt_int (K _)
  case IsNot => exact cmpIs_ok e ra rb (K s.toks)
  case In =>
    rcases orr_inv e with e | e
    · exact inSeq_ok false e hu S ra rb K
    · obtain ⟨d, e1, e⟩ := ob_inv e
      rw [vD_inv e1] at ra
      exact inDict_ok e S ra rb K
  case NotIn =>
    obtain ⟨c1, e1, ec⟩ := ob_inv e
    cases ec
    exact inSeq_ok true e1 hu S ra rb K
  all_goals exact noneE' e

theorem orr_pure {x : PyData} {xs : List PyData} (e : orr (dList x) (dTup x) = some xs) : x = .list xs ∨ x = .tuple xs := (orr_inv e).imp dList_inv dTup_inv
theorem subStr_ok {a v : V} {k : Str} {x y : Value} {Q : Value → Shared → Prop} (e : subStr a k σ = some v) (S : SR prog w h₀ g ρ σ s.heap) (ra : RV g ρ x a) (rb : RV g ρ y (.d (.str k))) (K : KV prog w h₀ g ρ s σ v Q) : wpAny (model prog w) A (getItem x y) Q E s := by
  obtain ⟨n, e1, e⟩ := ob_inv e
  obtain ⟨kvs, e2, e⟩ := ob_inv e
  rw [vSt_inv e1] at ra
  obtain ⟨u, rfl⟩ := rb.str
  obtain ⟨p, kvs', h1, h2, h3, h4, h5⟩ := S.atD (dictAt_inv e2) ra
  obtain ⟨z, h6, h7⟩ := lookup_valueAt h5 e
  exact wpAny_getItem_of (knd := PySem.strKind prog w) (k := k) (by simp [PySem.strKind, Value.isStrOf]) h4.mapOf h6 (K.now S h7 _)
theorem subInt_ok {a v : V} {i : Int} {x y : Value} {Q : Value → Shared → Prop} (e : subInt a i.toNat σ = some v) (h0 : 0 ≤ i) (h1 : i < 1000) (S : SR prog w h₀ g ρ σ s.heap) (ra : RV g ρ x a) (rb : RV g ρ y (.d (.int i))) (K : KV prog w h₀ g ρ s σ v Q) : wpAny (model prog w) A (getItem x y) Q E s := by
  obtain ⟨u, rfl⟩ := rb.int
  clear rb
  cases a with
  | d z =>
    obtain ⟨xs, e1, e⟩ := ob_inv e
    obtain ⟨d, e2, e3⟩ := Option.map_eq_some_iff.mp e
    rw [← e3] at K
    clear e e3
    rcases orr_pure e1 with rfl | rfl
    · obtain ⟨l, vs, n, dd, sl, as, ho, rr, hz⟩ := seqD_list S ra
      obtain ⟨z, bs, h1, h2⟩ := readsAll_get rr e2
      exact wpAny_getItem_list (items := vs) ⟨_, ho, rfl, _, rfl⟩ h0 (by lia) (x := z) (by simpa using h1) (K.now' S ⟨_, h2⟩)
    · obtain ⟨l, vs, n, dd, sl, as, ho, rr, hz⟩ := seqD_tuple S ra
      obtain ⟨z, bs, h1, h2⟩ := readsAll_get rr e2
      have hz' : vs[i.toNat]? = some z := by simpa using h1
      have hl := (Array.getElem?_eq_some_iff.mp hz').1
      refine PyProof.Rows.getItem_tuple (items := vs) ⟨_, ho, rfl, _, rfl⟩ (by lia) (by lia) (j := i.toNat) ?_ hz' (K.now' S ⟨_, h2⟩)
      unfold seqIndex?
      rw [if_neg (show ¬ i < 0 by lia)]
      have e : (decide (0 ≤ i) && decide (i < ((vs.size : Nat) : Int))) = true := by simp; lia
      simp only [e, if_true]
  | st n =>
    obtain ⟨xs, e1, e⟩ := ob_inv e
    obtain ⟨p, vs, k, q1, q2, q3, q4, q5⟩ := S.atL (lstAt_inv e1) ra
    obtain ⟨z, h5, h6⟩ := q4.get e
    exact wpAny_getItem_list (items := vs) ⟨_, q3, rfl, _, rfl⟩ h0 (by lia) (x := z) (by simpa using h5) (K.now' S h6)
  | val u => exact noneE' e
  | rng a b => exact noneE' e
theorem subscr_ok {a b v : V} {x y : Value} {Q : Value → Shared → Prop} (e : subscr a b σ = some v) (S : SR prog w h₀ g ρ σ s.heap) (ra : RV g ρ x a) (rb : RV g ρ y b)
    (K : KV prog w h₀ g ρ s σ v Q) : wpAny (model prog w) A (getItem x y) Q E s := by
  rcases orr_inv e with e | e
  · obtain ⟨i, e1, e⟩ := ob_inv e
    obtain ⟨h, e⟩ := gd_inv e
    have h := Bool.and_eq_true_iff.mp h
    rw [intOf_inv e1] at rb
    exact subInt_ok e (of_decide_eq_true h.1) (of_decide_eq_true h.2) S ra rb K
  · obtain ⟨k, e1, e⟩ := ob_inv e
    rw [strOfV_inv e1] at rb
    exact subStr_ok e S ra rb K

theorem range_items {g : Heap} {a : Int} : ∀ (n : Nat) (vs : List Value), vs.length = n → (∀ i < n, ∃ t, vs[i]? = some (.int (a + i) t)) → ∃ as, ReadsAll g vs ((numsUp a n).map .int) as := by
  intro n
  induction n generalizing a with
  | zero => intro vs h _; cases vs with
    | nil => exact ⟨_, .nil⟩
    | cons _ _ => simp at h
  | succ n ih =>
    intro vs h hi
    cases vs with
    | nil => simp at h
    | cons v vs =>
      obtain ⟨t, e⟩ := hi 0 (by lia)
      simp at e
      subst e
      obtain ⟨as, r⟩ := ih (a := a + 1) vs (by simpa using h) fun i q => by
        obtain ⟨t, e⟩ := hi (i + 1) (by lia)
        refine ⟨t, ?_⟩
        simp at e
        rw [e]
        congr 2
        lia
      exact ⟨_, .cons (.int _ _) r⟩

theorem lenV_ok {v : V} {n : Nat} {x : Value} {Q : Value → Shared → Prop} (e : lenV v σ = some n) (S : SR prog w h₀ g ρ σ s.heap) (r : RV g ρ x v) (K : ∀ tk u, Q (.int n u) { s with toks := tk }) : wpAny (model prog w) A (call (.builtin "len") [x]) Q E s := by
  obtain ⟨m, e, e2⟩ := ob_inv e
  obtain ⟨hs, e2⟩ := gd_inv e2
  cases e2
  have hn : ((n : Nat) : Int) < 2 ^ 63 := by have := Nat.le_of_ble_eq_true hs; lia
  clear hs
  cases v with
  | d z =>
    obtain ⟨xs, e1, e⟩ := ob_inv e
    cases e
    rcases orr_pure e1 with rfl | rfl
    · obtain ⟨l, vs, n, dd, sl, as, ho, rr, hz⟩ := seqD_list S r
      rw [← hz] at hn K
      exact call_len_list (items := vs) ⟨_, ho, rfl, _, rfl⟩ hn (K _ _)
    · obtain ⟨l, vs, n, dd, sl, as, ho, rr, hz⟩ := seqD_tuple S r
      rw [← hz] at hn K
      exact PyProof.Rows.len_tuple (items := vs) ⟨_, ho, rfl, _, rfl⟩ hn (K _ _)
  | st k =>
    rcases orr_inv e with e | e
    · obtain ⟨xs, e1, e⟩ := ob_inv e
      cases e
      obtain ⟨p, vs, k, q1, q2, q3, q4, q5⟩ := S.atL (lstAt_inv e1) r
      rw [← q5] at hn K
      exact call_len_list (items := vs) ⟨_, q3, rfl, _, rfl⟩ hn (K _ _)
    · obtain ⟨xs, e1, e⟩ := ob_inv e
      cases e
      obtain ⟨p, kvs', h1, h2, h3, h4, h5⟩ := S.atD (dictAt_inv e1) r
      rw [← h5.length] at hn K
      exact call_len_dict h3 h4 hn (K _ _)
  | val u => exact noneE' e
  | rng a b => exact noneE' e
theorem isiV_ok {a b : V} {c : Bool} {x y : Value} {Q : Value → Shared → Prop} (e : isiV a b = some c) (S : SR prog w h₀ g ρ σ s.heap) (ra : RV g ρ x a) (rb : RV g ρ y b) (K : ∀ tk, Q (.bool c) { s with toks := tk }) : wpAny (model prog w) A (call (.builtin "isinstance") [x, y]) Q E s := by
  obtain ⟨d, e1, e⟩ := ob_inv e
  obtain ⟨u, e2, e⟩ := ob_inv e
  obtain ⟨T, e3, e⟩ := ob_inv e
  rw [vD_inv e1] at ra
  rw [vVal_inv e2, tyOf_inv e3] at rb
  cases rb
  clear e1 e2 e3
  rcases orr_inv e with e | e
  · obtain ⟨xs, e1, e⟩ := ob_inv e
    obtain ⟨h, e⟩ := gd_inv e
    cases of_decide_eq_true h
    cases e
    rw [dTup_inv e1] at ra
    obtain ⟨l, vs, n, dd, sl, as, ho, rr, hz⟩ := seqD_tuple S ra
    exact IsiPair.tuple_tuple ho rfl (K _)
  · obtain ⟨i, e1, e⟩ := ob_inv e
    rw [dInt_inv e1] at ra
    obtain ⟨t, rfl⟩ := ra.int
    rcases orr_inv e with e | e
    · obtain ⟨h, e⟩ := gd_inv e
      cases of_decide_eq_true h
      cases e
      exact IsiPair.int_int (K _)
    · obtain ⟨h, e⟩ := gd_inv e
      cases of_decide_eq_true h
      cases e
      exact IsiPair.int_bool (K _)
section
variable {vs : List V} {v : V} {σ' : Sto} {us : List Value} {Q : Value → Shared → Prop}
theorem dictD_ok {ds : List PyData} {x : Value} (e : dictD ds σ = some (v, σ')) (hh : A.handled = none) (hu : A.units + 66 < cLine) (hbig : sysModules < s.heap.objs.size) (S : SR prog w h₀ g ρ σ s.heap) (r : RV g ρ x (.d (.list ds)))
    (K : KV prog w h₀ g ρ s σ' v Q) : wpAny (model prog w) A (call (.type "dict") [x]) Q E s := by
  rcases orr_inv e with e | e
  · obtain ⟨a, e1, e⟩ := ob_inv e
    obtain ⟨z, e2, e⟩ := ob_inv e
    rw [oneOf_inv e1, oddPair_inv e2] at r
    exact dict_odd hh hu S r (K.of e)
  · obtain ⟨p, e1, e⟩ := ob_inv e
    obtain ⟨a, e2, e⟩ := ob_inv e
    obtain ⟨b, e3, e⟩ := ob_inv e
    obtain ⟨h, e⟩ := gd_inv e
    rw [twoOf_inv e1, strPair_inv e2, strPair_inv e3] at r
    exact dict_two (by simpa using h) hh hbig S r (K.of e)
theorem callId_ok {id : String} (e : callId id vs σ = some (v, σ')) (S : SR prog w h₀ g ρ σ s.heap) (rs : All2 (RV g ρ) us vs) (K : KV prog w h₀ g ρ s σ' v Q) : wpAny (model prog w) A (call (.builtin id) us) Q E s := by
  rcases orr_inv e with e | e
  · obtain ⟨h, e⟩ := gd_inv e
    cases of_decide_eq_true h
    obtain ⟨p, e1, e⟩ := ob_inv e
    obtain ⟨c, e2, e⟩ := ob_inv e
    rw [twoOf_inv e1] at rs
    obtain ⟨x, y, rfl, r, r1⟩ := rs.two
    exact isiV_ok e2 S r r1 fun tk => (K.of e).now S .ofBool _
  rcases orr_inv e with e | e
  · obtain ⟨h, e⟩ := gd_inv e
    cases of_decide_eq_true h
    obtain ⟨z, e1, e⟩ := ob_inv e
    obtain ⟨n, e2, e⟩ := ob_inv e
    rw [oneOf_inv e1] at rs
    obtain ⟨x, rfl, r⟩ := rs.one
    exact lenV_ok e2 S r fun tk u => (K.of e).now S .ofInt _
  · obtain ⟨h, e⟩ := gd_inv e
    cases of_decide_eq_true h
    obtain ⟨z, e1, e⟩ := ob_inv e
    obtain ⟨i, e2, e⟩ := ob_inv e
    rw [oneOf_inv e1] at rs
    obtain ⟨x, rfl, r⟩ := rs.one
    obtain ⟨t, rfl⟩ := r.intOf e2
    refine call_abs_int fun u tk => ?_
    have q : (if i < 0 then -i else i) = ((i.natAbs : Nat) : Int) := by split <;> lia
    rw [q]
    exact (K.of e).now S .ofInt _
theorem rng_ok {p : Int × Int} (e : rngOf vs = some p) (h1 : mid p.1 = true) (h2 : mid p.2 = true) (S : SR prog w h₀ g ρ σ s.heap) (rs : All2 (RV g ρ) us vs)
    (K : KV prog w h₀ g ρ s σ (.rng p.1 p.2) Q) : wpAny (model prog w) A (call (.type "range") us) Q E s := by
  have hb := And.intro (mid_inv h1).1 (And.intro (mid_inv h1).2 (mid_inv h2))
  clear h1 h2
  rcases orr_inv e with e | e
  · obtain ⟨z, e1, e⟩ := ob_inv e
    obtain ⟨i, e2, e⟩ := ob_inv e
    cases e
    rw [oneOf_inv e1] at rs
    obtain ⟨x, rfl, r⟩ := rs.one
    obtain ⟨t, rfl⟩ := r.intOf e2
    exact call_range_1 (K.pushed S rfl (fun g' gs e => ⟨_, _, _, _, rfl, e, hb⟩) _)
  · obtain ⟨z, e1, e⟩ := ob_inv e
    obtain ⟨i, e2, e⟩ := ob_inv e
    obtain ⟨j, e3, e⟩ := ob_inv e
    cases e
    rw [twoOf_inv e1] at rs
    obtain ⟨x, y, rfl, r, r1⟩ := rs.two
    obtain ⟨t, rfl⟩ := r.intOf e2
    obtain ⟨t, rfl⟩ := r1.intOf e3
    exact call_range_2 (K.pushed S rfl (fun g' gs e => ⟨_, _, _, _, rfl, e, hb⟩) _)
theorem callTup_ok (e : callTup vs σ = some (v, σ')) (S : SR prog w h₀ g ρ σ s.heap) (rs : All2 (RV g ρ) us vs) (K : KV prog w h₀ g ρ s σ' v Q) : wpAny (model prog w) A (call (.type "tuple") us) Q E s := by
  obtain ⟨z, e1, e⟩ := ob_inv e
  obtain ⟨p, e2, e⟩ := ob_inv e
  obtain ⟨h, e⟩ := gd_inv e
  have h := Bool.and_eq_true_iff.mp h
  rw [oneOf_inv e1] at rs
  obtain ⟨x, rfl, r⟩ := rs.one
  obtain ⟨l, vs, n, dd, sl, as, ho, rr, hz⟩ := itemsD_seq S r e2 h.1
  have := small_len h.2
  have lb := line_big
  refine call_tuple_list (items := vs) ⟨_, ho, rfl, _, rfl⟩ (fun h' hk => ?_) (by lia)
  obtain ⟨S', X⟩ := S.grow hk
  exact ((K.of e).ext (tk := s.toks) X).newTuple S' rr _
theorem callLst_ok (e : callLst vs σ = some (v, σ')) (hh : A.handled = none) (S : SR prog w h₀ g ρ σ s.heap) (rs : All2 (RV g ρ) us vs) (K : KV prog w h₀ g ρ s σ' v Q) : wpAny (model prog w) A (call (.type "list") us) Q E s := by
  obtain ⟨z, e1, e⟩ := ob_inv e
  obtain ⟨⟨a, b⟩, e2, e⟩ := ob_inv e
  obtain ⟨hs, e⟩ := gd_inv e
  have K := K.of e
  have hs := Bool.and_eq_true_iff.mp hs
  have h1 : b - a < 1000 := of_decide_eq_true hs.1
  have hs := Bool.and_eq_true_iff.mp hs.2
  have ha := mid_inv (i := a) hs.1
  have hb := mid_inv (i := b) hs.2
  rw [oneOf_inv e1, vRng_inv e2] at rs
  clear e hs e1 e2
  obtain ⟨x, rfl, r⟩ := rs.one
  obtain ⟨r, t, u, k, rfl, h2, -⟩ := r
  have lb := line_big
  have hn : Builtin.Range.rangeSize a b 1 = ((b - a).toNat : Nat) := by rw [rangeSize_one]; split <;> lia
  refine call_list_range (n := (b - a).toNat) hh (S.sub _ _ h2) (small_one (by lia) (by lia) (by lia) (by lia)) hn (by lia) fun h' tk acc' c' hk hS' hacc => ?_
  obtain ⟨as, rr⟩ := range_items (g := g) (a := a) (b - a).toNat acc'.toList (by simpa using hacc.1) (fun i hi => (by
    have hi' : i < acc'.size := by rw [hacc.1]; exact hi
    obtain ⟨t, q⟩ := hacc.2 i acc'[i] (Array.getElem?_eq_getElem hi')
    refine ⟨t, ?_⟩
    rw [Array.getElem?_toList, Array.getElem?_eq_getElem hi', q, Int.mul_one]))
  exact K.frozen S hk (size_none _) hS' (fun g' gs e => ⟨_, .list e rfl rfl (ReadsAll.keeps gs rr)⟩) _
theorem callTy_ok {c : String} (e : callTy c vs σ = some (v, σ')) (hh : A.handled = none) (hu : A.units + 66 < cLine) (hbig : sysModules < s.heap.objs.size) (S : SR prog w h₀ g ρ σ s.heap) (rs : All2 (RV g ρ) us vs)
    (K : KV prog w h₀ g ρ s σ' v Q) : wpAny (model prog w) A (call (.type c) us) Q E s := by
  rcases orr_inv e with e | e
  · obtain ⟨h, e⟩ := gd_inv e
    cases of_decide_eq_true h
    obtain ⟨p, e1, e⟩ := ob_inv e
    obtain ⟨hm, e⟩ := gd_inv e
    have hm := Bool.and_eq_true_iff.mp hm
    exact rng_ok e1 hm.1 hm.2 S rs (K.of e)
  rcases orr_inv e with e | e
  · obtain ⟨h, e⟩ := gd_inv e
    cases of_decide_eq_true h
    exact callTup_ok e S rs K
  rcases orr_inv e with e | e
  · obtain ⟨h, e⟩ := gd_inv e
    cases of_decide_eq_true h
    exact callLst_ok e hh S rs K
  · obtain ⟨h, e⟩ := gd_inv e
    cases of_decide_eq_true h
    obtain ⟨z, e1, e⟩ := ob_inv e
    obtain ⟨ds, e2, e⟩ := ob_inv e
    rw [oneOf_inv e1, listOf_inv e2] at rs
    obtain ⟨x, rfl, r⟩ := rs.one
    exact dictD_ok e hh hu hbig S r K
theorem callBlt_kind {f : Value} (e : callBlt f vs σ = some (v, σ')) : (∃ id, f = .builtin id) ∨ ∃ c, f = .type c := by
  rcases orr_inv e with e | e
  · obtain ⟨id, e1, e⟩ := ob_inv e
    exact .inl ⟨_, bltOf_inv e1⟩
  · obtain ⟨c, e1, e⟩ := ob_inv e
    exact .inr ⟨_, tyOf_inv e1⟩
theorem callBlt_ok {f : Value} (e : callBlt f vs σ = some (v, σ')) (hh : A.handled = none) (hu : A.units + 66 < cLine) (hbig : sysModules < s.heap.objs.size) (S : SR prog w h₀ g ρ σ s.heap) (rs : All2 (RV g ρ) us vs)
    (K : KV prog w h₀ g ρ s σ' v Q) : wpAny (model prog w) A (call f us) Q E s := by
  rcases orr_inv e with e | e
  · obtain ⟨id, e1, e⟩ := ob_inv e
    cases bltOf_inv e1
    exact callId_ok e S rs K
  · obtain ⟨c, e1, e⟩ := ob_inv e
    cases tyOf_inv e1
    exact callTy_ok e hh hu hbig S rs K
end
end
end Mine
namespace Mine
open PySem PySem.Calls PyProof.Rows PySem.W

structure FnAt (h : Heap) (a : Addr) (ps : List Str) (body : List Stmt) (sc : Scope) (o : Obj) (fd : FuncData) : Prop where
  get : h.get? a = some o
  cls : o.cls = .type "function"
  data : o.data = .func fd
  body : fd.body = .stmts body
  scope : fd.scope = sc
  globals : fd.globals = mainGlobals
  builtins : fd.builtins = builtinsNs
  closure : fd.closure = []
  code : h.CodeRec fd.code fd.qualname
  ok : okScope sc = true
  co : sc.isCoroutine = false
  gen : sc.isGenerator = false
  bind : ∀ vals : List Value, vals.length = ps.length → bindArgs fd ⟨vals, []⟩ = pure (ps.zip vals)
  par : ∀ x ∈ ps, sc.names.lookup x = some .local ∨ sc.names.lookup x = some .cell
  nodup : ps.Nodup

structure Base (prog : Program) (w : World) (h₀ : Heap) (T : Tab) : Prop where
  globs : ∃ mg mb, h₀.Ns mainGlobals mg ∧ h₀.Ns builtinsNs mb ∧ ∀ x v, T.glob x = some v → ∃ u, (v = .val u ∨ ∃ i t, v = .d (.int i) ∧ u = .int i t) ∧ (mg x = some u ∨ (mg x = none ∧ mb x = some u))
  lim : h₀.NoLimit
  fn : ∀ a ps body sc, T.fn a = some (ps, body, sc) → ∃ o fd, FnAt h₀ a ps body sc o fd
  cls : ∀ c, ((T.init c).isSome ∨ (∃ n, T.attr c n = true) ∨ ∃ n, (T.meth c n).isSome) → ∃ N mN, ClsAt h₀ c N mN ∧ mN "__getattribute__" = none ∧ mN "__getattr__" = none ∧ mN "__setattr__" = none ∧
    (∀ f, T.init c = some f → mN "__init__" = some (.ref f)) ∧ (∀ n, T.attr c n = true → mN n = none) ∧ (∀ n f, T.meth c n = some f → mN n = some (.ref f))
  lkA : ∀ c n, T.attr c n = true → typeLookup (.type "object") n = pure none
  lkM : ∀ c n f, T.meth c n = some f → ∃ y, typeLookup (.type "object") n = pure y
  big : ∃ a, sysModules < a ∧ h₀.get? a ≠ none

section
variable {prog : Program} {w : World} {A : Around} {E : Value → Shared → Prop} {s : Shared} {h₀ g : Heap} {ρ : List (Addr × Addr)} {σ : Sto} {T : Tab} {n : Nat} {L : Lv} {sc : Scope} {fr : Vars} {env : Env}

theorem okName (ok : okScope sc = true) {x : Str} {k : NameKind} (h : sc.names.lookup x = some k) : (x == Str.ofString "__debug__") = false ∧ (x == Str.ofString "__classdict__") = false := by
  unfold okScope at ok
  simp only [Bool.and_eq_true] at ok
  constructor
  · rw [beq_eq_false_iff_ne]; rintro rfl; rw [h] at ok; simp at ok
  · rw [beq_eq_false_iff_ne]; rintro rfl; rw [h] at ok; simp at ok

theorem SR.old (S : SR prog w h₀ g ρ σ s.heap) : ∀ b o, h₀.get? b = some o → s.heap.get? b = some o := fun _ _ e => S.sub _ _ (S.base _ _ e)

theorem SR.big (B : Base prog w h₀ T) (S : SR prog w h₀ g ρ σ s.heap) : sysModules < s.heap.objs.size := by
  obtain ⟨a, h1, h2⟩ := B.big
  cases q : h₀.get? a with
  | none => exact absurd q h2
  | some o => exact Nat.lt_trans h1 (Heap.lt_size (S.old _ _ q))

theorem load_ok {x : Str} {v : V} {k : NameKind} {Q : Value → Shared → Prop} (S : SR prog w h₀ g ρ σ s.heap) (F : FR g ρ env sc fr s.heap) (hk : sc.names.lookup x = some k)
    (hkk : k = .local ∨ k = .cell ∨ k = .free) (e : fr.lookup x = some v) (K : KV prog w h₀ g ρ s σ v Q) : wpAny (model prog w) A (loadName env x) Q E s := by
  have hn := okName F.ok hk
  rcases hkk with rfl | rfl | rfl
  · obtain ⟨m, h1, h2⟩ := F.vars
    obtain ⟨u, h3, h4⟩ := h2 x v e hk
    exact wpAny_loadName_local F.kind (F.loc x hk) h1 h3 (K.now' S h4)
  · obtain ⟨c, u, h1, h2, h3⟩ := F.cvars x v e (.inl hk)
    exact wpAny_loadName_cell F.kind (F.cel x hk).1 h1 h2 (K.now' S h3)
  · obtain ⟨c, u, h1, h2, h3⟩ := F.cvars x v e (.inr hk)
    rcases F.fre x hk with q | q
    · exact wpAny_loadName_cell F.kind q h1 h2 (K.now' S h3)
    · exact wpAny_loadName_free F.kind q h1 h2 (K.now' S h3) hn.2

theorem eName_ok (B : Base prog w h₀ T) {x : Str} {p : Pos} {v : V} {σ' : Sto} {Q : Value → Shared → Prop} (e : eName T sc fr x σ = some (v, σ')) (S : SR prog w h₀ g ρ σ s.heap) (F : FR g ρ env sc fr s.heap)
    (K : KV prog w h₀ g ρ s σ' v Q) : wpAny (model prog w) A (eval (.Name x p) env) Q E s := by
  obtain ⟨k, hk, e⟩ := ob_inv e
  have ld : ∀ hkk : k = .local ∨ k = .cell ∨ k = .free, (ob (fr.lookup x) fun v => some (v, σ)) = some (v, σ') → wpAny (model prog w) A (eval (.Name x p) env) Q E s := fun hkk e => by
    obtain ⟨u, hv, e⟩ := ob_inv e
    exact wpAny_Name (load_ok S F hk hkk hv (K.of e)) (okName F.ok hk).1
  cases k
  case globalImplicit =>
    obtain ⟨u, hv, e⟩ := ob_inv e
    have K := K.of e
    clear e ld
    obtain ⟨mg, mb, h1, h2, h3⟩ := B.globs
    obtain ⟨z, hu, h4⟩ := h3 _ _ hv
    have ru : RV g ρ z u := by
      rcases hu with rfl | ⟨i, t, rfl, rfl⟩
      · exact rfl
      · exact .ofInt
    refine Name_function_global F.kind (F.glob x hk) ?_ (okName F.ok hk).1
    have n1 : s.heap.Ns env.globals mg := by rw [F.globals]; exact h1.keeps S.old
    rcases h4 with h4 | ⟨h4, h5⟩
    · exact loadGlobal_global n1 h4 (K.now' S ru)
    · exact loadGlobal_builtin n1 h4 (by rw [F.builtins]; exact h2.keeps S.old) h5 (K.now' S ru)
  case «local» => exact ld (.inl rfl) e
  case cell => exact ld (.inr (.inl rfl)) e
  case free => exact ld (.inr (.inr rfl)) e
  case globalExplicit => exact noneE' e

theorem const_ok {c : Const} {k : Nat} {p : Pos} {v : V} {σ' : Sto} {Q : Value → Shared → Prop} (e : (ob (cData c) fun d => some (V.d d, σ)) = some (v, σ')) (S : SR prog w h₀ g ρ σ s.heap)
    (K : KV prog w h₀ g ρ s σ' v Q) : wpAny (model prog w) A (eval (.Constant c k p) env) Q E s := by
  cases c with
  | none => exact wpAny_Constant_none ((K.of e).now' S ⟨_, .none⟩)
  | bool b => exact wpAny_Constant_bool ((K.of e).now' S .ofBool)
  | int i => exact wpAny_Constant_int ((K.of e).now S .ofInt _)
  | str x => exact wpAny_Constant_str ((K.of e).now S ⟨_, .str _ _⟩ _)
  | _ => exact noneE' e

theorem truth_ok {v : V} {b : Bool} {u : Value} {Q : Bool → Shared → Prop} (e : truth v = some b) (r : RV g ρ u v) (K : Q b s) : wpAny (model prog w) A (truthy u) Q E s := by
  rw [boolOf_inv e] at r
  rw [r.bool]
  exact wpAny_truthy_bool K

section
variable {p : Pos} {v : V} {σ' : Sto} {Q : Value → Shared → Prop}
/-- one thing evaluated -/
theorem OK.ev (O : OK prog w h₀ n L) (Rm : Room A n) {x : Expr} {a : V} {σ₁ : Sto} {Q : Value → Shared → Prop} (e1 : L.e sc fr x σ = some (a, σ₁)) (S : SR prog w h₀ g ρ σ s.heap) (F : FR g ρ env sc fr s.heap)
    (K : KV prog w h₀ g ρ s σ₁ a Q) : wpAny (model prog w) A (eval x env) Q E s := O.e _ _ _ _ _ _ e1 A env g ρ s Q E Rm S F K
/-- eval two in a row -/
theorem two_ok {α : Type} (O : OK prog w h₀ n L) (Rm : Room A n) {l r : Expr} {a b : V} {σ₁ σ₂ : Sto} {X : Value → Value → Sem α} {Q : α → Shared → Prop} (e1 : L.e sc fr l σ = some (a, σ₁)) (e2 : L.e sc fr r σ₁ = some (b, σ₂))
    (S : SR prog w h₀ g ρ σ s.heap) (F : FR g ρ env sc fr s.heap)
    (K : ∀ g' ρ' h' tk x y, SR prog w h₀ g' ρ' σ₂ h' → Ext no g ρ s.heap g' ρ' h' → RV g' ρ' x a → RV g' ρ' y b → wpAny (model prog w) A (X x y) Q E { s with heap := h', toks := tk }) :
    wpAny (model prog w) A (eval l env) (fun x s₁ => wpAny (model prog w) A (eval r env) (fun y s₂ => wpAny (model prog w) A (X x y) Q E s₂) E s₁) E s :=
  O.ev Rm e1 S F fun _ _ _ _ _ S' X' R' => O.ev Rm e2 S' (F.extNo X') fun _ _ _ _ _ S'' X'' R'' => K _ _ _ _ _ _ S'' (X'.trans X'') (R'.ext X'') R''

theorem bin_ok (O : OK prog w h₀ n L) (Rm : Room A n) {l r : Expr} {op : Operator} (e : (bd (L.e sc fr l σ) fun a σ => bd (L.e sc fr r σ) fun b σ => binop op a b σ) = some (v, σ')) (S : SR prog w h₀ g ρ σ s.heap) (F : FR g ρ env sc fr s.heap)
    (K : KV prog w h₀ g ρ s σ' v Q) : wpAny (model prog w) A (eval (.BinOp l op r p) env) Q E s := by
  obtain ⟨a, σ₁, e1, e⟩ := bd_inv e
  obtain ⟨b, σ₂, e2, e⟩ := bd_inv e
  exact wpAny_BinOp (two_ok O Rm (X := binaryOp op) e1 e2 S F fun _ _ _ _ _ _ S' X' R1 R2 => binop_ok e S' R1 R2 (K.ext X'))

theorem not_ok (O : OK prog w h₀ n L) (Rm : Room A n) {x : Expr} (e : eNot L sc fr x σ = some (v, σ')) (S : SR prog w h₀ g ρ σ s.heap) (F : FR g ρ env sc fr s.heap)
    (K : KV prog w h₀ g ρ s σ' v Q) : wpAny (model prog w) A (eval (.UnaryOp .Not x p) env) Q E s := by
  obtain ⟨a, σ₁, e1, e⟩ := bd_inv e
  obtain ⟨b, e2, e⟩ := ob_inv e
  exact wpAny_UnaryOp (O.ev Rm e1 S F fun g' ρ' h' tk u S' X' R' => not_value (truth_ok e2 R' (K.of e g' ρ' h' tk _ S' X' .ofBool)))

theorem boolop_ok (O : OK prog w h₀ n L) (Rm : Room A n) {x y : Expr} {op : BoolOp} (e : eBool L sc fr op x y σ = some (v, σ')) (S : SR prog w h₀ g ρ σ s.heap) (F : FR g ρ env sc fr s.heap)
    (K : KV prog w h₀ g ρ s σ' v Q) : wpAny (model prog w) A (eval (.BoolOp op [x, y] p) env) Q E s := by
  obtain ⟨a, σ₁, e1, e⟩ := bd_inv e
  obtain ⟨b, e2, e⟩ := ob_inv e
  cases op with
  | And =>
    refine wpAny_And2 (O.ev Rm e1 S F fun g' ρ' h' tk u S' X' R' => truth_ok e2 R' ?_)
    cases b with
    | false => exact K.of e g' ρ' h' tk _ S' X' R'
    | true => exact O.ev Rm e S' (F.extNo X') (K.ext X')
  | Or =>
    refine wpAny_Or2 (O.ev Rm e1 S F fun g' ρ' h' tk u S' X' R' => truth_ok e2 R' ?_)
    cases b with
    | true => exact K.of e g' ρ' h' tk _ S' X' R'
    | false => exact O.ev Rm e S' (F.extNo X') (K.ext X')

theorem notSet {op : CmpOp} {r : Expr} (h : (!isSetE r) = true) : behindInMarks op r = false := by
  cases r <;> first | rfl | exact nomatch h

theorem Room.units' (Rm : Room A n) : A.units + 66 < cLine := by have := Rm.units; lia

theorem cmp1_ok (O : OK prog w h₀ n L) (Rm : Room A n) {l r : Expr} {op : CmpOp} (e : eCmp L sc fr op l r σ = some (v, σ')) (S : SR prog w h₀ g ρ σ s.heap) (F : FR g ρ env sc fr s.heap)
    (K : KV prog w h₀ g ρ s σ' v Q) : wpAny (model prog w) A (eval (.Compare l [op] [r] p) env) Q E s := by
  obtain ⟨hset, e⟩ := gd_inv e
  obtain ⟨a, σ₁, e1, e⟩ := bd_inv e
  obtain ⟨b, σ₂, e2, e⟩ := bd_inv e
  obtain ⟨c, σ₃, e3, e⟩ := bd_inv e
  refine wpAny_Compare1 (two_ok O Rm (X := compareOp op) e1 e2 S F fun g' ρ' h' tk x y S' X' R1 R2 => ?_) (notSet hset)
  exact cmpop_ok e3 Rm.units' S' R1 R2 fun tk' es => K.of e g' ρ' h' tk' _ (es ▸ S') X' .ofBool

theorem ifexp_ok (O : OK prog w h₀ n L) (Rm : Room A n) {t b o : Expr} (e : (bd (L.t sc fr t σ) fun c σ => br c (L.e sc fr b σ) (L.e sc fr o σ)) = some (v, σ')) (S : SR prog w h₀ g ρ σ s.heap) (F : FR g ρ env sc fr s.heap)
    (K : KV prog w h₀ g ρ s σ' v Q) : wpAny (model prog w) A (eval (.IfExp t b o p) env) Q E s := by
  obtain ⟨c, σ₁, e1, e⟩ := bd_inv e
  refine wpAny_IfExp (O.t _ _ _ _ _ _ e1 A env g ρ s _ E Rm S F fun g' ρ' h' tk S' X' => ?_)
  cases c with
  | true => exact O.ev Rm e S' (F.extNo X') (K.ext X')
  | false => exact O.ev Rm e S' (F.extNo X') (K.ext X')

theorem notStar {x : Expr} {rest : List Expr} (h : (!isStarE x) = true) : starEach (x :: rest) env = (false, eval x env) :: starEach rest env := by
  cases x <;> first | rfl | exact nomatch h

theorem seqE_ok (O : OK prog w h₀ n L) (Rm : Room A n) {pos : Pos} (xs : List Expr) {vs : List V} {σ σ' : Sto} {g : Heap} {ρ : List (Addr × Addr)} {s : Shared} {Q : List Value → Shared → Prop} (e : seqE (L.e sc fr) xs σ = some (vs, σ')) (S : SR prog w h₀ g ρ σ s.heap) (F : FR g ρ env sc fr s.heap)
    (K : KVs prog w h₀ g ρ s σ' vs Q) : wpAny (model prog w) A (spliced (backTo pos (starEach xs env))) Q E s := by
  induction xs generalizing vs σ σ' g ρ s Q with
  | nil => exact wpAny_items_nil (K.of e g ρ s.heap s.toks [] S (.refl ..) .nil)
  | cons x r ih =>
    cases seqE_inv e with
    | mk v ws σ₁ σ₂ hst e1 e2 =>
      refine wpAny_items_cons (O.ev Rm e1 S F fun g' ρ' h' tk u S' X' R' => ?_) (notStar hst)
      exact ih e2 S' (F.extNo X') fun _ _ _ _ _ S'' X'' R'' => K _ _ _ _ _ S'' (X'.trans X'') (.cons (R'.ext X'') R'')

theorem datas_len {us : List Value} {vs : List V} {ds : List PyData} (r : All2 (RV g ρ) us vs) (e : datas vs = some ds) (h : small ds = true) : us.length ≤ sizeLine := by
  rw [(datas_all2 r e).length]
  exact Nat.le_trans (Nat.le_of_lt (small_len h)) (Nat.le_trans (by decide) line_big)
theorem tuple_ok (O : OK prog w h₀ n L) (Rm : Room A n) {elts : List Expr} {k : Nat} (e : eSeq L sc fr .tuple elts σ = some (v, σ')) (S : SR prog w h₀ g ρ σ s.heap) (F : FR g ρ env sc fr s.heap)
    (K : KV prog w h₀ g ρ s σ' v Q) : wpAny (model prog w) A (eval (.Tuple elts k p) env) Q E s := by
  obtain ⟨vs, σ₁, e1, e⟩ := bd_inv e
  obtain ⟨ds, e2, e⟩ := ob_inv e
  obtain ⟨hs, e⟩ := gd_inv e
  refine wpAny_Tuple (seqE_ok O Rm _ e1 S F fun g' ρ' h' tk us S' X' R' => ⟨datas_len R' e2 hs, ?_⟩)
  obtain ⟨as, ra⟩ := readsAll_of (datas_all2 R' e2)
  exact ((K.of e).ext (tk := tk) X').newTuple S' (by simpa using ra) _

theorem list_ok (O : OK prog w h₀ n L) (Rm : Room A n) {x : Expr} {r : List Expr} (e : eSeq L sc fr .list (x :: r) σ = some (v, σ')) (S : SR prog w h₀ g ρ σ s.heap) (F : FR g ρ env sc fr s.heap)
    (K : KV prog w h₀ g ρ s σ' v Q) : wpAny (model prog w) A (eval (.List (x :: r) p) env) Q E s := by
  obtain ⟨vs, σ₁, e1, e⟩ := bd_inv e
  obtain ⟨ds, e2, e⟩ := ob_inv e
  obtain ⟨hs, e⟩ := gd_inv e
  refine wpAny_List (seqE_ok O Rm _ e1 S F fun g' ρ' h' tk us S' X' R' => ⟨datas_len R' e2 hs, ?_⟩)
  obtain ⟨as, ra⟩ := readsAll_of (datas_all2 R' e2)
  exact ((K.of e).ext (tk := tk) X').newList S' (by simpa using ra) _
/-- a new thing of the store stands at one new address -/
theorem KV.newSt {o : O} {ob : Obj} (K : KV prog w h₀ g ρ s (σ ++ [o]) (.st σ.length) Q) (S : SR prog w h₀ g ρ σ s.heap) (ho : ob.isFreed = false)
    (r : (s.heap.push ob).get? s.heap.objs.size = some ob → RO prog w g (ρ ++ [(s.heap.objs.size, s.heap.objs.size)]) (s.heap.push ob) (s.heap.objs.size, s.heap.objs.size) o) (tk : Nat) : Q (.ref s.heap.objs.size) { s with heap := s.heap.push ob, toks := tk } := by
  have hnew := Heap.get?_push_size s.heap ho
  have hne : (s.heap.push ob).get? s.heap.objs.size ≠ none := by rw [hnew]; exact Option.some_ne_none _
  obtain ⟨S', X'⟩ := S.add (p := (s.heap.objs.size, s.heap.objs.size)) (fun a o e => Heap.get?_push_of_some _ e) (size_none _) (size_none _) hne hne (r hnew)
  exact K _ _ _ _ _ S' X' ⟨(s.heap.objs.size, s.heap.objs.size), S.last, rfl⟩
theorem nil_ok (e : some (V.st σ.length, σ ++ [.lst []]) = some (v, σ')) (S : SR prog w h₀ g ρ σ s.heap) (K : KV prog w h₀ g ρ s σ' v Q) : wpAny (model prog w) A (eval (.List [] p) env) Q E s :=
  wpAny_List (wpAny_items_nil ⟨Nat.zero_le _, (K.of e).newSt S rfl (fun h => ⟨rfl, #[], 0, h, .nil⟩) _⟩)
end
end
end Mine
namespace Mine
open PySem PySem.Calls PyProof.Rows PySem.W

section
variable {prog : Program} {w : World} {A : Around} {E : Value → Shared → Prop} {s : Shared} {h₀ g : Heap} {ρ : List (Addr × Addr)} {σ : Sto} {T : Tab} {n : Nat} {L : Lv} {sc : Scope} {fr : Vars} {env : Env}

theorem base_eq {o : Expr} {name : Str} {env : Env} {whole : Sem Value} (h : baseOk o = true) : attributeBase o name env whole = whole := by
  cases o
  case Call f args kws p =>
    cases f
    case Name x q =>
      cases args with
      | cons => rfl
      | nil => cases kws with
        | cons => rfl
        | nil => exact nomatch h
    all_goals rfl
  all_goals rfl

theorem RInst.inst {h : Heap} {p : Addr × Addr} {C : Addr} {mA : Str → Option Value} (r : RInst h p C mA) : h.Inst p.1 C mA := by
  obtain ⟨o, h1, h2, h3, h4, h5, h6⟩ := r
  exact ⟨o, h1, h2, h3, .inr ⟨p.2, h4, h5, h6⟩⟩

theorem notVal_handed {u : Value} {v : V} (h : notVal v = true) (r : RV g ρ u v) : handedOut u = pure u := by
  cases v with
  | d x => obtain ⟨as, r⟩ := r; cases r <;> rfl
  | st n => obtain ⟨p, _, rfl⟩ := r; rfl
  | _ => exact nomatch h

theorem getAttrO_ok (B : Base prog w h₀ T) {ov v : V} {name : Str} {u : Value} {expr : Bool} {Q : Value → Shared → Prop} (e : getAttrO T ov name σ = some v) (S : SR prog w h₀ g ρ σ s.heap) (r : RV g ρ u ov)
    (K : KV prog w h₀ g ρ s σ v Q) : wpAny (model prog w) A (getAttr u name expr) Q E s := by
  obtain ⟨n, e1, e⟩ := ob_inv e
  obtain ⟨⟨c, kvs⟩, e2, e⟩ := ob_inv e
  obtain ⟨ha, e⟩ := gd_inv e
  obtain ⟨v', hv, e⟩ := ob_inv e
  obtain ⟨hnv, e⟩ := gd_inv e
  cases e
  rw [vSt_inv e1] at r
  clear e1
  obtain ⟨p, mA, h1, h2, h3⟩ := S.atI (instAt_inv e2) r
  have h4 := h3 name
  rw [hv] at h4
  obtain ⟨z, h5, h6⟩ := h4
  obtain ⟨N, mN, X, hga, -, -, -, hat, -⟩ := B.cls c (.inr (.inl ⟨_, ha⟩))
  have X' := X.keeps S.old
  obtain ⟨nm, q', bs, sn, sub, col, dd, k0, k1, k2, k3, k5, hC⟩ := X'.obj
  exact load_attr hC X'.ns hga (hat _ ha) (B.lkA _ _ ha) h2.inst h5 (notVal_handed hnv h6) (K.now S h6 _)

theorem seqE_plain {f : Expr → Sto → Res V} {pos : Pos} (xs : List Expr) {σ σ' : Sto} {vs : List V} (e : seqE f xs σ = some (vs, σ')) : (backTo pos (starEach xs env)).any (·.1) = false ∧ (backTo pos (starEach xs env)).all (fun x => !x.1) = true := by
  induction xs generalizing vs σ with
  | nil => exact ⟨rfl, rfl⟩
  | cons x r ih =>
    cases seqE_inv e with
    | mk v ws σ₁ σ₂ hst e1 e2 =>
      rw [notStar hst]
      exact ih e2

theorem evalArgs_ok {M : Model} {f : Value} {args : List (Bool × Sem Value)} {Q : Args → Shared → Prop} (hp : args.all (fun x => !x.1) = true)
    (h : wpAny M A (spliced args) (fun vs s' => Q ⟨vs, []⟩ s') E s) : wpAny M A (evalArgs f true args []) Q E s := by
  cases args with
  | nil =>
    unfold evalArgs
    show wpAny M A (spliced [] >>= _) Q E s
    refine wpAny_bind (wpAny_mono h (fun vs s' h' => ?_) fun _ _ x => x)
    refine wpAny_holding ?_
    exact wpAny_bind (wpAny_pure (wpAny_bind (wpAny_pure (wpAny_pure h'))))
  | cons a r =>
    obtain ⟨b, x⟩ := a
    cases b with
    | false => exact evalArgs_plain h
    | true => exact nomatch hp

theorem callWith_cls_ok {C N : Addr} {mN : Str → Option Value} {pos : Pos} {args : List (Bool × Sem Value)} {Q : Value → Shared → Prop} (X : ClsAt h₀ C N mN) (hp : args.all (fun x => !x.1) = true) (hq : args.any (·.1) = false)
    (h : wpAny (model prog w) A (spliced args) (fun vs s₁ => (∀ b o, h₀.get? b = some o → s₁.heap.get? b = some o) ∧ wpAny (model prog w) A (call (.ref C) vs) Q E s₁) E s) :
    wpAny (model prog w) A (callWith pos (.ref C) [] args []) Q E s := by
  have hst : (args.any (fun x => x.fst) || ([] : List (Option Str × Sem Value)).any fun x => x.fst.isNone) = false := by
    rw [hq]; rfl
  unfold callWith
  refine wpAny_bind (wpAny_holding (evalArgs_ok hp (wpAny_mono h (fun vs s₁ h₁ => ?_) fun _ _ x => x)))
  obtain ⟨hh, g, d, t, os⟩ := s₁
  obtain ⟨nm, q, bs, sn, sub, col, dd, k0, k1, k2, k3, k5, hC⟩ := (X.keeps h₁.1).obj
  have f1 := tc_lookup
  have hT : (⟨hh, g, d, t, os⟩ : Shared).TypeIs (.ref C) "type" := ⟨_, hC, rfl⟩
  refine wpAny_bind (wpAny_standAt ?_)
  show wpAny _ _ (keeperOf (.ref C) >>= _) _ _ _
  unfold keeperOf specialOf
  repeat (any_goals (first | assumption | with_reducible refine wpAny_loadPart_at hC ?_ | with_reducible refine wpAny_load' hC ?_ | wp_step))
  rw [if_pos (by rfl), hst]
  show wpAny _ _ (call (.ref C) vs [] >>= fun r => do holding [r] point; pure r) _ _ _
  exact wpAny_bind (wpAny_mono h₁.2 (fun r s' hr => wpAny_bind (wpAny_holding (wpAny_point (wpAny_pure hr)))) fun _ _ x => x)

theorem Room.under (Rm : Room A (n + 1)) {C : Addr} {vals : List Value} : Room (A.under (.builtin "type.__call__" ⟨.ref C :: vals, []⟩)) n := by
  have h1 := Rm.handled; have h2 := Rm.depth; have h3 := Rm.units
  have e1 : (A.under (.builtin "type.__call__" ⟨.ref C :: vals, []⟩)).depth = A.depth + 1 := rfl
  have e2 : (A.under (.builtin "type.__call__" ⟨.ref C :: vals, []⟩)).units = A.units + 1 := rfl
  exact ⟨h1, by lia, by lia⟩


theorem OK.le_room (Rm : Room A (n + 1)) : Room A n := Rm.pred

section
variable {p : Pos} {v : V} {σ' : Sto} {Q : Value → Shared → Prop}
theorem attr_ok (B : Base prog w h₀ T) (O : OK prog w h₀ n L) (Rm : Room A n) {o : Expr} {name : Str} (e : eAttr T L sc fr o name σ = some (v, σ')) (S : SR prog w h₀ g ρ σ s.heap) (F : FR g ρ env sc fr s.heap)
    (K : KV prog w h₀ g ρ s σ' v Q) : wpAny (model prog w) A (eval (.Attribute o name p) env) Q E s := by
  obtain ⟨hb, e⟩ := gd_inv e
  obtain ⟨ov, σ₁, e1, e⟩ := bd_inv e
  obtain ⟨v', e2, e⟩ := ob_inv e
  rw [arm_eval_Attribute, base_eq hb]
  refine wpAny_bind (O.ev Rm e1 S F fun g' ρ' h' tk u S' X' R' => ?_)
  refine wpAny_bind (wpAny_standAt (wpAny_bind (wpAny_holding (getAttrO_ok B e2 S' R' fun _ _ _ _ z S'' X'' R'' => ?_))))
  exact wpAny_bind (wpAny_letTemporaryGo (wpAny_pure (K.of e _ _ _ _ _ S'' (X'.trans X'') R'')))
theorem ctor_ok (B : Base prog w h₀ T) (O : OK prog w h₀ n L) (Rm : Room A (n + 1)) {a fi : Addr} {vs : List V} {us : List Value} (hi : T.init a = some fi) (hfi : (T.fn fi).isSome = true)
    (e : L.c fi (.st σ.length :: vs) (σ ++ [.inst a []]) = some (.d .none, σ')) (S : SR prog w h₀ g ρ σ s.heap) (r : All2 (RV g ρ) us vs)
    (K : KV prog w h₀ g ρ s σ' (.st σ.length) Q) : wpAny (model prog w) A (call (.ref a) us) Q E s := by
  obtain ⟨N, mN, X, hga, hgt, hsa, hin, hat, hme⟩ := B.cls a (.inl (by rw [hi]; rfl))
  obtain ⟨⟨ps, body, fsc⟩, hf⟩ := Option.isSome_iff_exists.mp hfi
  obtain ⟨o, fd, FA⟩ := B.fn _ _ _ _ hf
  have X' := X.keeps S.old
  obtain ⟨hp, gg, d, t, os⟩ := s
  obtain ⟨nm, q', bs, sn, sub, col, dd, k0, k1, k2, k3, k5, hC⟩ := X'.obj
  refine wpAny_call_obj_init PySem.F.objNew hC X'.ns (hin _ hi) (S.old _ _ FA.get) FA.cls fun h' x dx Mk => ?_
  obtain ⟨ox, hx1, hx2, hx3, hx4⟩ := Mk.inst
  have hdx := Mk.dict _ hx1
  obtain ⟨hne, hns⟩ : dx ≠ x ∧ h'.Ns1 dx fun _ => none := by
    rcases hx4 with ⟨h1, _⟩ | ⟨d', h1, h2, h3⟩
    · rw [hdx] at h1; cases h1
    · rw [hdx] at h1; cases h1; exact ⟨h2, h3⟩
  have n1 : h'.get? x ≠ none := by rw [hx1]; exact Option.some_ne_none _
  have n2 : h'.get? dx ≠ none := by obtain ⟨o', es, ep, h5, _⟩ := hns; rw [h5]; exact Option.some_ne_none _
  obtain ⟨S', Y⟩ := S.add (p := (x, dx)) (o := .inst a []) Mk.keeps Mk.newX Mk.newD n1 n2 ⟨fun _ => none, ⟨ox, hx1, hx2, hx3, hdx, hne, hns⟩, fun _ => rfl⟩
  have rx : RV g (ρ ++ [(x, dx)]) (.ref x) (.st σ.length) := ⟨(x, dx), by rw [← S.len]; simp, rfl⟩
  refine O.c _ _ _ _ _ e _ g (ρ ++ [(x, dx)]) ⟨h', gg, d, t, os⟩ (.ref x :: us) _ E Rm.under S' (.cons rx (r.mono fun _ _ q => q.ext Y)) fun g' ρ' h'' tk u S'' X'' R'' => ?_
  obtain ⟨_, R''⟩ := R''
  exact ⟨none_inv R'', K _ _ _ _ _ S'' (Y.trans X'') (rx.ext X'')⟩


/-- a call of what is walked to: the def's own run -/
theorem callFn_ok (B : Base prog w h₀ T) (O : OK prog w h₀ n L) (Rm : Room A n) {a : Addr} {args : List Expr} {pre : List Value} {pv vs : List V} {σ₁ : Sto} (hf : (T.fn a).isSome = true) (e2 : seqE (L.e sc fr) args σ = some (vs, σ₁)) (e : L.c a (pv ++ vs) σ₁ = some (v, σ'))
    (S : SR prog w h₀ g ρ σ s.heap) (F : FR g ρ env sc fr s.heap) (hpre : All2 (RV g ρ) pre pv) (K : KV prog w h₀ g ρ s σ' v Q) : wpAny (model prog w) A (callWith p (.ref a) pre (backTo p (starEach args env)) []) Q E s := by
  obtain ⟨⟨ps, body, fsc⟩, hf⟩ := Option.isSome_iff_exists.mp hf
  obtain ⟨o, fd, FA⟩ := B.fn _ _ _ _ hf
  refine callWith_function (o := o) (fd := fd) (evalArgs_ok (seqE_plain _ e2).2 (seqE_ok O Rm _ e2 S F fun g'' ρ'' h'' tk us S'' X'' R'' => ⟨⟨S''.base _ _ FA.get |> S''.sub _ _, FA.data⟩, ?_⟩))
  exact O.c _ _ _ _ _ e A g'' ρ'' _ _ _ E Rm S'' ((hpre.mono fun _ _ q => q.ext X'').append R'') (K.ext X'')
theorem callV_ok (B : Base prog w h₀ T) (O : OK prog w h₀ n L) (Rm : Room A (n + 1)) {f : Value} {args : List Expr} {vs : List V} {σ₁ : Sto} (e2 : seqE (L.e sc fr) args σ = some (vs, σ₁)) (e : callV T L f vs σ₁ = some (v, σ'))
    (S : SR prog w h₀ g ρ σ s.heap) (F : FR g ρ env sc fr s.heap) (K : KV prog w h₀ g ρ s σ' v Q) : wpAny (model prog w) A (callWith p f [] (backTo p (starEach args env)) []) Q E s := by
  obtain ⟨p1, p2⟩ := seqE_plain (env := env) (pos := p) _ e2
  unfold callV at e
  cases q : refOf f with
  | none =>
    rw [q] at e
    have go : ∀ (Q' : Args → Shared → Prop), (∀ us s', wpAny (model prog w) A (call f us) Q E s' → Q' ⟨us, []⟩ s') → wpAny (model prog w) A (evalArgs f true (backTo p (starEach args env)) []) Q' E s := fun Q' hQ =>
      evalArgs_ok p2 (seqE_ok O Rm.pred _ e2 S F fun _ _ _ _ us S'' X'' R'' => hQ _ _ (callBlt_ok e Rm.handled Rm.pred.units' (S''.big B) S'' R'' (K.ext X'')))
    rcases callBlt_kind e with ⟨id, rfl⟩ | ⟨c, rfl⟩
    · exact callWith_builtin p1 (go _ fun _ _ h => h)
    · exact PyProof.Rows.callWith_type p1 (go _ fun _ _ h => h)
  | some a =>
    rw [q] at e
    cases refOf_inv q
    clear q
    cases hi : T.init a with
    | none =>
      simp only [hi] at e
      obtain ⟨hf, e⟩ := gd_inv e
      exact callFn_ok B O Rm.pred (pv := []) hf e2 e S F .nil K
    | some fi =>
      simp only [hi] at e
      obtain ⟨hfi, e⟩ := gd_inv e
      obtain ⟨z, σ₂, e3, e⟩ := bd_inv e
      obtain ⟨d, e4, e⟩ := ob_inv e
      obtain ⟨hd, e⟩ := gd_inv e
      rw [vD_inv e4, dNone_inv hd] at e3
      obtain ⟨N, mN, X, -⟩ := B.cls a (.inl (by rw [hi]; rfl))
      exact callWith_cls_ok X p2 p1 (seqE_ok O Rm.pred _ e2 S F fun _ _ _ _ us S'' X'' R'' => ⟨fun b o e => S''.sub _ _ (S''.base _ _ e), ctor_ok B O Rm hi hfi e3 S'' R'' ((K.of e).ext X'')⟩)
theorem callName_ok (B : Base prog w h₀ T) (O : OK prog w h₀ n L) (Rm : Room A (n + 1)) {x : Str} {px : Pos} {args : List Expr} (e : eCallN T L sc fr (.Name x px) args σ = some (v, σ'))
    (S : SR prog w h₀ g ρ σ s.heap) (F : FR g ρ env sc fr s.heap) (K : KV prog w h₀ g ρ s σ' v Q) : wpAny (model prog w) A (eval (.Call (.Name x px) args [] p) env) Q E s := by
  obtain ⟨-, e⟩ := gd_inv e
  obtain ⟨u, σ₁, e1, e⟩ := bd_inv e
  obtain ⟨f, ef, e⟩ := ob_inv e
  obtain ⟨vs, σ₂, e2, e⟩ := bd_inv e
  rw [vVal_inv ef] at e1
  refine wpAny_Call_Name_kw (O.ev Rm.pred e1 S F fun g' ρ' h' tk u S' X' R' => ?_)
  cases R'
  exact callV_ok B O Rm e2 e S' (F.extNo X') (K.ext X')

theorem methodCall_eq {o : Expr} {name : Str} {ap : Pos} {args : List Expr} {ov : Value} {vs : List V} {σ₁ : Sto} {f : Expr → Sto → Res V} (hl : (ap.endLine == p.line) = true) (hn : args.length < 10) (e : seqE f args σ = some (vs, σ₁))
    (h : ∀ pl, wpAny (model prog w) A (getMethod ov name pl) (fun x s₁ => wpAny (model prog w) A (callWith p x.1 x.2 (backTo p (starEach args env)) []) Q E s₁) E s) :
    wpAny (model prog w) A (methodCall o name ap p env ov (args.length + ([] : List Keyword).length) (backTo p (starEach args env)) (backToKw p (keywordEach [] env))) Q E s := by
  obtain ⟨p1, p2⟩ := seqE_plain (env := env) (pos := p) _ e
  have hform : methodCallForm (args.length + ([] : List Keyword).length) (backTo p (starEach args env)) (backToKw p (keywordEach [] env)) = true := by
    unfold methodCallForm
    rw [p2]
    show (true && true && decide (args.length + 0 + 0 < 30)) = true
    simp; lia
  have hpos : methodCallPos true o env ap p = pure p := by unfold methodCallPos; simp [hl]
  unfold methodCall
  rw [hform]
  refine wpAny_bind (wpAny_holding ?_)
  unfold calleeOf
  rw [if_pos rfl]
  refine wpAny_mono (h _) (fun x s₁ hx => ?_) fun _ _ y => y
  obtain ⟨x1, x2⟩ := x
  exact wpAny_bind (wpAny_of_eq hpos hx)


section
variable {o : Expr} {name : Str} {ap : Pos} {args : List Expr} {i : Nat} {ov : Value}
/-- a list's append -/
theorem app_ok (O : OK prog w h₀ n L) (Rm : Room A n) (hl : (ap.endLine == p.line) = true) (hn : args.length < 10) {xs : List V} (q : σ[i]? = some (.lst xs)) (e : eApp L sc fr i args σ = some (v, σ')) (S : SR prog w h₀ g ρ σ s.heap) (F : FR g ρ env sc fr s.heap) (R : RV g ρ ov (.st i)) (K : KV prog w h₀ g ρ s σ' v Q) :
    wpAny (model prog w) A (methodCall o (Str.ofString "append") ap p env ov (args.length + ([] : List Keyword).length) (backTo p (starEach args env)) (backToKw p (keywordEach [] env))) Q E s := by
  obtain ⟨vs, σ₂, e2, e⟩ := bd_inv e
  obtain ⟨v1, e3, e⟩ := ob_inv e
  obtain ⟨xs', e4, e⟩ := ob_inv e
  obtain ⟨hsz, e⟩ := gd_inv e
  have K := K.of e
  clear e
  rw [oneOf_inv e3] at e2
  clear e3
  refine methodCall_eq hl hn e2 fun pl => ?_
  obtain ⟨pp, ws, k, h1, h2, h3, h4, -⟩ := S.atL q R
  obtain ⟨p1, p2⟩ := seqE_plain (env := env) (pos := p) _ e2
  refine getMethod_list_append h3 rfl rfl ?_
  refine callWith_builtin p1 (evalArgs_ok p2 (seqE_ok O Rm _ e2 S F fun g'' ρ'' h'' tk us S'' X'' R'' => ?_))
  clear h2 h3 h4 p1 p2 e2
  obtain ⟨y, rfl, ry⟩ := R''.one
  have h1'' : ρ''[i]? = some pp := by obtain ⟨l, rfl, _⟩ := X''.rs; exact getElem?_append_some h1
  obtain ⟨h2'', ws', k', h3'', h4''⟩ := S''.sto _ _ _ (lstAt_inv e4) h1''
  have hz := h4''.length
  rw [Array.length_toList] at hz
  have hsz := Nat.le_of_ble_eq_true hsz
  have lb := line_big
  refine wpAny_list_append_plain (s := ⟨h'', s.gens, s.drawn, tk, s.os⟩) ⟨k', h3''⟩ (fun h3 hp hs => ?_) (by lia)
  obtain ⟨k3, hp⟩ := hp
  obtain ⟨S3, X3⟩ := S''.set (n := i) (p := pp) (o := .lst (xs' ++ [v1])) (h' := h3) h1'' (fun a o n1 _ e => (hs.2 a n1).trans e) (by rw [hp]; exact Option.some_ne_none _) (by rw [h2'', hp]; exact Option.some_ne_none _)
    ⟨h2'', _, _, hp, by rw [Array.toList_push]; exact h4''.append (.cons ry .nil)⟩
  exact K _ _ _ _ _ S3 (X''.trans X3) ⟨_, .none⟩
/-- a method of the text's own -/
theorem meth_ok (B : Base prog w h₀ T) (O : OK prog w h₀ n L) (Rm : Room A n) (hl : (ap.endLine == p.line) = true) (hn : args.length < 10) {c : Addr} {kvs : List (Str × V)} (q : σ[i]? = some (.inst c kvs)) (e : eMeth T L sc fr i (c, kvs) name args σ = some (v, σ')) (S : SR prog w h₀ g ρ σ s.heap) (F : FR g ρ env sc fr s.heap) (R : RV g ρ ov (.st i)) (K : KV prog w h₀ g ρ s σ' v Q) :
    wpAny (model prog w) A (methodCall o name ap p env ov (args.length + ([] : List Keyword).length) (backTo p (starEach args env)) (backToKw p (keywordEach [] env))) Q E s := by
  obtain ⟨hk, e⟩ := gd_inv e
  obtain ⟨f, hm, e⟩ := ob_inv e
  obtain ⟨hf, e⟩ := gd_inv e
  obtain ⟨vs, σ₂, e2, e⟩ := bd_inv e
  refine methodCall_eq hl hn e2 fun pl => ?_
  obtain ⟨N, mN, X, hga, hgt, -, -, -, hme⟩ := B.cls c (.inr (.inr ⟨_, by rw [hm]; rfl⟩))
  obtain ⟨⟨ps, body, fsc⟩, hf'⟩ := Option.isSome_iff_exists.mp hf
  obtain ⟨fo, fd, FA⟩ := B.fn _ _ _ _ hf'
  obtain ⟨y, hy⟩ := B.lkM _ _ _ hm
  have R0 := R
  obtain ⟨pp, mA, h1, h2, h3⟩ := S.atI q R
  have h4 := h3 name
  rw [Option.isNone_iff_eq_none.mp hk] at h4
  have X1 := X.keeps S.old
  obtain ⟨nm, q', bs, sn, sub, col, dd, k0, k1, k2, k3, k5, hC⟩ := X1.obj
  exact method_of hC X1.ns hga hgt (hme _ _ hm) (S.old _ _ FA.get) FA.cls hy h2.inst h4 (callFn_ok B O Rm (pv := [.st i]) hf e2 e S F (.cons R0 .nil) K)
theorem callAttr_ok (B : Base prog w h₀ T) (O : OK prog w h₀ n L) (Rm : Room A (n + 1)) (hc : (ap.endLine == p.line && Nat.blt args.length 10 && baseOk o) = true) (e : eCallA T L sc fr o name args σ = some (v, σ'))
    (S : SR prog w h₀ g ρ σ s.heap) (F : FR g ρ env sc fr s.heap) (K : KV prog w h₀ g ρ s σ' v Q) : wpAny (model prog w) A (eval (.Call (.Attribute o name ap) args [] p) env) Q E s := by
  have hc := Bool.and_eq_true_iff.mp hc
  have hl := Bool.and_eq_true_iff.mp hc.1
  have hn := Nat.le_of_ble_eq_true hl.2
  rw [arm_eval_Call, base_eq hc.2]
  obtain ⟨u, σ₁, e1, e⟩ := bd_inv e
  obtain ⟨i, eu, e⟩ := ob_inv e
  rw [vSt_inv eu] at e1
  refine wpAny_bind (O.ev Rm.pred e1 S F fun g' ρ' h' tk u S' X' R' => ?_)
  refine wpAny_bind (wpAny_standAt ?_)
  rcases orr_inv e with e | e
  · obtain ⟨xs, q, e⟩ := ob_inv e
    obtain ⟨hname, e⟩ := gd_inv e
    cases beq_iff_eq.mp hname
    exact app_ok O Rm.pred hl.1 hn (lstAt_inv q) e S' (F.extNo X') R' (K.ext X')
  · obtain ⟨⟨c, kvs⟩, q, e⟩ := ob_inv e
    exact meth_ok B O Rm.pred hl.1 hn (instAt_inv q) e S' (F.extNo X') R' (K.ext X')
end
theorem call_ok (B : Base prog w h₀ T) (O : OK prog w h₀ n L) (Rm : Room A (n + 1)) {f : Expr} {args : List Expr} {kws : List Keyword} (e : gd kws.isEmpty (eCall T L sc fr f args p σ) = some (v, σ'))
    (S : SR prog w h₀ g ρ σ s.heap) (F : FR g ρ env sc fr s.heap) (K : KV prog w h₀ g ρ s σ' v Q) : wpAny (model prog w) A (eval (.Call f args kws p) env) Q E s := by
  obtain ⟨hk, e⟩ := gd_inv e
  rw [List.isEmpty_iff.mp hk]
  rcases orr_inv e with e | e
  · obtain ⟨x, e1, e⟩ := ob_inv e
    obtain ⟨px, rfl⟩ := nameE_inv e1
    exact callName_ok B O Rm e S F K
  · by_cases k : f.ctorIdx = 20
    · rw [dif_pos k] at e
      revert e
      exact Expr.Attribute.elim (motive_1 := fun f => ∀ k : f.ctorIdx = 20, (Expr.Attribute.elim (motive_1 := fun _ => Res V) f k fun o name ap => gd (ap.endLine == p.line && Nat.blt args.length 10 && baseOk o) (eCallA T L sc fr o name args σ)) = some (v, σ') → wpAny (model prog w) A (eval (.Call f args [] p) env) Q E s) f k
        (fun o name ap _ e => by obtain ⟨hc, e⟩ := gd_inv e; exact callAttr_ok B O Rm hc e S F K) k
    · rw [dif_neg k] at e
      exact noneE' e
end
end
end Mine
namespace Mine
open PySem PySem.Calls PyProof.Rows PySem.W

section
variable {prog : Program} {w : World} {A : Around} {E : Value → Shared → Prop} {s : Shared} {h₀ g : Heap} {ρ : List (Addr × Addr)} {σ : Sto} {T : Tab} {n : Nat} {L : Lv} {sc : Scope} {fr : Vars} {env : Env}

theorem RV.more {v : Value} {u : V} {p : Addr × Addr} (q : RV g ρ v u) : RV g (ρ ++ [p]) v u := by
  cases u with
  | d y => exact q
  | st n => obtain ⟨p', h1, h2⟩ := q; exact ⟨p', getElem?_append_some h1, h2⟩
  | val u => exact q
  | rng a b => exact q
theorem SR.addAt {h h' : Heap} (S : SR prog w h₀ g ρ σ h) {p : Addr × Addr} {o : O} (k : ∀ a o, a ≠ p.1 → a ≠ p.2 → h.get? a = some o → h'.get? a = some o) (r1 : ¬ InR ρ p.1) (r2 : ¬ InR ρ p.2) (g1 : g.get? p.1 = none) (g2 : g.get? p.2 = none)
    (n1 : h'.get? p.1 ≠ none) (n2 : h'.get? p.2 ≠ none) (r : RO prog w g (ρ ++ [p]) h' p o) : SR prog w h₀ g (ρ ++ [p]) (σ ++ [o]) h' := by
  have kd : ∀ a, h.get? a ≠ none → h'.get? a ≠ none := fun a q => by
    by_cases h1 : a = p.1
    · rw [h1]; exact n1
    by_cases h2 : a = p.2
    · rw [h2]; exact n2
    cases e : h.get? a with
    | none => exact absurd e q
    | some o => rw [k _ _ h1 h2 e]; exact Option.some_ne_none _
  have gne : ∀ a o, g.get? a = some o → a ≠ p.1 ∧ a ≠ p.2 := fun a o e => ⟨fun q => (by rw [q, g1] at e; cases e), fun q => (by rw [q, g2] at e; cases e)⟩
  have nin : ∀ i (q : Addr × Addr), ρ[i]? = some q → q.1 ≠ p.1 ∧ q.1 ≠ p.2 ∧ q.2 ≠ p.1 ∧ q.2 ≠ p.2 := fun i q e => by
    have hm : q ∈ ρ := List.mem_of_getElem? e
    exact ⟨fun z => r1 ⟨q, hm, .inl z.symm⟩, fun z => r2 ⟨q, hm, .inl z.symm⟩, fun z => r1 ⟨q, hm, .inr z.symm⟩, fun z => r2 ⟨q, hm, .inr z.symm⟩⟩
  refine ⟨S.base, fun a o e => k _ _ (gne a o e).1 (gne a o e).2 (S.sub _ _ e), by simp [S.len], fun n o' p' e1 e2 => ?_, fun a q => ?_, fun i j q q' e1 e2 hij => ?_, S.nd⟩
  · rcases snoc_get e2 with ⟨a2, l2⟩ | ⟨a2, rfl⟩
    · rcases snoc_get e1 with ⟨a1, l1⟩ | ⟨a1, _⟩
      · have := nin n p' a2
        exact (S.sto n o' p' a1 a2).keep (fun _ _ q => q.more) (fun o e => k _ o this.1 this.2.1 e) (fun o e => k _ o this.2.2.1 this.2.2.2 e)
      · exact absurd (S.len ▸ a1 ▸ l2) (Nat.lt_irrefl _)
    · rcases snoc_get e1 with ⟨a1, l1⟩ | ⟨_, rfl⟩
      · exact absurd (S.len ▸ a2 ▸ l1) (Nat.lt_irrefl _)
      · exact r
  · rcases InR.append.mp q with q | ⟨p', hp, q⟩
    · exact ⟨(S.free a q).1, kd _ (S.free a q).2⟩
    · rw [List.mem_singleton.mp hp] at q
      rcases q with rfl | rfl
      · exact ⟨g1, n1⟩
      · exact ⟨g2, n2⟩
  · rcases snoc_get e1 with ⟨a1, l1⟩ | ⟨a1, rfl⟩ <;> rcases snoc_get e2 with ⟨a2, l2⟩ | ⟨a2, rfl⟩
    · exact S.apart i j q q' a1 a2 hij
    · have := nin i q a1
      exact this
    · have := nin j q' a2
      exact ⟨this.1.symm, this.2.2.1.symm, this.2.1.symm, this.2.2.2.symm⟩
    · exact absurd (a1.trans a2.symm) hij

theorem Ext.addAt {ex : Addr → Prop} {g₁ g₂ : Heap} {ρ₁ ρ₂ : List (Addr × Addr)} {h₁ h₂ h' : Heap} (X : Ext ex g₁ ρ₁ h₁ g₂ ρ₂ h₂) {p : Addr × Addr} (f1 : h₁.get? p.1 = none) (f2 : h₁.get? p.2 = none)
    (k : ∀ a o, a ≠ p.1 → a ≠ p.2 → h₂.get? a = some o → h'.get? a = some o) : Ext ex g₁ ρ₁ h₁ g₂ (ρ₂ ++ [p]) h' := by
  obtain ⟨l, rfl, hl⟩ := X.rs
  have ne : ∀ a, h₁.get? a ≠ none → a ≠ p.1 ∧ a ≠ p.2 := fun a q => ⟨fun z => q (by rw [z]; exact f1), fun z => q (by rw [z]; exact f2)⟩
  refine ⟨X.gs, X.gn, ⟨l ++ [p], by rw [List.append_assoc], fun q hq => ?_⟩, fun a o q1 q2 q3 => ?_, fun a q => ?_⟩
  · rcases List.mem_append.mp hq with hq | hq
    · exact hl q hq
    · rw [List.mem_singleton.mp hq]; exact ⟨f1, f2⟩
  · have := ne a (by rw [q3]; exact Option.some_ne_none _)
    exact k _ _ this.1 this.2 (X.keep _ _ q1 q2 q3)
  · have := ne a q
    have d := X.dom _ q
    cases e : h₂.get? a with
    | none => exact absurd e d
    | some o => rw [k _ _ this.1 this.2 e]; exact Option.some_ne_none _

theorem SR.freezeAt {h : Heap} (S : SR prog w h₀ g ρ σ h) {a : Addr} {o : Obj} (ga : g.get? a = none) (ra : ¬ InR ρ a) (ha : h.get? a = some o) (hbad : badO o = false := by rfl) :
    ∃ g', SR prog w h₀ g' ρ σ h ∧ g'.get? a = some o ∧ (∀ b o, g.get? b = some o → g'.get? b = some o) ∧ ∀ b, b ≠ a → g'.get? b = g.get? b := by
  obtain ⟨g', e1, e2⟩ := exists_put g a o (not_freed ha)
  have ne : ∀ b o, g.get? b = some o → b ≠ a := fun b o e q => by subst q; rw [ga] at e; cases e
  have gs : ∀ b o, g.get? b = some o → g'.get? b = some o := fun b o e => (e2 b (ne b o e)).trans e
  have up : ∀ v u, RV g ρ v u → RV g' ρ v u := fun v u q => by
    cases u with
    | d y => obtain ⟨as, r⟩ := q; exact ⟨as, Reads.keeps gs r⟩
    | st n => exact q
    | val u => exact q
    | rng a b => obtain ⟨r, t, u, k, h1, h2, hb⟩ := q; exact ⟨r, t, u, k, h1, gs _ _ h2, hb⟩
  refine ⟨g', ⟨fun b o e => gs _ _ (S.base _ _ e), fun b o' e => ?_, S.len, fun n o p q1 q2 => (S.sto n o p q1 q2).keep up (fun _ q => q) (fun _ q => q), fun b q => ?_, S.apart, fun b o' e => ?_⟩, e1, gs, e2⟩
  · by_cases hb : b = a
    · subst hb; rw [e1] at e; cases e; exact ha
    · rw [e2 b hb] at e; exact S.sub _ _ e
  · have hb : b ≠ a := fun q' => by subst q'; exact ra q
    exact ⟨(e2 b hb).trans (S.free b q).1, (S.free b q).2⟩
  · by_cases q : b = a
    · subst q; rw [e1] at e; cases e; exact hbad
    · rw [e2 b q] at e; exact S.nd _ _ e
theorem Ext.freezeAt {ex : Addr → Prop} {g₁ g₂ g' : Heap} {ρ₁ ρ₂ : List (Addr × Addr)} {h₁ h₂ : Heap} (X : Ext ex g₁ ρ₁ h₁ g₂ ρ₂ h₂) {a : Addr} (f : h₁.get? a = none) (gs : ∀ b o, g₂.get? b = some o → g'.get? b = some o) (gne : ∀ b, b ≠ a → g'.get? b = g₂.get? b) :
    Ext ex g₁ ρ₁ h₁ g' ρ₂ h₂ :=
  ⟨fun b o e => gs _ _ (X.gs _ _ e), fun b q1 q2 => (gne b fun z => q1 (by rw [z]; exact f)).trans (X.gn _ q1 q2), X.rs, X.keep, X.dom⟩

/-! subscripts -/
theorem subTail_ok {value slice : Expr} {o i : Value} {Ty id : String} {ops : List Value} {Q : Value → Shared → Prop} (hT : s.TypeIs o Ty)
    (hl : typeLookup (.type Ty) "__getitem__" = pure (some (.builtin id))) (hs : subscripted slice false o i = operate ops (getItem o i)) (h : wpAny (model prog w) A (getItem o i) Q E s) :
    wpAny (model prog w) A (subscriptTail value slice o i) Q E s := by
  unfold subscriptTail
  refine wpAny_bind ?_
  rw [getitemInPython_of_ne hT.not_modules]
  refine wpAny_bind (wpAny_specialOf hT hl ?_)
  have fin : wpAny (model prog w) A (subscripted slice false o i) (fun r s₃ => wpAny (model prog w) A (letTemporaryGo value o r >>= fun _ => pure r) Q E s₃) E s := by
    rw [hs]
    exact wpAny_operating (wpAny_mono h (fun r s₃ h₃ => wpAny_bind (wpAny_letTemporaryGo (wpAny_pure h₃))) fun _ _ x => x)
  first
    | exact wpAny_pure (wpAny_bind fin)
    | exact wpAny_bind (wpAny_pure (wpAny_bind fin))
    | exact wpAny_bind fin

inductive SubT (s : Shared) (x : Value) : Prop
  | mk (Ty id : String) : s.TypeIs x Ty → typeLookup (.type Ty) "__getitem__" = pure (some (.builtin id)) → SubT s x
theorem subT_list {x : Value} {xs : List PyData} (r : SeqD g s.heap "list" xs x) : SubT s x := by
  obtain ⟨l, vs, n, dd, sl, as, ho, -, -⟩ := r
  exact ⟨"list", _, ⟨_, ho, rfl⟩, list_getitem_lookup⟩
theorem subT_tuple {x : Value} {xs : List PyData} (r : SeqD g s.heap "tuple" xs x) : SubT s x := by
  obtain ⟨l, vs, n, dd, sl, as, ho, -, -⟩ := r
  exact ⟨"tuple", _, ⟨_, ho, rfl⟩, slot_tuple_getitem.lookup⟩
theorem subscr_type {a b v : V} {x : Value} (e : subscr a b σ = some v) (S : SR prog w h₀ g ρ σ s.heap) (r : RV g ρ x a) : SubT s x := by
  rcases orr_inv e with e | e
  · obtain ⟨i, -, e⟩ := ob_inv e
    obtain ⟨-, e⟩ := gd_inv e
    cases a with
    | d z =>
      obtain ⟨xs, e1, -⟩ := ob_inv e
      rcases orr_pure e1 with rfl | rfl
      · exact subT_list (seqD_list S r)
      · exact subT_tuple (seqD_tuple S r)
    | st n =>
      obtain ⟨xs, e1, -⟩ := ob_inv e
      obtain ⟨p, vs, k, -, -, h3, -, -⟩ := S.atL (lstAt_inv e1) r
      exact ⟨"list", _, ⟨_, h3, rfl⟩, list_getitem_lookup⟩
    | _ => exact noneE' e
  · obtain ⟨k, -, e⟩ := ob_inv e
    obtain ⟨n, e1, e⟩ := ob_inv e
    obtain ⟨kvs, e2, -⟩ := ob_inv e
    rw [vSt_inv e1] at r
    obtain ⟨p, kvs', -, -, -, h4, -⟩ := S.atD (dictAt_inv e2) r
    exact ⟨"dict", _, h4.typeIs, slot_dict_getitem.lookup⟩

theorem plainSub_eq {slice : Expr} (h : isSliceE slice = false) (o i : Value) : subscripted slice false o i = operate [o, i] (getItem o i) := by
  cases slice <;> first | rfl | exact nomatch h
theorem readsAll_take {h : Heap} {vs : List Value} {xs : List PyData} {as : List Addr} (r : ReadsAll h vs xs as) (k : Nat) : ∃ bs, ReadsAll h (vs.take k) (xs.take k) bs := readsAll_of ((of_readsAll r).take k)
theorem readsAll_drop {h : Heap} {vs : List Value} {xs : List PyData} {as : List Addr} (r : ReadsAll h vs xs as) (k : Nat) : ∃ bs, ReadsAll h (vs.drop k) (xs.drop k) bs := readsAll_of ((of_readsAll r).drop k)

section
variable {p : Pos} {v : V} {σ' : Sto} {Q : Value → Shared → Prop}
theorem subAt_ok (O : OK prog w h₀ n L) (Rm : Room A n) {o i : Expr} (hp : isSliceE i = false) (e : subAt (L.e sc fr) o i σ = some (v, σ'))
    (S : SR prog w h₀ g ρ σ s.heap) (F : FR g ρ env sc fr s.heap) (K : KV prog w h₀ g ρ s σ' v Q) : wpAny (model prog w) A (eval (.Subscript o i p) env) Q E s := by
  obtain ⟨a, σ₁, e1, e⟩ := bd_inv e
  obtain ⟨b, σ₂, e2, e⟩ := bd_inv e
  obtain ⟨z, e3, e⟩ := ob_inv e
  refine Subscript_ (two_ok O Rm (X := subscriptTail o i) e1 e2 S F fun g' ρ' h' tk x y S' X' R1 R2 => ?_)
  obtain ⟨Ty, id, hT, hl⟩ := subscr_type (s := ⟨h', s.gens, s.drawn, tk, s.os⟩) e3 S' R1
  exact subTail_ok hT hl (plainSub_eq hp x y) (subscr_ok (s := ⟨h', s.gens, s.drawn, tk, s.os⟩) e3 S' R1 R2 ((K.of e).ext X'))
theorem subTo_ok (O : OK prog w h₀ n L) (Rm : Room A n) {o : Expr} {k : Int} {kk : Nat} {kp sp : Pos} (e : subTo (L.e sc fr) o k σ = some (v, σ'))
    (S : SR prog w h₀ g ρ σ s.heap) (F : FR g ρ env sc fr s.heap) (K : KV prog w h₀ g ρ s σ' v Q) : wpAny (model prog w) A (eval (.Subscript o (.Slice none (some (.Constant (.int k) kk kp)) none sp) p) env) Q E s := by
  obtain ⟨a, σ₁, e1, e⟩ := bd_inv e
  obtain ⟨xs, e2, e⟩ := ob_inv e
  obtain ⟨hk, e⟩ := gd_inv e
  have K := K.of e
  rw [listOf_inv e2] at e1
  clear e e2
  have hk := Bool.and_eq_true_iff.mp hk
  have h0 := of_decide_eq_true (Bool.and_eq_true_iff.mp hk.1).1
  have hs := small_len hk.2
  clear hk
  refine Subscript_ (O.ev Rm e1 S F fun g' ρ' h' tk x S' X' R' => ?_)
  obtain ⟨l, vs, m, dd, sl, as, ho, rr, hz⟩ := seqD_list (s := ⟨h', s.gens, s.drawn, tk, s.os⟩) S' R'
  clear R' e1
  refine wpAny_Slice ?_
  rw [evalPart_none, evalPart_some]
  refine wpAny_pure (wpAny_Constant_int ?_)
  refine wpAny_pure ?_
  obtain ⟨S1, X1⟩ := S'.grow (h' := h'.push { cls := .type "slice", data := .fields #[.none, .int k tk, .none] }) fun _ _ e => Heap.get?_push_of_some _ e
  refine subTail_ok (s := ⟨h'.push { cls := .type "slice", data := .fields #[.none, .int k tk, .none] }, s.gens, s.drawn, tk + 1, s.os⟩) (ops := [.ref h'.objs.size, .ref l]) (Ty := "list") ⟨_, Heap.get?_push_of_some _ ho, rfl⟩ list_getitem_lookup rfl
    (wpAny_getItem_list_slice (items := vs) ⟨_, Heap.get?_push_of_some _ ho, rfl, _, rfl⟩ (Heap.IsSliceOf.new ..) .none (.int _ _) .none (by simp) ?_ (by have lb := line_big; lia))
  obtain ⟨bs, rb⟩ := readsAll_take rr k.toNat
  refine KV.newList (s := ⟨h'.push { cls := .type "slice", data := .fields #[.none, .int k tk, .none] }, s.gens, s.drawn, tk + 1, s.os⟩) (g := g') (K.ext (tk := tk + 1) (X'.trans X1)) S1 (as := bs) ?_ _
  have e2 := slicePick_upto' vs k.toNat
  rw [show ((k.toNat : Nat) : Int) = k by lia] at e2
  rw [e2]
  exact rb
theorem subFrom_ok (O : OK prog w h₀ n L) (Rm : Room A n) {o : Expr} {k : Int} {kk : Nat} {kp sp : Pos} (e : subFrom (L.e sc fr) o k σ = some (v, σ'))
    (S : SR prog w h₀ g ρ σ s.heap) (F : FR g ρ env sc fr s.heap) (K : KV prog w h₀ g ρ s σ' v Q) : wpAny (model prog w) A (eval (.Subscript o (.Slice (some (.Constant (.int k) kk kp)) none none sp) p) env) Q E s := by
  obtain ⟨a, σ₁, e1, e⟩ := bd_inv e
  obtain ⟨xs, e2, e⟩ := ob_inv e
  obtain ⟨hk, e⟩ := gd_inv e
  have K := K.of e
  rw [tupOf_inv e2] at e1
  clear e e2
  have hk := Bool.and_eq_true_iff.mp hk
  have hs := small_len hk.2
  have hk := Bool.and_eq_true_iff.mp hk.1
  have h1 := of_decide_eq_true hk.1
  have h2 := of_decide_eq_true hk.2
  clear hk
  refine Subscript_ (O.ev Rm e1 S F fun g' ρ' h' tk x S' X' R' => ?_)
  obtain ⟨l, vs, m, dd, sl, as, ho, rr, hz⟩ := seqD_tuple (s := ⟨h', s.gens, s.drawn, tk, s.os⟩) S' R'
  clear R' e1
  refine wpAny_Slice ?_
  rw [evalPart_some, evalPart_none]
  refine wpAny_Constant_int (wpAny_pure ?_)
  refine wpAny_pure ?_
  obtain ⟨m, rfl⟩ : ∃ m : Nat, k = (m : Int) := ⟨k.toNat, by lia⟩
  have lb := line_big
  obtain ⟨S1, X1⟩ := S'.grow (h' := h'.push { cls := .type "slice", data := .fields #[.int (m : Nat) tk, .none, .none] }) fun _ _ e => Heap.get?_push_of_some _ e
  refine subTail_ok (s := ⟨h'.push { cls := .type "slice", data := .fields #[.int (m : Nat) tk, .none, .none] }, s.gens, s.drawn, tk + 1, s.os⟩) (ops := [.ref h'.objs.size, .ref l]) (Ty := "tuple") ⟨_, Heap.get?_push_of_some _ ho, rfl⟩ slot_tuple_getitem.lookup rfl
    (getItem_tuple_from (items := vs) ⟨_, Heap.get?_push_of_some _ ho, rfl, _, rfl⟩ (Heap.IsSliceOf.new ..) (by lia) (by lia) ?_ (by lia))
  obtain ⟨bs, rb⟩ := readsAll_drop rr m
  exact KV.newTuple (s := ⟨h'.push { cls := .type "slice", data := .fields #[.int (m : Nat) tk, .none, .none] }, s.gens, s.drawn, tk + 1, s.os⟩) (g := g') (K.ext (tk := tk + 1) (X'.trans X1)) S1 (as := bs) (by simpa using rb) _
inductive SubI (e : Expr → Sto → Res V) (o : Expr) (σ : Sto) (v : V) (σ' : Sto) : Expr → Prop
  | at (i : Expr) : isSliceE i = false → subAt e o i σ = some (v, σ') → SubI e o σ v σ' i
  | to (k : Int) (kk : Nat) (kp sp : Pos) : subTo e o k σ = some (v, σ') → SubI e o σ v σ' (.Slice none (some (.Constant (.int k) kk kp)) none sp)
  | from (k : Int) (kk : Nat) (kp sp : Pos) : subFrom e o k σ = some (v, σ') → SubI e o σ v σ' (.Slice (some (.Constant (.int k) kk kp)) none none sp)
theorem subI_one {e : Expr → Sto → Res V} {o : Expr} {c : Option Expr} {f : Int → Res V} {r : V × Sto} {P : Option Expr → Prop} (h : (ob c fun c => ob (intE c) f) = some r) (k : ∀ k kk kp, f k = some r → P (some (.Constant (.int k) kk kp))) : P c := by
  obtain ⟨x, rfl, h1⟩ := ob_inv h
  obtain ⟨n, h2, h3⟩ := ob_inv h1
  obtain ⟨kk, kp, rfl⟩ := intE_inv h2
  exact k n kk kp h3
theorem subE_inv {e : Expr → Sto → Res V} {o i : Expr} {σ σ' : Sto} {v : V} (h : subE e o i σ = some (v, σ')) : SubI e o σ v σ' i := by
  unfold subE at h
  cases q : isSliceE i with
  | false => rw [q] at h; exact .at i q h
  | true =>
    rw [q] at h
    obtain ⟨⟨a, b, c⟩, e1, h⟩ := ob_inv h
    obtain ⟨sp, rfl⟩ := sliceE_inv e1
    obtain ⟨hc, h⟩ := gd_inv h
    cases Option.isNone_iff_eq_none.mp hc
    rcases orr_inv h with h | h
    · obtain ⟨ha, h⟩ := gd_inv h
      cases Option.isNone_iff_eq_none.mp ha
      exact subI_one (e := e) (o := o) (P := fun b => SubI e o σ v σ' (.Slice none b none sp)) h fun k kk kp h => .to k kk kp sp h
    · obtain ⟨ha, h⟩ := gd_inv h
      cases Option.isNone_iff_eq_none.mp ha
      exact subI_one (e := e) (o := o) (P := fun b => SubI e o σ v σ' (.Slice b none none sp)) h fun k kk kp h => .from k kk kp sp h
theorem sub_ok (O : OK prog w h₀ n L) (Rm : Room A n) {o i : Expr} (e : subE (L.e sc fr) o i σ = some (v, σ')) (S : SR prog w h₀ g ρ σ s.heap) (F : FR g ρ env sc fr s.heap)
    (K : KV prog w h₀ g ρ s σ' v Q) : wpAny (model prog w) A (eval (.Subscript o i p) env) Q E s := by
  cases subE_inv e with
  | «at» _ h q => exact subAt_ok O Rm h q S F K
  | to k kk kp sp q => exact subTo_ok O Rm q S F K
  | «from» k kk kp sp q => exact subFrom_ok O Rm q S F K
end

/-! f-strings, dict displays -/
theorem str_assoc (a b c : Str) : a ++ b ++ c = a ++ (b ++ c) := by
  show Str.mk (a.cps ++ b.cps ++ c.cps) = Str.mk (a.cps ++ (b.cps ++ c.cps))
  rw [Array.append_assoc]
theorem str_nil (a : Str) : a ++ Str.empty = a := by
  show Str.mk (a.cps ++ #[]) = a
  simp
/-- a field's text -/
theorem field_ok {d : PyData} {t : Str} {x : Value} {Q : Value → Shared → Prop} (e : strOf d = some t) (hz : t.length ≤ sizeLine) (R : RV g ρ x (.d d)) (K : ∀ t' tk, Q (.str t t') { s with toks := tk }) : wpAny (model prog w) A (formatField x Str.empty) Q E s := by
  rcases orr_inv e with e | e
  · rw [dStr_inv e] at R
    obtain ⟨t', rfl⟩ := R.str
    exact wpAny_formatField_str (K _ _) (K _ _) hz
  · obtain ⟨i, e1, e⟩ := ob_inv e
    obtain ⟨hi, e⟩ := gd_inv e
    cases e
    rw [dInt_inv e1] at R
    obtain ⟨t', rfl⟩ := R.int
    refine wpAny_formatField_int ?_ (K _ _)
    have hi := Bool.and_eq_true_iff.mp hi
    have h1 := of_decide_eq_true hi.1
    have h2 := of_decide_eq_true hi.2
    rcases Nat.eq_zero_or_pos i.natAbs with h0 | hp
    · rw [h0]; decide
    · exact Nat.lt_trans ((Nat.log2_lt (Nat.ne_of_gt hp)).mpr (show i.natAbs < 2 ^ 20 by lia)) (by decide)
inductive FpI (e : Expr → Sto → Res V) (r : List Expr) (σ : Sto) : Expr → Str → Sto → Prop
  | str (t : Str) (k : Nat) (p : Pos) (u : Str) (σ₁ : Sto) : fparts e r σ = some (u, σ₁) → FpI e r σ (.Constant (.str t) k p) (t ++ u) σ₁
  | fld (y : Expr) (p : Pos) (d : PyData) (t u : Str) (σ₁ σ₂ : Sto) : e y σ = some (.d d, σ₁) → strOf d = some t → fparts e r σ₁ = some (u, σ₂) → FpI e r σ (.FormattedValue y (-1) none p) (t ++ u) σ₂
theorem fparts_inv {e : Expr → Sto → Res V} {x : Expr} {r : List Expr} {σ σ' : Sto} {u : Str} (h : fparts e (x :: r) σ = some (u, σ')) : FpI e r σ x u σ' := by
  have h : (orr (ob (strE x) fun s => bd (fparts e r σ) fun u σ => some (s ++ u, σ)) (ob (fieldE x) fun c => gd (c.2.1 == -1 && c.2.2.isNone) (bd (e c.1 σ) fun v σ => ob (vD v) fun y => ob (strOf y) fun s => bd (fparts e r σ) fun u σ => some (s ++ u, σ)))) = some (u, σ') := h
  rcases orr_inv h with h | h
  · obtain ⟨t, e1, h⟩ := ob_inv h
    obtain ⟨u', σ₁, e2, h⟩ := bd_inv h
    obtain ⟨k, p, hx⟩ := strE_inv e1
    rw [hx]
    exact some2 h (.str _ _ _ _ _ e2)
  · obtain ⟨⟨y, cv, sp⟩, e1, h⟩ := ob_inv h
    obtain ⟨hc, h⟩ := gd_inv h
    obtain ⟨v, σ₁, e2, h⟩ := bd_inv h
    obtain ⟨d, e3, h⟩ := ob_inv h
    obtain ⟨t, e4, h⟩ := ob_inv h
    obtain ⟨u', σ₂, e5, h⟩ := bd_inv h
    have hc := Bool.and_eq_true_iff.mp hc
    have h1 : cv = -1 := beq_iff_eq.mp hc.1
    have h2 : sp = none := Option.isNone_iff_eq_none.mp hc.2
    obtain ⟨p, hx⟩ := fieldE_inv e1
    rw [vD_inv e3] at e2
    rw [hx, show Expr.FormattedValue y cv sp p = .FormattedValue y (-1) none p by rw [h1, h2]]
    exact some2 h (.fld _ _ _ _ _ _ _ e2 e4 e5)
theorem fparts_ok (O : OK prog w h₀ n L) (Rm : Room A n) (xs : List Expr) {u : Str} {σ σ' : Sto} {g : Heap} {ρ : List (Addr × Addr)} {s : Shared} {acc : Str} {Q : Str → Shared → Prop} (e : fparts (L.e sc fr) xs σ = some (u, σ')) (S : SR prog w h₀ g ρ σ s.heap) (F : FR g ρ env sc fr s.heap)
    (hz : acc.length + u.length ≤ sizeLine) (K : ∀ g' ρ' h' tk, SR prog w h₀ g' ρ' σ' h' → Ext no g ρ s.heap g' ρ' h' → Q (acc ++ u) { s with heap := h', toks := tk }) : Joins (model prog w) A E (evalEach xs env) acc Q s := by
  induction xs generalizing u σ σ' g ρ s acc Q with
  | nil =>
    cases e
    have := K g ρ s.heap s.toks S (.refl ..)
    rw [str_nil] at this
    exact this
  | cons x r ih =>
    cases fparts_inv e with
    | str t k p u' σ₁ e2 =>
      rw [strLen_append, ← Nat.add_assoc, ← strLen_append] at hz
      refine wpAny_Constant_str ⟨_, _, rfl, Nat.le_trans (Nat.le_add_right _ _) hz, ih e2 S F hz fun g' ρ' h' tk S' X' => ?_⟩
      rw [str_assoc]
      exact K g' ρ' h' tk S' X'
    | fld y p d t u' σ₁ σ₂ e2 e4 e5 =>
      have ht : t.length ≤ sizeLine := by rw [strLen_append] at hz; lia
      rw [strLen_append, ← Nat.add_assoc, ← strLen_append] at hz
      refine wpAny_FormattedValue_plain (O.ev Rm e2 S F fun g' ρ' h' tk z S' X' R' => field_ok (s := ⟨h', s.gens, s.drawn, tk, s.os⟩) e4 ht R' fun t' tk' => ⟨_, _, rfl, Nat.le_trans (Nat.le_add_right _ _) hz, ?_⟩)
      refine ih (s := ⟨h', s.gens, s.drawn, tk', s.os⟩) e5 S' (F.extNo X') hz fun g'' ρ'' h'' tk'' S'' X'' => ?_
      rw [str_assoc]
      exact K g'' ρ'' h'' tk'' S'' (X'.trans X'')

theorem joined_ok (O : OK prog w h₀ n L) (Rm : Room A n) {xs : List Expr} {p : Pos} {v : V} {σ' : Sto} {Q : Value → Shared → Prop} (e : eJoin L sc fr xs σ = some (v, σ')) (S : SR prog w h₀ g ρ σ s.heap) (F : FR g ρ env sc fr s.heap)
    (K : KV prog w h₀ g ρ s σ' v Q) : wpAny (model prog w) A (eval (.JoinedStr xs p) env) Q E s := by
  obtain ⟨hn, e⟩ := gd_inv e
  cases xs with
  | nil => exact nomatch hn
  | cons x xs => cases xs with
    | nil => exact nomatch hn
    | cons y r =>
      obtain ⟨u, σ₁, e1, e⟩ := bd_inv e
      obtain ⟨hz, e⟩ := gd_inv e
      have K := K.of e
      have hz : u.length ≤ sizeLine := Nat.le_trans (Nat.le_of_lt (Nat.le_of_ble_eq_true hz)) (Nat.le_trans (by decide) line_big)
      have he : (Str.empty ++ u) = u := by
        show Str.mk (#[] ++ u.cps) = u
        simp
      exact wpAny_JoinedStr (fparts_ok O Rm _ e1 S F (by rw [show Str.empty.length = 0 from rfl, Nat.zero_add]; exact hz) fun g' ρ' h' tk S' X' => by rw [he]; exact ⟨hz, K _ _ _ _ _ S' X' ⟨_, .str _ _⟩⟩)

theorem pairs_ok (O : OK prog w h₀ n L) (Rm : Room A n) {pos : Pos} (ks : List (Option Expr)) {xs : List Expr} {names : List Str} {vs : List V} {σ σ' : Sto} {g : Heap} {ρ : List (Addr × Addr)} {s : Shared} {Q : List (Value × Value) → Shared → Prop} (hk : keysOf ks = some names) (e : seqE (L.e sc fr) xs σ = some (vs, σ'))
    (hl : names.length = vs.length) (S : SR prog w h₀ g ρ σ s.heap) (F : FR g ρ env sc fr s.heap)
    (K : ∀ g' ρ' h' tk ps us, SR prog w h₀ g' ρ' σ' h' → Ext no g ρ s.heap g' ρ' h' → Carries (PySem.strKind prog w) ps (names.zip us) → All2 (RV g' ρ') us vs → Q ps { s with heap := h', toks := tk }) :
    wpAny (model prog w) A (evalPairs (pairTrees ks xs env pos)) Q E s := by
  induction ks generalizing xs names vs σ σ' g ρ s Q with
  | nil =>
    cases hk
    cases xs with
    | nil => cases e; exact evalPairs_nil (K g ρ s.heap s.toks [] [] S (.refl ..) trivial .nil)
    | cons x r => cases seqE_inv e with
      | mk => exact nomatch hl
  | cons k ks ih =>
    have hk : (ob k fun e => ob (strE e) fun s => ob (keysOf ks) fun r => some (s :: r)) = some names := hk
    obtain ⟨k, rfl, hk2⟩ := ob_inv hk
    obtain ⟨t, h1, hk3⟩ := ob_inv hk2
    obtain ⟨names', h2, hk4⟩ := ob_inv hk3
    cases hk4
    clear hk hk2 hk3
    obtain ⟨k2, kp, rfl⟩ := strE_inv h1
    cases xs with
    | nil => cases e; exact nomatch hl
    | cons x r => cases seqE_inv e with
      | mk v ws σ₁ σ₂ hst e1 e2 =>
        refine pairTrees_cons_walk (wpAny_Constant_str (O.ev Rm e1 S F fun g' ρ' h' tk u S' X' R' => ?_))
        refine ih h2 e2 (Nat.succ.inj hl) S' (F.extNo X') fun g'' ρ'' h'' tk' ps us S'' X'' C'' R'' => ?_
        exact K g'' ρ'' h'' tk' _ (u :: us) S'' (X'.trans X'') ⟨by simp [PySem.strKind, Value.isStrOf], rfl, C''⟩ (.cons (R'.ext X'') R'')

theorem all2_zip {R : Value → V → Prop} {ks : List Str} {us : List Value} {vs : List V} (h : All2 R us vs) : All2 (fun a b => a.1 = b.1 ∧ R a.2 b.2) (ks.zip us) (ks.zip vs) := by
  induction h generalizing ks with
  | nil => cases ks <;> exact .nil
  | cons a _ ih => cases ks with
    | nil => exact .nil
    | cons k ks => exact .cons ⟨rfl, a⟩ ih

theorem keys_some {ks : List (Option Expr)} {names : List Str} (e : keysOf ks = some names) : ks.all (·.isSome) = true ∧ ks.length = names.length := by
  induction ks generalizing names with
  | nil => cases e; exact ⟨rfl, rfl⟩
  | cons k ks ih =>
    have e : (ob k fun e => ob (strE e) fun s => ob (keysOf ks) fun r => some (s :: r)) = some names := e
    obtain ⟨k, rfl, e2⟩ := ob_inv e
    obtain ⟨t, h1, e3⟩ := ob_inv e2
    obtain ⟨names', h2, e4⟩ := ob_inv e3
    cases e4
    exact ⟨(ih h2).1, congrArg (· + 1) (ih h2).2⟩

theorem seqE_len {f : Expr → Sto → Res V} (xs : List Expr) {σ σ' : Sto} {vs : List V} (e : seqE f xs σ = some (vs, σ')) : xs.length = vs.length := by
  induction xs generalizing σ vs with
  | nil => cases e; rfl
  | cons x r ih => cases seqE_inv e with
    | mk v ws σ₁ σ₂ hst e1 e2 => exact congrArg (· + 1) (ih e2)

theorem dict_ok (B : Base prog w h₀ T) (O : OK prog w h₀ n L) (Rm : Room A n) {ks : List (Option Expr)} {xs : List Expr} {p : Pos} {v : V} {σ' : Sto} {Q : Value → Shared → Prop} (e : eDict L sc fr ks xs σ = some (v, σ')) (S : SR prog w h₀ g ρ σ s.heap) (F : FR g ρ env sc fr s.heap)
    (K : KV prog w h₀ g ρ s σ' v Q) : wpAny (model prog w) A (eval (.Dict ks xs p) env) Q E s := by
  obtain ⟨names, e1, e⟩ := ob_inv e
  obtain ⟨vs, σ₁, e2, e⟩ := bd_inv e
  obtain ⟨hc, e⟩ := gd_inv e
  cases e
  have hc := Bool.and_eq_true_iff.mp hc
  have hnd := of_decide_eq_true hc.2
  have hc := Bool.and_eq_true_iff.mp hc.1
  have hl := beq_iff_eq.mp hc.1
  have hlt := of_decide_eq_true hc.2
  clear hc
  have hks := keys_some e1
  have hxl := seqE_len _ e2
  have low : (s.heap.objs.size == sysModules) = false := beq_eq_false_iff_ne.mpr (Nat.ne_of_gt (S.big B))
  cases ks with
  | nil =>
    cases e1
    cases vs with
    | cons _ _ => exact nomatch hl
    | nil =>
      cases xs with
      | cons _ _ => exact nomatch hxl
      | nil =>
        cases e2
        exact wpAny_Dict_empty (K.newSt S rfl (fun _ => ⟨rfl, low, [], Heap.DictOf.new _, .nil⟩) _)
  | cons k ks =>
    have fresh := size_none s.heap
    have gfresh : g.get? s.heap.objs.size = none := by
      cases q : g.get? s.heap.objs.size with
      | none => rfl
      | some o => rw [S.sub _ _ q] at fresh; cases fresh
    have rfresh : ¬ InR ρ s.heap.objs.size := fun q => (S.free _ q).2 fresh
    have dnew := Heap.DictOf.new (knd := PySem.strKind prog w) s.heap
    obtain ⟨S0, X0⟩ := S.grow (h' := s.heap.push { cls := .type "dict", data := .dict #[] }) fun _ _ e => Heap.get?_push_of_some _ e
    have n0 : (s.heap.push { cls := .type "dict", data := .dict #[] }).get? s.heap.objs.size ≠ none := by rw [Heap.get?_push_size _ rfl]; exact Option.some_ne_none _
    refine wpAny_Dict_walk (knd := PySem.strKind prog w) hks.1 (by lia) (by simp) (by lia) ?_
    refine pairs_ok O Rm _ e1 e2 hl S0 (F.extNo X0) fun g' ρ' h' tk ps us S' X' C' R' => ⟨names.zip us, C', dnew.at fun o e => X'.keep _ _ rfresh id e, fun h'' hd hs => ?_⟩
    clear e1 e2 hks hxl C' dnew S0
    have hu := R'.length
    rw [merged_nil_of_nodup _ (by rw [List.map_fst_zip (by lia)]; exact hnd)] at hd
    have hne : h''.get? s.heap.objs.size ≠ none := by obtain ⟨o, es, ep, h5, _⟩ := hd; rw [h5]; exact Option.some_ne_none _
    have kk : ∀ a o, a ≠ s.heap.objs.size → a ≠ s.heap.objs.size → h'.get? a = some o → h''.get? a = some o := fun a o n1 _ e => (hs.2 a n1).trans e
    have S2 := S'.addAt (p := (s.heap.objs.size, s.heap.objs.size)) (o := .dict (names.zip vs)) kk (X'.fresh n0 rfresh) (X'.fresh n0 rfresh) (X'.gn _ n0 gfresh) (X'.gn _ n0 gfresh) hne hne ⟨rfl, low, _, hd, (all2_zip R').mono fun a b q => ⟨q.1, q.2.more⟩⟩
    exact K _ _ _ _ _ S2 ((X0.trans X').addAt fresh fresh kk) ⟨(s.heap.objs.size, s.heap.objs.size), S'.last, rfl⟩
end
end Mine
namespace Mine
open PySem PySem.Calls PyProof.Rows PySem.W

section
variable {prog : Program} {w : World} {A : Around} {E : Value → Shared → Prop} {s : Shared} {h₀ g g' : Heap} {ρ ρ' : List (Addr × Addr)} {σ σ' : Sto} {T : Tab} {n : Nat} {L : Lv} {sc : Scope} {fr : Vars} {env : Env} {ex : Addr → Prop}

/-! one address of nobody's changes -/
theorem SR.off {h h' : Heap} {a : Addr} (S : SR prog w h₀ g ρ σ h) (k : ∀ b o, b ≠ a → h.get? b = some o → h'.get? b = some o) (ra : ¬ InR ρ a) (ga : g.get? a = none) : SR prog w h₀ g ρ σ h' := by
  have gne : ∀ b o, g.get? b = some o → b ≠ a := fun b o e q => by subst q; rw [ga] at e; cases e
  have rne : ∀ (i : Nat) (p : Addr × Addr), ρ[i]? = some p → p.1 ≠ a ∧ p.2 ≠ a := fun i p e => ⟨fun q => ra ⟨p, List.mem_of_getElem? e, .inl q.symm⟩, fun q => ra ⟨p, List.mem_of_getElem? e, .inr q.symm⟩⟩
  refine ⟨S.base, fun b o e => k _ _ (gne _ _ e) (S.sub _ _ e), S.len, fun n o p e1 e2 => (S.sto n o p e1 e2).keep (fun _ _ q => q) (fun o q => k _ o (rne n p e2).1 q) (fun o q => k _ o (rne n p e2).2 q), fun b q => ⟨(S.free b q).1, ?_⟩, S.apart, S.nd⟩
  have hb : b ≠ a := fun z => ra (z ▸ q)
  cases e : h.get? b with
  | none => exact absurd e (S.free b q).2
  | some o => rw [k _ _ hb e]; exact Option.some_ne_none _
theorem Ext.off {g₁ g₂ : Heap} {ρ₁ ρ₂ : List (Addr × Addr)} {h₁ h₂ h' : Heap} {a : Addr} (X : Ext ex g₁ ρ₁ h₁ g₂ ρ₂ h₂) (k : ∀ b o, b ≠ a → h₂.get? b = some o → h'.get? b = some o) (f : h₁.get? a = none) : Ext ex g₁ ρ₁ h₁ g₂ ρ₂ h' := by
  have ne : ∀ b, h₁.get? b ≠ none → b ≠ a := fun b q z => q (z ▸ f)
  refine ⟨X.gs, X.gn, X.rs, fun b o q1 q2 q3 => k _ _ (ne b (by rw [q3]; exact Option.some_ne_none _)) (X.keep _ _ q1 q2 q3), fun b q => ?_⟩
  cases e : h₂.get? b with
  | none => exact absurd e (X.dom _ q)
  | some o => rw [k _ _ (ne b q) e]; exact Option.some_ne_none _
theorem FR.off {h h' : Heap} {a : Addr} (F : FR g ρ env sc fr h) (k : ∀ b o, b ≠ a → h.get? b = some o → h'.get? b = some o) (hL : env.locals ≠ a) (hC : ∀ x c, env.cells.lookup x = some c → c ≠ a) : FR g ρ env sc fr h' := by
  have nn : ∀ b, b ≠ a → h.get? b ≠ none → h'.get? b ≠ none := fun b hb q => by
    cases e : h.get? b with
    | none => exact absurd e q
    | some o => rw [k _ _ hb e]; exact Option.some_ne_none _
  refine ⟨F.kind, F.globals, F.builtins, F.ok, F.glob, F.loc, fun y hy => ?_, F.fre, ?_, fun y v h1 h2 => ?_, ⟨F.L.1, F.L.2.1, nn _ hL F.L.2.2⟩, fun y c hc => ?_, F.inj⟩
  · obtain ⟨h1, c, ov, h2, h3⟩ := F.cel y hy
    exact ⟨h1, c, ov, h2, cell_at h3 fun o => k _ o (hC y c h2)⟩
  · obtain ⟨m, h1, h2⟩ := F.vars
    exact ⟨m, ns_at h1 fun o => k _ o hL, h2⟩
  · obtain ⟨c, u, a', b, d⟩ := F.cvars y v h1 h2
    exact ⟨c, u, a', cell_at b fun o => k _ o (hC y c a'), d⟩
  · have := F.C y c hc
    exact ⟨this.1, this.2.1, nn _ (hC y c hc) this.2.2.1, this.2.2.2⟩

/-! walking -/
inductive ItAt (h : Heap) (it : Addr) : Value → V → Nat → Prop
  | list (l : Addr) (xs : List PyData) (i : Nat) : h.IsListIter it l i → ItAt h it (.ref l) (.d (.list xs)) i
  | tuple (l : Addr) (xs : List PyData) (i : Nat) : h.IsTupleIter it l i → ItAt h it (.ref l) (.d (.tuple xs)) i
  | st (l : Addr) (n i : Nat) : h.IsListIter it l i → ItAt h it (.ref l) (.st n) i
  | rng (src : Value) (a b : Int) (i : Nat) : IsRangeIter h it (a + i) ((if a < b then b - a else 0) - i) 1 → ItAt h it src (.rng a b) i
theorem ItAt.keep {h h' : Heap} {it : Addr} {src : Value} {v : V} {i : Nat} (x : ItAt h it src v i) (k : ∀ o, h.get? it = some o → h'.get? it = some o) : ItAt h' it src v i := by
  cases x with
  | list l xs _ q => obtain ⟨o, h1, h2⟩ := q; exact .list l xs _ ⟨o, k _ h1, h2⟩
  | tuple l xs _ q => obtain ⟨o, h1, h2⟩ := q; exact .tuple l xs _ ⟨o, k _ h1, h2⟩
  | st l n _ q => obtain ⟨o, h1, h2⟩ := q; exact .st l n _ ⟨o, k _ h1, h2⟩
  | rng _ a b _ q => exact .rng _ a b _ (k _ q)
theorem ItAt.some {h : Heap} {it : Addr} {src : Value} {v : V} {i : Nat} (x : ItAt h it src v i) : h.get? it ≠ none := by
  have : ∃ o, h.get? it = Option.some o := by
    cases x with
    | list l xs _ q => exact ⟨_, q.choose_spec.1⟩
    | tuple l xs _ q => exact ⟨_, q.choose_spec.1⟩
    | st l n _ q => exact ⟨_, q.choose_spec.1⟩
    | rng _ a b _ q => exact ⟨_, q⟩
  obtain ⟨o, e⟩ := this
  rw [e]
  exact Option.some_ne_none _

theorem iter_ok {v : V} {r : Option V} {u : Value} {i : Nat} {Q : Value → Shared → Prop} (e : itemAt σ v i = some r) (S : SR prog w h₀ g ρ σ s.heap) (ru : RV g ρ u v)
    (K : ∀ o : Obj, o.isFreed = false → ItAt (s.heap.push o) s.heap.objs.size u v 0 → Q (.ref s.heap.objs.size) { s with heap := s.heap.push o }) : wpAny (model prog w) A (pyIter u) Q E s := by
  cases v with
  | d z =>
    obtain ⟨xs, e1, -⟩ := ob_inv e
    rcases orr_pure e1 with rfl | rfl
    · obtain ⟨l, vs, m, dd, sl, as, ho, rr, hz⟩ := seqD_list S ru
      exact wpAny_pyIter_list (items := vs) ⟨_, ho, rfl, _, rfl⟩ (K _ rfl (.list l _ _ ⟨_, Heap.get?_push_size _ rfl, rfl, rfl⟩))
    · obtain ⟨l, vs, m, dd, sl, as, ho, rr, hz⟩ := seqD_tuple S ru
      exact wpAny_pyIter_tuple (items := vs) ⟨_, ho, rfl, _, rfl⟩ (K _ rfl (.tuple l _ _ ⟨_, Heap.get?_push_size _ rfl, rfl, rfl⟩))
  | st n =>
    obtain ⟨xs, e1, -⟩ := ob_inv e
    obtain ⟨p, vs, k, -, -, h3, -, -⟩ := S.atL (lstAt_inv e1) ru
    exact wpAny_pyIter_list (items := vs) ⟨_, h3, rfl, _, rfl⟩ (K _ rfl (.st p.1 n _ ⟨_, Heap.get?_push_size _ rfl, rfl, rfl⟩))
  | val u => exact noneE' e
  | rng a b =>
    obtain ⟨r, t, u, k, rfl, h2, hb⟩ := ru
    refine wpAny_pyIter_range (S.sub _ _ h2) (small_one (by lia) (by lia) (by lia) (by lia)) ?_
    rw [rangeSize_one]
    refine K _ rfl (.rng _ a b _ ?_)
    rw [Int.natCast_zero, Int.add_zero, Int.sub_zero]
    exact Heap.get?_push_size _ rfl

theorem next_ok {v : V} {r : Option V} {src : Value} {it : Addr} {i : Nat} {Q : Option Value → Shared → Prop} (hh : A.handled = none) (e : itemAt σ v i = some r) (S : SR prog w h₀ g ρ σ s.heap) (ru : RV g ρ src v) (I : ItAt s.heap it src v i)
    (K0 : r = none → ∀ h', Heap.ExtBut it s.heap h' → Q none { s with heap := h' })
    (K1 : ∀ x, r = some x → ∀ h' tk u, RV g ρ u x → ItAt h' it src v (i + 1) → Heap.ExtBut it s.heap h' → Q (some u) { s with heap := h', toks := tk }) : wpAny (model prog w) A (pyNext (.ref it)) Q E s := by
  cases I with
  | list l xs i I =>
    cases Option.some.inj e
    obtain ⟨_, vs, m, dd, sl, as, ho, rr, hz⟩ := seqD_list S ru
    cases hx : xs[i]? with
    | none =>
      have : vs[i]? = none := by rw [List.getElem?_eq_none_iff] at hx; rw [Array.getElem?_eq_none_iff]; lia
      exact wpAny_pyNext_list_end hh I ⟨_, ho, rfl, _, rfl⟩ this (K0 (congrArg (Option.map V.d) hx))
    | some d =>
      obtain ⟨z, bs, h1, h2⟩ := readsAll_get rr hx
      exact wpAny_pyNext_list_item I ⟨_, ho, rfl, _, rfl⟩ (x := z) (by simpa using h1) fun h' hI hs => K1 (.d d) (congrArg (Option.map V.d) hx) h' s.toks z ⟨_, h2⟩ (.list l xs _ hI) fun b o hb e => (hs.2 b hb).trans e
  | tuple l xs i I =>
    cases Option.some.inj e
    obtain ⟨_, vs, m, dd, sl, as, ho, rr, hz⟩ := seqD_tuple S ru
    cases hx : xs[i]? with
    | none =>
      have : vs[i]? = none := by rw [List.getElem?_eq_none_iff] at hx; rw [Array.getElem?_eq_none_iff]; lia
      exact wpAny_pyNext_tuple_end hh I ⟨_, ho, rfl, _, rfl⟩ this (K0 (congrArg (Option.map V.d) hx))
    | some d =>
      obtain ⟨z, bs, h1, h2⟩ := readsAll_get rr hx
      exact wpAny_pyNext_tuple_item I ⟨_, ho, rfl, _, rfl⟩ (x := z) (by simpa using h1) fun h' hI hs => K1 (.d d) (congrArg (Option.map V.d) hx) h' s.toks z ⟨_, h2⟩ (.tuple l xs _ hI) fun b o hb e => (hs.2 b hb).trans e
  | st l n i I =>
    obtain ⟨xs, e1, e⟩ := ob_inv e
    cases Option.some.inj e
    have hq := S.atL (lstAt_inv e1) ru
    generalize hv : Value.ref l = src' at hq
    obtain ⟨p, vs, k, -, -, h3, h4, -⟩ := hq
    cases hv
    cases hx : xs[i]? with
    | none =>
      have : vs[i]? = none := by have := h4.none hx; simpa using this
      exact wpAny_pyNext_list_end hh I ⟨_, h3, rfl, _, rfl⟩ this (K0 hx)
    | some d =>
      obtain ⟨z, h5, h6⟩ := h4.get hx
      exact wpAny_pyNext_list_item I ⟨_, h3, rfl, _, rfl⟩ (x := z) (by simpa using h5) fun h' hI hs => K1 d hx h' s.toks z h6 (.st p.1 n _ hI) fun b o hb e => (hs.2 b hb).trans e
  | rng src a b i I =>
    by_cases hlt : a + i < b
    · have e : some (some (V.d (.int (a + i)))) = some r := by rw [← e]; show _ = br (decide (a + (i : Int) < b)) _ _; rw [decide_eq_true hlt]; rfl
      cases e
      have hab : a < b := by lia
      refine wpAny_pyNext_range_item I (by rw [if_pos hab]; lia) fun h' hI hs => K1 _ rfl h' _ _ ⟨_, .int _ _⟩ (.rng _ a b _ ?_) fun b o hb e => (hs.2 b hb).trans e
      have e1 : a + ((i + 1 : Nat) : Int) = a + (i : Int) + 1 := by lia
      have e2 : (if a < b then b - a else 0) - ((i + 1 : Nat) : Int) = (if a < b then b - a else 0) - (i : Int) - 1 := by lia
      rw [e1, e2]
      exact hI
    · have e : some none = some r := by rw [← e]; show _ = br (decide (a + (i : Int) < b)) _ _; rw [decide_eq_false hlt]; rfl
      cases e
      exact wpAny_pyNext_range_end hh I (by split <;> lia) (K0 rfl)

/-! names get values -/
theorem putV_cons {α : Type} {p : Str × α} {r : List (Str × α)} {x : Str} {v : α} : putV (p :: r) x v = br (p.1 == x) ((p.1, v) :: r) (p :: putV r x v) := rfl
theorem lookup_putV {α : Type} {l : List (Str × α)} {x : Str} {v : α} : (putV l x v).lookup x = some v := by
  induction l with
  | nil => exact List.lookup_cons_self
  | cons p r ih =>
    rw [putV_cons]
    by_cases h : p.1 = x
    · rw [beq_iff_eq.mpr h]
      show List.lookup x ((p.1, v) :: r) = _
      rw [h]
      exact List.lookup_cons_self
    · rw [beq_eq_false_iff_ne.mpr h]
      show List.lookup x (p :: putV r x v) = _
      rw [List.lookup_cons, beq_eq_false_iff_ne.mpr (Ne.symm h)]
      exact ih
theorem lookup_putV_ne {α : Type} {l : List (Str × α)} {x y : Str} {v : α} (hn : y ≠ x) : (putV l x v).lookup y = l.lookup y := by
  induction l with
  | nil => show List.lookup y [(x, v)] = _; rw [List.lookup_cons, beq_eq_false_iff_ne.mpr hn]
  | cons p r ih =>
    rw [putV_cons]
    by_cases h : p.1 = x
    · rw [beq_iff_eq.mpr h]
      show List.lookup y ((p.1, v) :: r) = List.lookup y (p :: r)
      rw [List.lookup_cons, List.lookup_cons, beq_eq_false_iff_ne.mpr (h ▸ hn)]
    · rw [beq_eq_false_iff_ne.mpr h]
      show List.lookup y (p :: putV r x v) = _
      rw [List.lookup_cons, List.lookup_cons, ih]

theorem bind_ok {x : Str} {v : V} {u : Value} {Q : Unit → Shared → Prop} (S : SR prog w h₀ g ρ σ s.heap) (F : FR g ρ env sc fr s.heap) (hx : canSet sc x = true) (R : RV g ρ u v)
    (K : ∀ h' tk, SR prog w h₀ g ρ σ h' → Ext (Own env sc) g ρ s.heap g ρ h' → FR g ρ env sc (putV fr x v) h' → (∀ b o, ¬ Own env sc b → s.heap.get? b = some o → h'.get? b = some o) → Q () { s with heap := h', toks := tk }) :
    wpAny (model prog w) A (storeName env x u) Q E s := by
  unfold canSet at hx
  rw [Bool.or_eq_true] at hx
  rcases hx with hx | hx
  · have hx : sc.names.lookup x = some .local := by simpa using hx
    obtain ⟨m, n1, n2⟩ := F.vars
    refine wpAny_storeName_local (F.loc x hx) n1 (fun h' hn hs => ?_) (by rw [F.kind]; rfl)
    have k : ∀ b o, b ≠ env.locals → s.heap.get? b = some o → h'.get? b = some o := fun b o hb e => (hs.2 b hb).trans e
    have nL : h'.get? env.locals ≠ none := by obtain ⟨o, es, ep, q, _⟩ := hn; rw [q]; exact Option.some_ne_none _
    have S' := S.off k F.L.2.1 F.L.1
    refine K h' _ S' ⟨fun _ _ e => e, fun _ _ e => e, ⟨[], by simp, fun _ hp => nomatch hp⟩, fun b o q1 q2 q3 => k b o (fun z => q2 (.inl z)) q3, fun b q => ?_⟩ ?_ (fun b o q1 q2 => k b o (fun z => q1 (.inl z)) q2)
    · by_cases hb : b = env.locals
      · rw [hb]; exact nL
      · cases e : s.heap.get? b with
        | none => exact absurd e q
        | some o => rw [k b o hb e]; exact Option.some_ne_none _
    · refine ⟨F.kind, F.globals, F.builtins, F.ok, F.glob, F.loc, fun y hy => ?_, F.fre, ⟨_, hn, fun y v' e1 e2 => ?_⟩, fun y v' e1 e2 => ?_, ⟨F.L.1, F.L.2.1, nL⟩, fun y c hc => ?_, F.inj⟩
      · obtain ⟨h1, c, ov, h2, h3⟩ := F.cel y hy
        exact ⟨h1, c, ov, h2, cell_at h3 fun o => k _ o (F.C y c h2).2.2.2⟩
      · by_cases hy : y = x
        · subst hy
          rw [lookup_putV] at e1
          cases e1
          exact ⟨u, by simp, R⟩
        · rw [lookup_putV_ne hy] at e1
          obtain ⟨u', h1, h2⟩ := n2 y v' e1 e2
          exact ⟨u', by simp [hy, h1], h2⟩
      · have hy : y ≠ x := by rintro rfl; rw [hx] at e2; rcases e2 with e2 | e2 <;> cases e2
        rw [lookup_putV_ne hy] at e1
        obtain ⟨c, u', h1, h2, h3⟩ := F.cvars y v' e1 e2
        exact ⟨c, u', h1, cell_at h2 fun o => k _ o (F.C y c h1).2.2.2, h3⟩
      · have := F.C y c hc
        refine ⟨this.1, this.2.1, ?_, this.2.2.2⟩
        cases e : s.heap.get? c with
        | none => exact absurd e this.2.2.1
        | some o => rw [k c o this.2.2.2 e]; exact Option.some_ne_none _
  · have hx : sc.names.lookup x = some .cell := by simpa using hx
    obtain ⟨hk, c, ov, hc, hcell⟩ := F.cel x hx
    refine wpAny_storeName_cell F.kind hk hc hcell fun h' hc' hs => ?_
    have k : ∀ b o, b ≠ c → s.heap.get? b = some o → h'.get? b = some o := fun b o hb e => (hs.2 b hb).trans e
    have nC : h'.get? c ≠ none := by obtain ⟨o, q, _⟩ := hc'; rw [q]; exact Option.some_ne_none _
    have FC := F.C x c hc
    have S' := S.off k FC.2.1 FC.1
    refine K h' s.toks S' ⟨fun _ _ e => e, fun _ _ e => e, ⟨[], by simp, fun _ hp => nomatch hp⟩, fun b o q1 q2 q3 => k b o (fun z => q2 (.inr ⟨x, hx, z ▸ hc⟩)) q3, fun b q => ?_⟩ ?_ (fun b o q1 q2 => k b o (fun z => q1 (.inr ⟨x, hx, z ▸ hc⟩)) q2)
    · by_cases hb : b = c
      · rw [hb]; exact nC
      · cases e : s.heap.get? b with
        | none => exact absurd e q
        | some o => rw [k b o hb e]; exact Option.some_ne_none _
    · refine ⟨F.kind, F.globals, F.builtins, F.ok, F.glob, F.loc, fun y hy => ?_, F.fre, ?_, fun y v' e1 e2 => ?_, ⟨F.L.1, F.L.2.1, ?_⟩, fun y c' hc'' => ?_, F.inj⟩
      · by_cases hyx : y = x
        · subst hyx; exact ⟨hk, c, _, hc, hc'⟩
        · obtain ⟨h1, c', ov', h2, h3⟩ := F.cel y hy
          exact ⟨h1, c', ov', h2, cell_at h3 fun o => k _ o fun z => hyx (F.inj y x c (z ▸ h2) hc)⟩
      · obtain ⟨m, n1, n2⟩ := F.vars
        refine ⟨m, ns_at n1 fun o => k _ o FC.2.2.2.symm, fun y v' e1 e2 => ?_⟩
        have hy : y ≠ x := by rintro rfl; rw [hx] at e2; cases e2
        rw [lookup_putV_ne hy] at e1
        exact n2 y v' e1 e2
      · by_cases hyx : y = x
        · subst hyx
          rw [lookup_putV] at e1
          cases e1
          exact ⟨c, u, hc, hc', R⟩
        · rw [lookup_putV_ne hyx] at e1
          obtain ⟨c', u', h1, h2, h3⟩ := F.cvars y v' e1 e2
          exact ⟨c', u', h1, cell_at h2 fun o => k _ o fun z => hyx (F.inj y x c (z ▸ h1) hc), h3⟩
      · cases e : s.heap.get? env.locals with
        | none => exact absurd e F.L.2.2
        | some o => rw [k _ o FC.2.2.2.symm e]; exact Option.some_ne_none _
      · have := F.C y c' hc''
        refine ⟨this.1, this.2.1, ?_, this.2.2.2⟩
        by_cases hb : c' = c
        · rw [hb]; exact nC
        · cases e : s.heap.get? c' with
          | none => exact absurd e this.2.2.1
          | some o => rw [k c' o hb e]; exact Option.some_ne_none _
end
end Mine
namespace Mine
open PySem PySem.Calls PyProof.Rows PySem.W

section
variable {prog : Program} {w : World} {A : Around} {E : Value → Shared → Prop} {s : Shared} {h₀ g g' : Heap} {ρ ρ' : List (Addr × Addr)} {σ σ' : Sto} {T : Tab} {n : Nat} {L : Lv} {sc : Scope} {fr fr' : Vars} {env : Env} {ex : Addr → Prop}

/-! tests -/
theorem OK.tst (O : OK prog w h₀ n L) (Rm : Room A n) {x : Expr} {b : Bool} {σ₁ : Sto} {Q : Bool → Shared → Prop} (e1 : L.t sc fr x σ = some (b, σ₁)) (S : SR prog w h₀ g ρ σ s.heap) (F : FR g ρ env sc fr s.heap)
    (K : KB prog w h₀ g ρ s σ₁ b Q) : wpAny (model prog w) A (isTrue x env (eval x env)) Q E s := O.t _ _ _ _ _ _ e1 A env g ρ s Q E Rm S F K
theorem allTrue_ok (O : OK prog w h₀ n L) (Rm : Room A n) {op : BoolOp} (xs : List Expr) {b : Bool} {σ σ' : Sto} {g : Heap} {ρ : List (Addr × Addr)} {s : Shared} {Q : Bool → Shared → Prop} (e : allT (L.t sc fr) (op == .And) xs σ = some (b, σ')) (S : SR prog w h₀ g ρ σ s.heap)
    (F : FR g ρ env sc fr s.heap) (K : KB prog w h₀ g ρ s σ' b Q) : wpAny (model prog w) A (allTrue op xs env) Q E s := by
  induction xs generalizing b σ g ρ s Q with
  | nil =>
    rw [arm_allTrue_nil]
    exact wpAny_pure (K.of e g ρ s.heap s.toks S (.refl ..))
  | cons x r ih =>
    have e : (bd (L.t sc fr x σ) fun b σ => br (b == (op == .And)) (allT (L.t sc fr) (op == .And) r σ) (some (!(op == .And), σ))) = some (b, σ') := e
    obtain ⟨c, σ₁, e1, e⟩ := bd_inv e
    cases op with
    | And =>
      refine wpAny_allTrue_And_cons (O.tst Rm e1 S F fun g' ρ' h' tk S' X' => ?_)
      cases c with
      | true => exact ih e S' (F.extNo X') (K.ext X')
      | false => exact K.of e g' ρ' h' tk S' X'
    | Or =>
      refine wpAny_allTrue_Or_cons (O.tst Rm e1 S F fun g' ρ' h' tk S' X' => ?_)
      cases c with
      | false => exact ih e S' (F.extNo X') (K.ext X')
      | true => exact K.of e g' ρ' h' tk S' X'

section
variable {b : Bool} {Q : Bool → Shared → Prop}
theorem test_plain (O : OK prog w h₀ n L) (Rm : Room A n) {x : Expr} (e : tPlain L sc fr x σ = some (b, σ'))
    (he : isTrue x env (eval x env) = (do let v ← eval x env; standAt x.pos; holding [v] (truthy v))) (S : SR prog w h₀ g ρ σ s.heap) (F : FR g ρ env sc fr s.heap) (K : KB prog w h₀ g ρ s σ' b Q) : wpAny (model prog w) A (isTrue x env (eval x env)) Q E s := by
  obtain ⟨v, σ₁, e1, e⟩ := bd_inv e
  obtain ⟨c, e2, e⟩ := ob_inv e
  exact wpAny_isTrue_value (O.ev Rm e1 S F fun g' ρ' h' tk u S' X' R' => truth_ok e2 R' (K.of e g' ρ' h' tk S' X')) he
theorem tCmp_ok (O : OK prog w h₀ n L) (Rm : Room A n) {op : CmpOp} {l r : Expr} {p : Pos} {whole : Sem Value} (e : tCmp L sc fr op l r σ = some (b, σ')) (S : SR prog w h₀ g ρ σ s.heap) (F : FR g ρ env sc fr s.heap) (K : KB prog w h₀ g ρ s σ' b Q) :
    wpAny (model prog w) A (isTrue (.Compare l [op] [r] p) env whole) Q E s := by
  obtain ⟨hset, e⟩ := gd_inv e
  obtain ⟨a, σ₁, e1, e⟩ := bd_inv e
  obtain ⟨c, σ₂, e2, e⟩ := bd_inv e
  refine wpAny_isTrue_Compare1 (two_ok O Rm (X := compareOp op) (Q := fun c s₃ => wpAny (model prog w) A (truthy c) Q E s₃) e1 e2 S F fun g' ρ' h' tk x y S' X' R1 R2 => ?_) (notSet hset)
  exact cmpop_ok e Rm.units' S' R1 R2 fun tk' es => wpAny_truthy_bool (K g' ρ' h' tk' (es ▸ S') X')
theorem tCmp2_ok (O : OK prog w h₀ n L) (Rm : Room A n) {op op' : CmpOp} {l r r' : Expr} {p : Pos} {whole : Sem Value} (e : tCmp2 L sc fr op op' l r r' σ = some (b, σ')) (S : SR prog w h₀ g ρ σ s.heap) (F : FR g ρ env sc fr s.heap) (K : KB prog w h₀ g ρ s σ' b Q) :
    wpAny (model prog w) A (isTrue (.Compare l [op, op'] [r, r'] p) env whole) Q E s := by
  obtain ⟨hset, e⟩ := gd_inv e
  obtain ⟨a, σ₁, e1, e⟩ := bd_inv e
  obtain ⟨c, σ₂, e2, e⟩ := bd_inv e
  obtain ⟨d, σ₃, e3, e⟩ := bd_inv e
  refine isTrue_chain (O.ev Rm e1 S F fun g1 ρ1 h1 tk1 u S1 X1 R1 => ?_) (show lastMarks [op, op'] [r, r'] = false from notSet (op := op') hset)
  refine test_link (O.ev Rm e2 S1 (F.extNo X1) fun g2 ρ2 h2 tk2 u2 S2 X2 R2 => ?_)
  refine cmpop_ok e3 Rm.units' S2 (R1.ext X2) R2 fun tk' es => wpAny_truthy_bool ?_
  have S2 := (es ▸ S2 : SR prog w h₀ g2 ρ2 σ₃ h2)
  cases d with
  | false => exact K.of e g2 ρ2 h2 tk' S2 (X1.trans X2)
  | true =>
    obtain ⟨z, σ₄, e4, e⟩ := bd_inv e
    refine test_last (O.ev (s := ⟨h2, s.gens, s.drawn, tk', s.os⟩) Rm e4 S2 (F.extNo (X1.trans X2)) fun g3 ρ3 h3 tk3 u3 S3 X3 R3 => ?_)
    exact cmpop_ok e Rm.units' S3 (R2.ext X3) R3 fun tk' es => wpAny_truthy_bool (K g3 ρ3 h3 tk' (es ▸ S3) (X1.trans (X2.trans X3)))
end
theorem t_step (O : OK prog w h₀ n L) : TOK prog w h₀ (n + 1) (build T L) := by
  intro sc fr x σ b σ' e A env g ρ s Q E Rm S F K
  have Rm := Rm.pred
  cases x
  case UnaryOp op x p =>
    cases op
    case Not =>
      have e : tNot L sc fr x σ = some (b, σ') := e
      obtain ⟨b1, σ₁, e1, e⟩ := bd_inv e
      exact wpAny_isTrue_Not (O.tst Rm e1 S F fun g' ρ' h' tk S' X' => K.of e g' ρ' h' tk S' X')
    all_goals exact test_plain O Rm e rfl S F K
  case BoolOp op xs p => exact wpAny_isTrue_BoolOp (allTrue_ok O Rm xs e S F K)
  case IfExp => exact noneE' e
  case Compare l ops rs p =>
    rcases orr_inv e with e | e
    · obtain ⟨op, h1, e⟩ := ob_inv e
      obtain ⟨r, h2, e⟩ := ob_inv e
      rw [oneOf_inv h1, oneOf_inv h2]
      exact tCmp_ok O Rm e S F K
    · obtain ⟨op, h1, e⟩ := ob_inv e
      obtain ⟨r, h2, e⟩ := ob_inv e
      rw [twoOf_inv h1, twoOf_inv h2]
      exact tCmp2_ok O Rm e S F K
  all_goals exact test_plain O Rm e rfl S F K

/-! statements -/
theorem KX.ext {Q : Flow → Shared → Prop} {fl : Fl} {h' : Heap} {tk : Nat} (K : KX prog w h₀ env sc g ρ s σ' fr' fl Q) (x : Ext (Own env sc) g ρ s.heap g' ρ' h') : KX prog w h₀ env sc g' ρ' { s with heap := h', toks := tk } σ' fr' fl Q :=
  fun g'' ρ'' h'' tk' f S' X' F' R' => K g'' ρ'' h'' tk' f S' (x.trans X') F' R'
theorem Ext.own {g₁ g₂ : Heap} {ρ₁ ρ₂ : List (Addr × Addr)} {h₁ h₂ : Heap} (x : Ext no g₁ ρ₁ h₁ g₂ ρ₂ h₂) : Ext ex g₁ ρ₁ h₁ g₂ ρ₂ h₂ := x.weaken fun _ h => h.elim

section
variable {fl : Fl} {Q : Flow → Shared → Prop} {p : Pos}
theorem OK.st (O : OK prog w h₀ n L) (Rm : Room A n) {x : Stmt} (e : L.x sc x fr σ = some ((fl, fr'), σ')) (S : SR prog w h₀ g ρ σ s.heap) (F : FR g ρ env sc fr s.heap)
    (K : KX prog w h₀ env sc g ρ s σ' fr' fl Q) : wpAny (model prog w) A (exec x env) Q E s := O.x _ _ _ _ _ _ _ e A env g ρ s Q E Rm S F K
theorem RF.nextI {f : Flow} (r : RF g ρ f .next) : f = .next := by cases r; rfl
theorem seqS_ok (O : OK prog w h₀ n L) (Rm : Room A n) (xs : List Stmt) {fl : Fl} {fr fr' : Vars} {σ σ' : Sto} {g : Heap} {ρ : List (Addr × Addr)} {s : Shared} {Q : Flow → Shared → Prop} (e : seqS (L.x sc) xs fr σ = some ((fl, fr'), σ')) (S : SR prog w h₀ g ρ σ s.heap)
    (F : FR g ρ env sc fr s.heap) (K : KX prog w h₀ env sc g ρ s σ' fr' fl Q) : wpAny (model prog w) A (execs xs env) Q E s := by
  induction xs generalizing fl fr fr' σ σ' g ρ s Q with
  | nil => exact wpAny_execs_nil (K.of e g ρ s.heap s.toks _ S (.refl ..) F .next)
  | cons x r ih =>
    cases seqS_inv e with
    | next fr₁ fr₂ σ₁ σ₂ fl e1 e2 =>
      refine wpAny_execs_cons (O.st Rm e1 S F fun g' ρ' h' tk f S' X' F' R' => ?_)
      rw [R'.nextI]
      exact ih e2 S' F' (K.ext X')
    | ret v fr₁ σ₁ e1 =>
      refine wpAny_execs_cons (O.st Rm e1 S F fun g' ρ' h' tk f S' X' F' R' => ?_)
      have K := K g' ρ' h' tk f S' X' F' R'
      cases R'
      exact K

theorem ret_ok (O : OK prog w h₀ n L) (Rm : Room A n) {v : Option Expr} (e : (ob v fun v => xRet L sc fr v σ) = some ((fl, fr'), σ')) (S : SR prog w h₀ g ρ σ s.heap) (F : FR g ρ env sc fr s.heap)
    (K : KX prog w h₀ env sc g ρ s σ' fr' fl Q) : wpAny (model prog w) A (exec (.Return v p) env) Q E s := by
  obtain ⟨x, h, e⟩ := ob_inv e
  obtain ⟨v1, σ₁, e1, e⟩ := bd_inv e
  rw [h]
  have K := K.of e
  exact wpAny_Return_some (O.ev Rm e1 S F fun g' ρ' h' tk u S' X' R' => K g' ρ' h' tk _ S' X'.own (F.extNo X') (.ret R'))

theorem expr_ok (O : OK prog w h₀ n L) (Rm : Room A n) {v : Expr} (e : xExpr L sc fr v σ = some ((fl, fr'), σ')) (S : SR prog w h₀ g ρ σ s.heap) (F : FR g ρ env sc fr s.heap)
    (K : KX prog w h₀ env sc g ρ s σ' fr' fl Q) : wpAny (model prog w) A (exec (.Expr v p) env) Q E s := by
  obtain ⟨hc, e⟩ := gd_inv e
  obtain ⟨u, σ₁, e1, e⟩ := bd_inv e
  obtain ⟨d, e2, e⟩ := ob_inv e
  obtain ⟨hd, e⟩ := gd_inv e
  have K := K.of e
  rw [vD_inv e2] at e1
  clear e e2
  have hi : interactive env = false := by unfold interactive; rw [F.kind]; rfl
  have hs : swapsWith v none p.line env = pure false := by cases v <;> first | rfl | exact nomatch hc
  refine wpAny_Expr (O.ev Rm e1 S F fun g' ρ' h' tk u S' X' R' => ?_) hi hs
  have k := K g' ρ' h' tk .next S' X'.own (F.extNo X') .next
  rcases Bool.or_eq_true_iff.mp hd with h | h
  · rw [dNone_inv h] at R'
    obtain ⟨_, R'⟩ := R'
    rw [none_inv R']
    exact k
  · obtain ⟨i, h⟩ := Option.isSome_iff_exists.mp h
    rw [dInt_inv h] at R'
    obtain ⟨t, rfl⟩ := R'.int
    exact k

theorem if_ok (O : OK prog w h₀ n L) (Rm : Room A n) {t : Expr} {b o : List Stmt} (e : xIf L sc fr t b o σ = some ((fl, fr'), σ')) (S : SR prog w h₀ g ρ σ s.heap) (F : FR g ρ env sc fr s.heap)
    (K : KX prog w h₀ env sc g ρ s σ' fr' fl Q) : wpAny (model prog w) A (exec (.If t b o p) env) Q E s := by
  obtain ⟨c, σ₁, e1, e⟩ := bd_inv e
  refine wpAny_If (O.tst Rm e1 S F fun g' ρ' h' tk S' X' => ?_)
  cases c with
  | true => exact seqS_ok O Rm _ e S' (F.extNo X') (K.ext X'.own)
  | false => exact seqS_ok O Rm _ e S' (F.extNo X') (K.ext X'.own)
end

/-! loops, what follows them unnamed -/
section
variable {R : Result → Shared → Prop} {body : List Stmt}
theorem while_any {test : Expr} (I : Nat → Shared → Prop)
    (turn : ∀ n s (B : Bool → Shared → Prop) (E' : Value → Shared → Prop), I n s → (∀ s₂, R (.ok .next) s₂ → B false s₂) →
      (∀ s₂, (∀ (F : Flow → Shared → Prop), (∀ m s₃, m < n → I m s₃ → F .next s₃) → (∀ u s₃, R (.ok (.ret u)) s₃ → F (.ret u) s₃) → wpAny (model prog w) A (execs body env) F E' s₂) → B true s₂) →
      wpAny (model prog w) A (isTrue test env (eval test env)) B E' s)
    (n : Nat) (h : I n s) : codeAny (model prog w) A (.whileLoop test body [] env) R s :=
  codeAny_whileLoop I (fun n s hI => turn n s _ _ hI (fun _ h => wpAny_execs_nil h) fun _ h => h _ (fun m _ h1 h2 => ⟨m, h1, h2⟩) fun _ _ h => h) n h
theorem for_any {target : Expr} {it : Value} (I : Nat → Shared → Prop)
    (turn : ∀ n s (B : Option Value → Shared → Prop) (E' : Value → Shared → Prop), I n s → (∀ s₁, R (.ok .next) s₁ → B none s₁) →
      (∀ v s₁, (∀ (F : Flow → Shared → Prop), (∀ m s₃, m < n → I m s₃ → F .next s₃) → (∀ u s₃, R (.ok (.ret u)) s₃ → F (.ret u) s₃) →
        wpAny (model prog w) A (letOwnedTupleGo target it v) (fun _ s₂ => wpAny (model prog w) A (assign target env v) (fun _ s₃ => wpAny (model prog w) A (execs body env) F E' s₃) E' s₂) E' s₁) → B (some v) s₁) →
      wpAny (model prog w) A (pyNext it) B E' s)
    (n : Nat) (h : I n s) : codeAny (model prog w) A (.forLoop target it body [] env) R s :=
  codeAny_forLoop_any I (fun n s hI => turn n s _ _ hI (fun _ h => wpAny_execs_nil h) fun _ _ h => h _ (fun m _ h1 h2 => ⟨m, h1, h2⟩) fun _ _ h => h) n h
end
/-- a loop's body: on to the next turn, or a return -/
theorem body_ok (O : OK prog w h₀ n L) (Rm : Room A n) {b : List Stmt} {k : Vars → Sto → Res (Fl × Vars)} {fl : Fl} {F : Flow → Shared → Prop} (e : RunI (seqS (L.x sc) b) k fr σ fl fr' σ') (S : SR prog w h₀ g ρ σ s.heap) (Fr : FR g ρ env sc fr s.heap)
    (hn : ∀ fr₁ σ₁, k fr₁ σ₁ = some ((fl, fr'), σ') → ∀ g' ρ' h' tk, SR prog w h₀ g' ρ' σ₁ h' → Ext (Own env sc) g ρ s.heap g' ρ' h' → FR g' ρ' env sc fr₁ h' → F .next { s with heap := h', toks := tk })
    (hr : ∀ v, fl = .ret v → ∀ g' ρ' h' tk u, SR prog w h₀ g' ρ' σ' h' → Ext (Own env sc) g ρ s.heap g' ρ' h' → FR g' ρ' env sc fr' h' → RV g' ρ' u v → F (.ret u) { s with heap := h', toks := tk }) : wpAny (model prog w) A (execs b env) F E s := by
  cases e with
  | next fr₁ fr₂ σ₁ σ₂ fl e1 e2 =>
    refine seqS_ok O Rm _ e1 S Fr fun g' ρ' h' tk f S' X' F' R' => ?_
    rw [R'.nextI]
    exact hn _ _ e2 g' ρ' h' tk S' X' F'
  | ret v fr₁ σ₁ e1 =>
    refine seqS_ok O Rm _ e1 S Fr fun g' ρ' h' tk f S' X' F' R' => ?_
    cases R' with
    | ret R' => exact hr v rfl g' ρ' h' tk _ S' X' F' R'
section
variable {fl : Fl} {Q : Flow → Shared → Prop} {p : Pos} {R : Result → Shared → Prop}
inductive WhileS (prog : Program) (w : World) (h₀ : Heap) (env : Env) (sc : Scope) (run : Nat → Vars → Sto → Prop) (g : Heap) (ρ : List (Addr × Addr)) (s : Shared) (m : Nat) : Shared → Prop
  | mk (fr1 : Vars) (σ1 : Sto) (g1 : Heap) (ρ1 : List (Addr × Addr)) (h1 : Heap) (tk1 : Nat) : run m fr1 σ1 → SR prog w h₀ g1 ρ1 σ1 h1 → FR g1 ρ1 env sc fr1 h1 → Ext (Own env sc) g ρ s.heap g1 ρ1 h1 → WhileS prog w h₀ env sc run g ρ s m { s with heap := h1, toks := tk1 }
theorem while_loop (O : OK prog w h₀ n L) (Rm : Room A n) {t : Expr} {b : List Stmt} {m : Nat} (e : whileGo (fun fr σ => L.t sc fr t σ) (seqS (L.x sc) b) m fr σ = some ((fl, fr'), σ')) (S : SR prog w h₀ g ρ σ s.heap) (F : FR g ρ env sc fr s.heap)
    (K : KX prog w h₀ env sc g ρ s σ' fr' fl fun f s => R (.ok f) s) : codeAny (model prog w) A (.whileLoop t b [] env) R s := by
  refine while_any (WhileS prog w h₀ env sc (fun m fr σ => whileGo (fun fr σ => L.t sc fr t σ) (seqS (L.x sc) b) m fr σ = some ((fl, fr'), σ')) g ρ s) (fun m s' B E' hI hend hturn => ?_) m (.mk fr σ g ρ s.heap s.toks e S F (.refl ..))
  clear e S F
  obtain ⟨fr1, σ1, g1, ρ1, h1, tk1, e, S1, F1, X1⟩ := hI
  cases m with
  | zero => exact noneE' e
  | succ m =>
    cases whileGo_inv e with
    | stop σ₁ e1 => exact O.tst Rm e1 S1 F1 fun g2 ρ2 h2 tk2 S2 X2 => hend _ (K g2 ρ2 h2 tk2 _ S2 (X1.trans X2.own) (F1.extNo X2) .next)
    | turn σ₁ fr' fl σ' e1 e2 =>
      refine O.tst Rm e1 S1 F1 fun g2 ρ2 h2 tk2 S2 X2 => hturn _ fun Fq hn hr => ?_
      exact body_ok O Rm e2 S2 (F1.extNo X2) (fun fr3 σ3 e3 g3 ρ3 h3 tk3 S3 X3 F3 => hn m _ (Nat.lt_succ_self _) (.mk fr3 σ3 g3 ρ3 h3 tk3 e3 S3 F3 (X1.trans (X2.own.trans X3))))
        fun v hv g3 ρ3 h3 tk3 u S3 X3 F3 R3 => hr _ _ (K g3 ρ3 h3 tk3 _ S3 (X1.trans (X2.own.trans X3)) F3 (hv ▸ .ret R3))
theorem while_ok (O : OK prog w h₀ n L) (Rm : Room A n) {t : Expr} {b o : List Stmt} (e : gd o.isEmpty (whileGo (fun fr σ => L.t sc fr t σ) (seqS (L.x sc) b) turnsMost fr σ) = some ((fl, fr'), σ')) (S : SR prog w h₀ g ρ σ s.heap) (F : FR g ρ env sc fr s.heap)
    (K : KX prog w h₀ env sc g ρ s σ' fr' fl Q) : wpAny (model prog w) A (exec (.While t b o p) env) Q E s := by
  obtain ⟨ho, e⟩ := gd_inv e
  rw [List.isEmpty_iff.mp ho]
  exact wpAny_While (while_loop O Rm e S F K)

theorem notSetIter {e : Expr} (h : (!isSetE e) = true) (x : Value) : foldedSetIterable e env x = pure x := by
  cases e <;> first | rfl | exact nomatch h
/-- an address just made is nobody's -/
inductive Lone (g : Heap) (ρ : List (Addr × Addr)) (env : Env) (sc : Scope) (h₁ : Heap) (a : Addr) : Prop
  | mk : h₁.get? a = none → g.get? a = none → ¬ InR ρ a → env.locals ≠ a → (∀ y c, env.cells.lookup y = some c → c ≠ a) → ¬ Own env sc a → Lone g ρ env sc h₁ a
theorem Lone.new (S : SR prog w h₀ g ρ σ s.heap) (F : FR g ρ env sc fr s.heap) {g₁ : Heap} {ρ₁ : List (Addr × Addr)} {h₁ : Heap} (X : Ext ex g₁ ρ₁ h₁ g ρ s.heap) {a : Addr} (fresh : s.heap.get? a = none) : Lone g ρ env sc h₁ a := by
  have hL : env.locals ≠ a := fun z => F.L.2.2 (z ▸ fresh)
  have hC : ∀ y c, env.cells.lookup y = some c → c ≠ a := fun y c hc z => (F.C y c hc).2.2.1 (z ▸ fresh)
  refine ⟨?_, ?_, fun q => (S.free _ q).2 fresh, hL, hC, ?_⟩
  · cases q : h₁.get? a with
    | none => rfl
    | some o => exact absurd fresh (X.dom _ (by rw [q]; exact Option.some_ne_none _))
  · cases q : g.get? a with
    | none => rfl
    | some o => rw [S.sub _ _ q] at fresh; cases fresh
  · rintro (z | ⟨y, _, z⟩)
    · exact hL z.symm
    · exact hC y _ z rfl
inductive ForS (prog : Program) (w : World) (h₀ : Heap) (env : Env) (sc : Scope) (run : Nat → Nat → Vars → Sto → Prop) (g : Heap) (ρ : List (Addr × Addr)) (s : Shared) (u : Value) (v : V) (it : Addr) (m : Nat) : Shared → Prop
  | mk (i : Nat) (fr2 : Vars) (σ2 : Sto) (g2 : Heap) (ρ2 : List (Addr × Addr)) (h2 : Heap) (tk2 : Nat) : run m i fr2 σ2 → SR prog w h₀ g2 ρ2 σ2 h2 → FR g2 ρ2 env sc fr2 h2 → Ext (Own env sc) g ρ s.heap g2 ρ2 h2 →
      RV g2 ρ2 u v → ItAt h2 it u v i → g2.get? it = none → ¬ InR ρ2 it → ForS prog w h₀ env sc run g ρ s u v it m { s with heap := h2, toks := tk2 }
theorem for_loop (O : OK prog w h₀ n L) (Rm : Room A n) {x : Str} {xp : Pos} {b : List Stmt} {u : Value} {v : V} {it : Addr} {m : Nat} (hx : canSet sc x = true) (Ln : s.heap.get? it = none ∧ env.locals ≠ it ∧ (∀ y c, env.cells.lookup y = some c → c ≠ it) ∧ ¬ Own env sc it)
    {s' : Shared} (I0 : ForS prog w h₀ env sc (fun m i fr σ => forGo v (forBind x) (seqS (L.x sc) b) m i fr σ = some ((fl, fr'), σ')) g ρ s u v it m s') (K : KX prog w h₀ env sc g ρ s σ' fr' fl fun f s => R (.ok f) s) :
    codeAny (model prog w) A (.forLoop (.Name x xp) (.ref it) b [] env) R s' := by
  refine for_any _ (fun m s' B E' hI hend hturn => ?_) m I0
  clear I0
  obtain ⟨i, fr2, σ2, g2, ρ2, h2, tk2, e, S2, F2, X2, R2, hit, gf, rf⟩ := hI
  obtain ⟨f0, hL, hC, hown⟩ := Ln
  cases m with
  | zero => exact noneE' e
  | succ m =>
    cases forGo_inv e with
    | stop q => exact next_ok (s := ⟨h2, s.gens, s.drawn, tk2, s.os⟩) Rm.handled q S2 R2 hit (fun _ h3 hb => hend _ (K g2 ρ2 h3 tk2 _ (S2.off hb rf gf) (X2.off hb f0) (F2.off hb hL hC) .next)) (fun _ z => nomatch z)
    | turn y fr1 fr' fl σ' q hb e2 =>
      cases hb
      refine next_ok (s := ⟨h2, s.gens, s.drawn, tk2, s.os⟩) Rm.handled q S2 R2 hit (fun z => nomatch z) (fun _ z h3 tk3 uu Ru hit3 hb => ?_)
      cases z
      clear hit q
      refine hturn _ _ fun Fq hn hr => wpAny_pure (wpAny_assign_Name (bind_ok (s := ⟨h3, s.gens, s.drawn, tk3, s.os⟩) (S2.off hb rf gf) (F2.off hb hL hC) hx Ru fun h4 tk4 S4 X4 F4 k4 => ?_))
      have hit4 := hit3.keep fun o e => k4 _ _ hown e
      have R2 := R2.ext X4
      have X4 := (X2.off hb f0).trans X4
      clear hb hit3 k4 X2 S2 F2
      exact body_ok O Rm e2 S4 F4 (fun fr5 σ5 e5 g5 ρ5 h5 tk5 S5 X5 F5 => hn m _ (Nat.lt_succ_self _) (.mk (i + 1) fr5 σ5 g5 ρ5 h5 tk5 e5 S5 F5 (X4.trans X5) (R2.ext X5) (hit4.keep fun o e => X5.keep _ _ rf hown e) (X5.gn _ hit4.some gf) (X5.fresh hit4.some rf)))
        fun v hv g5 ρ5 h5 tk5 u S5 X5 F5 R5 => hr _ _ (K g5 ρ5 h5 tk5 _ S5 (X4.trans X5) F5 (hv ▸ .ret R5))
theorem for_ok (O : OK prog w h₀ n L) (Rm : Room A n) {x : Str} {xp : Pos} {it : Expr} {b : List Stmt} (e : xForN L sc fr x it b σ = some ((fl, fr'), σ')) (S : SR prog w h₀ g ρ σ s.heap) (F : FR g ρ env sc fr s.heap)
    (K : KX prog w h₀ env sc g ρ s σ' fr' fl Q) : wpAny (model prog w) A (exec (.For (.Name x xp) it b [] p) env) Q E s := by
  obtain ⟨hc, e⟩ := gd_inv e
  have hc := Bool.and_eq_true_iff.mp hc
  obtain ⟨v, σ₁, e1, e⟩ := bd_inv e
  refine wpAny_For (O.ev Rm e1 S F fun g1 ρ1 h1 tk1 u S1 X1 R1 => ?_) (notSetIter hc.2)
  obtain ⟨r, hw⟩ : ∃ r, itemAt σ₁ v 0 = some r := by
    cases forGo_inv (m := 99) e with
    | stop q => exact ⟨_, q⟩
    | turn _ _ _ _ _ q => exact ⟨_, q⟩
  refine iter_ok (s := ⟨h1, s.gens, s.drawn, tk1, s.os⟩) hw S1 R1 fun o ho hit => ?_
  have F1 := F.extNo X1
  obtain ⟨f0, gf, rf, hL, hC, hown⟩ := Lone.new (s := ⟨h1, s.gens, s.drawn, tk1, s.os⟩) S1 F1 X1 (size_none h1)
  obtain ⟨S2, X2⟩ := S1.grow (h' := h1.push o) fun _ _ e => Heap.get?_push_of_some _ e
  exact for_loop (s := s) (g := g) (ρ := ρ) (m := turnsMost) O Rm hc.1 ⟨f0, hL, hC, hown⟩ (.mk 0 fr σ₁ g1 ρ1 _ tk1 e S2 (F1.extNo X2) (X1.trans X2).own R1 hit gf rf) K
end
end
end Mine
namespace Mine
open PySem PySem.Calls PyProof.Rows PySem.W

section
variable {prog : Program} {w : World} {A : Around} {E : Value → Shared → Prop} {s : Shared} {h₀ g g' : Heap} {ρ ρ' : List (Addr × Addr)} {σ σ' : Sto} {T : Tab} {n : Nat} {L : Lv} {sc : Scope} {fr fr' : Vars} {env : Env} {ex : Addr → Prop}

theorem SR.offP {h h' : Heap} {P : Addr → Prop} (S : SR prog w h₀ g ρ σ h) (k : ∀ b o, ¬ P b → h.get? b = some o → h'.get? b = some o) (ra : ∀ a, P a → ¬ InR ρ a) (ga : ∀ a, P a → g.get? a = none) : SR prog w h₀ g ρ σ h' := by
  have gne : ∀ b o, g.get? b = some o → ¬ P b := fun b o e q => by rw [ga b q] at e; cases e
  have rne : ∀ (i : Nat) (p : Addr × Addr), ρ[i]? = some p → ¬ P p.1 ∧ ¬ P p.2 := fun i p e => ⟨fun q => ra _ q ⟨p, List.mem_of_getElem? e, .inl rfl⟩, fun q => ra _ q ⟨p, List.mem_of_getElem? e, .inr rfl⟩⟩
  refine ⟨S.base, fun b o e => k _ _ (gne _ _ e) (S.sub _ _ e), S.len, fun n o p e1 e2 => (S.sto n o p e1 e2).keep (fun _ _ q => q) (fun o q => k _ o (rne n p e2).1 q) (fun o q => k _ o (rne n p e2).2 q), fun b q => ⟨(S.free b q).1, ?_⟩, S.apart, S.nd⟩
  have hb : ¬ P b := fun z => ra b z q
  cases e : h.get? b with
  | none => exact absurd e (S.free b q).2
  | some o => rw [k _ _ hb e]; exact Option.some_ne_none _
theorem Ext.offP {g₁ g₂ : Heap} {ρ₁ ρ₂ : List (Addr × Addr)} {h₁ h₂ h' : Heap} {P : Addr → Prop} (X : Ext ex g₁ ρ₁ h₁ g₂ ρ₂ h₂) (k : ∀ b o, ¬ P b → h₂.get? b = some o → h'.get? b = some o) (f : ∀ a, P a → h₁.get? a = none) : Ext ex g₁ ρ₁ h₁ g₂ ρ₂ h' := by
  have ne : ∀ b, h₁.get? b ≠ none → ¬ P b := fun b q z => q (f b z)
  refine ⟨X.gs, X.gn, X.rs, fun b o q1 q2 q3 => k _ _ (ne b (by rw [q3]; exact Option.some_ne_none _)) (X.keep _ _ q1 q2 q3), fun b q => ?_⟩
  cases e : h₂.get? b with
  | none => exact absurd e (X.dom _ q)
  | some o => rw [k _ _ (ne b q) e]; exact Option.some_ne_none _
theorem FR.offP {h h' : Heap} {P : Addr → Prop} (F : FR g ρ env sc fr h) (k : ∀ b o, ¬ P b → h.get? b = some o → h'.get? b = some o) (hL : ¬ P env.locals) (hC : ∀ x c, env.cells.lookup x = some c → ¬ P c) : FR g ρ env sc fr h' := by
  have nn : ∀ b, ¬ P b → h.get? b ≠ none → h'.get? b ≠ none := fun b hb q => by
    cases e : h.get? b with
    | none => exact absurd e q
    | some o => rw [k _ _ hb e]; exact Option.some_ne_none _
  refine ⟨F.kind, F.globals, F.builtins, F.ok, F.glob, F.loc, fun y hy => ?_, F.fre, ?_, fun y v h1 h2 => ?_, ⟨F.L.1, F.L.2.1, nn _ hL F.L.2.2⟩, fun y c hc => ?_, F.inj⟩
  · obtain ⟨h1, c, ov, h2, h3⟩ := F.cel y hy
    exact ⟨h1, c, ov, h2, cell_at h3 fun o => k _ o (hC y c h2)⟩
  · obtain ⟨m, h1, h2⟩ := F.vars
    exact ⟨m, ns_at h1 fun o => k _ o hL, h2⟩
  · obtain ⟨c, u, a', b, d⟩ := F.cvars y v h1 h2
    exact ⟨c, u, a', cell_at b fun o => k _ o (hC y c a'), d⟩
  · have := F.C y c hc
    exact ⟨this.1, this.2.1, nn _ (hC y c hc) this.2.2.1, this.2.2.2⟩

theorem FR.congr {h : Heap} (F : FR g ρ env sc fr h) (e : ∀ x, fr'.lookup x = fr.lookup x) : FR g ρ env sc fr' h :=
  ⟨F.kind, F.globals, F.builtins, F.ok, F.glob, F.loc, F.cel, F.fre, let ⟨m, h1, h2⟩ := F.vars; ⟨m, h1, fun x v q => h2 x v ((e x).symm.trans q)⟩, fun x v q => F.cvars x v ((e x).symm.trans q), F.L, F.C, F.inj⟩

theorem within_inst {h : Heap} {p : Addr × Addr} {C : Addr} {mA : Str → Option Value} {kvs : List (Str × V)} (h3 : ∀ n, (match kvs.lookup n with | some v => ∃ u, mA n = some u ∧ RV g ρ u v | none => mA n = none)) : Within mA (kvs.map (·.1)) := fun y hy => by
  have := h3 y
  cases q : kvs.lookup y with
  | none => rw [q] at this; exact absurd this hy
  | some v => exact List.mem_map.mpr ⟨_, mem_of_lookup q, rfl⟩

theorem lookup_mapD {x y : Str} {v : V} (l : List (Str × V)) (h : l.any (fun p => p.1 == x) = true ∨ y ≠ x) : (l.map fun p => if p.1 == x then (p.1, v) else p).lookup y = if y = x then some v else l.lookup y := by
  induction l with
  | nil => rcases h with h | h
           · exact nomatch h
           · rw [if_neg h]; rfl
  | cons a r ih =>
    obtain ⟨z, u⟩ := a
    rw [List.map_cons, List.lookup_cons]
    by_cases hz : z = x
    · rw [if_pos (beq_iff_eq.mpr hz), List.lookup_cons]
      by_cases hy : y = x
      · rw [if_pos hy, beq_iff_eq.mpr (hy.trans hz.symm)]
      · rw [if_neg hy, beq_eq_false_iff_ne.mpr (hz ▸ hy), ih (.inr hy), if_neg hy]
    · rw [if_neg (fun q => hz (beq_iff_eq.mp q)), List.lookup_cons, ih (h.imp_left fun q => by rwa [List.any_cons, beq_eq_false_iff_ne.mpr hz, Bool.false_or] at q)]
      by_cases hy : y = x
      · rw [if_pos hy, if_pos hy, beq_eq_false_iff_ne.mpr (hy ▸ Ne.symm hz)]
      · rw [if_neg hy, if_neg hy]
theorem lookup_putD {kvs : List (Str × V)} {x y : Str} {v : V} : (putD kvs x v).lookup y = if y = x then some v else kvs.lookup y := by
  unfold putD
  by_cases h : kvs.any (fun p => p.1 == x) = true
  · rw [if_pos h]; exact lookup_mapD kvs (.inl h)
  · rw [if_neg h]
    by_cases hy : y = x
    · have hn : kvs.lookup x = none := by
        cases q : kvs.lookup x with
        | none => rfl
        | some z => exact absurd (List.any_eq_true.mpr ⟨_, mem_of_lookup q, beq_self_eq_true x⟩) h
      rw [if_pos hy, hy, List.lookup_append, hn, List.lookup_cons_self]
      rfl
    · rw [if_neg hy, List.lookup_append, List.lookup_cons, beq_eq_false_iff_ne.mpr hy]
      exact Option.or_none

theorem cls_there {h : Heap} {C N : Addr} {mN : Str → Option Value} (X : ClsAt h C N mN) : ∃ o, h.get? C = some o := by
  obtain ⟨nm, q', bs, sn, sub, col, dd, k0, k1, k2, k3, k5, hC⟩ := X.obj
  exact ⟨_, hC⟩
section
variable {u ov : Value} {v : V} {i : Nat}
/-- o.name = u -/
theorem setAttr_ok (B : Base prog w h₀ T) {name : Str} {c : Addr} {kvs : List (Str × V)} {Q : Unit → Shared → Prop} (ha : T.attr c name = true) (hz : kvs.length < 1000) (q : σ[i]? = some (.inst c kvs)) (S : SR prog w h₀ g ρ σ s.heap) (R1 : RV g ρ u v) (R2 : RV g ρ ov (.st i))
    (K : ∀ h' tk, SR prog w h₀ g ρ (σ.set i (.inst c (putD kvs name v))) h' → Ext no g ρ s.heap g ρ h' → Q () { s with heap := h', toks := tk }) : wpAny (model prog w) A (setAttr ov name u) Q E s := by
  obtain ⟨pp, mA, h1, h2, h3⟩ := S.atI q R2
  obtain ⟨N, mN, X, -, -, hsa, -, hat, -⟩ := B.cls c (.inr (.inl ⟨_, ha⟩))
  have hxC : pp.1 ≠ c := fun z => by
    obtain ⟨o, ho⟩ := cls_there X
    have a := (S.free pp.1 ⟨pp, List.mem_of_getElem? h1, .inl rfl⟩).1
    rw [z, S.base _ _ ho] at a
    cases a
  have X1 := X.keeps S.old
  obtain ⟨nm, q', bs, sn, sub, col, dd, k0, k1, k2, k3, k5, hC⟩ := X1.obj
  refine store_attr (ns := kvs.map (·.1)) PySem.F.store_object hC X1.ns hsa (hat _ ha) (B.lkA _ _ ha) hxC h2.inst (fun h'' tk' I'' hk hsame => ?_) (within_inst (g := g) (ρ := ρ) (h := s.heap) (p := pp) (C := c) h3) (by rw [List.length_map]; exact Nat.le_trans (Nat.le_of_lt hz) (Nat.le_trans (by decide) line_big))
  clear hC X1 X hsa hat k0 k1 k2 k3 k5 hxC q R2
  obtain ⟨ox, hx1, hx2, hx3, hx4, hx5, hx6⟩ := h2
  obtain ⟨o1, ho1, hoc, hod, hos, hodx⟩ := hsame _ hx1
  have hd1 := hodx _ hx4
  obtain ⟨o2, ho2, hc2, hn2, hdis⟩ := I''
  cases Option.some.inj (ho1.symm.trans ho2)
  obtain ⟨hne, hns⟩ : pp.2 ≠ pp.1 ∧ h''.Ns1 pp.2 fun y => if y = name then some u else mA y := by
    rcases hdis with ⟨z, _⟩ | ⟨d', z1, z2, z3⟩
    · exact noneE' (z.symm.trans hd1)
    · cases Option.some.inj (hd1.symm.trans z1); exact ⟨z2, z3⟩
  have n1 : h''.get? pp.1 ≠ none := by rw [ho1]; exact Option.some_ne_none _
  have n2 : h''.get? pp.2 ≠ none := by obtain ⟨o', es, ep, h5, _⟩ := hns; rw [h5]; exact Option.some_ne_none _
  obtain ⟨S2, X2⟩ := S.set (n := i) (p := pp) (o := .inst c (putD kvs name v)) (h' := h'') h1
    (fun a o z1 z2 z3 => hk a o z1 (fun o₀ dx w1 w2 => by cases Option.some.inj (hx1.symm.trans w1); cases Option.some.inj (hx4.symm.trans w2); exact z2) z3) n1 n2
    ⟨_, ⟨o1, ho1, hc2, hn2, hd1, hne, hns⟩, fun m => by
      rw [lookup_putD]
      by_cases hm : m = name
      · rw [if_pos hm]; exact ⟨u, if_pos hm, R1⟩
      · rw [if_neg hm]
        have := h3 m
        revert this
        rw [if_neg hm]
        exact id⟩
  exact K _ _ S2 X2
end
section
variable {fl : Fl} {Q : Flow → Shared → Prop} {p ap : Pos}
theorem asgAttr_ok (B : Base prog w h₀ T) (O : OK prog w h₀ n L) (Rm : Room A n) {o v : Expr} {name : Str} (e : xAsgA T L sc fr o name v σ = some ((fl, fr'), σ')) (S : SR prog w h₀ g ρ σ s.heap) (F : FR g ρ env sc fr s.heap)
    (K : KX prog w h₀ env sc g ρ s σ' fr' fl Q) : wpAny (model prog w) A (exec (.Assign [.Attribute o name ap] v p) env) Q E s := by
  obtain ⟨v1, σ₁, e1, e⟩ := bd_inv e
  obtain ⟨z, σ₂, e2, e⟩ := bd_inv e
  obtain ⟨i, e3, e⟩ := ob_inv e
  obtain ⟨⟨c, kvs⟩, e4, e⟩ := ob_inv e
  obtain ⟨hc, e⟩ := gd_inv e
  have K := K.of e
  rw [vSt_inv e3] at e2
  clear e e3
  have hc := Bool.and_eq_true_iff.mp hc
  refine plainObj_wpAny_Assign_Attribute (two_ok O Rm (X := fun u ov => setAttr ov name u) e1 e2 S F fun g' ρ' h' tk u ov S' X' R1 R2 => ?_) (by cases v <;> rfl)
  exact setAttr_ok (s := ⟨h', s.gens, s.drawn, tk, s.os⟩) B hc.1 (Nat.le_of_ble_eq_true hc.2) (instAt_inv e4) S' R1 R2 fun h'' tk' S2 X2 => K _ _ _ _ _ S2 (X'.trans X2).own (F.extNo (X'.trans X2)) .next

theorem asgSub_ok (O : OK prog w h₀ n L) (Rm : Room A n) {o i v : Expr} (e : xAsgS L sc fr o i v σ = some ((fl, fr'), σ')) (S : SR prog w h₀ g ρ σ s.heap) (F : FR g ρ env sc fr s.heap)
    (K : KX prog w h₀ env sc g ρ s σ' fr' fl Q) : wpAny (model prog w) A (exec (.Assign [.Subscript o i ap] v p) env) Q E s := by
  obtain ⟨v1, σ₁, e1, e⟩ := bd_inv e
  obtain ⟨z, σ₂, e2, e⟩ := bd_inv e
  obtain ⟨j, ez, e⟩ := ob_inv e
  obtain ⟨y, σ₃, e3, e⟩ := bd_inv e
  obtain ⟨k, ey, e⟩ := ob_inv e
  obtain ⟨kvs, e4, e⟩ := ob_inv e
  obtain ⟨hz, e⟩ := gd_inv e
  have K := K.of e
  rw [vSt_inv ez] at e2
  rw [strOfV_inv ey] at e3
  clear e ez ey
  have hz := Nat.le_of_ble_eq_true hz
  refine wpAny_Assign_Subscript (O.ev Rm e1 S F fun g1 ρ1 h1 tk1 u S1 X1 R1 => ?_) (by cases v <;> rfl)
  refine two_ok O Rm (X := fun ov iv => setItem ov iv u) e2 e3 S1 (F.extNo X1) fun g2 ρ2 h2 tk2 ov iv S2 X2 R2 R3 => ?_
  clear e1 e2 e3 S1 S
  obtain ⟨t, rfl⟩ := R3.str
  obtain ⟨pp, kvs', z1, z2, z3, z4, z5⟩ := S2.atD (s := ⟨h2, s.gens, s.drawn, tk2, s.os⟩) (dictAt_inv e4) R2
  have lb := line_big
  have hl := z5.length
  refine wpAny_setItem_pairs (knd := PySem.strKind prog w) (k := k) (by simp [PySem.strKind, Value.isStrOf]) z4 (fun h3 hd hs => ?_) (by lia)
  have n1 : h3.get? pp.1 ≠ none := by obtain ⟨o', es, ep, h5, _⟩ := hd; rw [h5]; exact Option.some_ne_none _
  obtain ⟨S3, X3⟩ := S2.set (n := j) (p := pp) (o := .dict (putD kvs k v1)) (h' := h3) z1 (fun a o w1 _ w3 => (hs.2 a w1).trans w3) n1 (by rw [z2]; exact n1) ⟨z2, z3, _, hd, stored_putD (R1.ext X2) z5⟩
  exact K _ _ _ _ _ S3 (X1.trans (X2.trans X3)).own (F.extNo (X1.trans (X2.trans X3))) .next
end

/-! names in a row -/
noncomputable def putAll (fr : Vars) (l : List (Str × V)) : Vars := l.foldl (fun f p => putV f p.1 p.2) fr
theorem lookup_out {r : List (Str × V)} {y : Str} (h : y ∉ r.map (·.1)) : r.lookup y = none := by
  cases q : r.lookup y with
  | none => rfl
  | some z => exact absurd (List.mem_map.mpr ⟨_, mem_of_lookup q, rfl⟩) h
theorem lookup_putAll {l : List (Str × V)} {fr : Vars} {y : Str} (h : (l.map (·.1)).Nodup) : (putAll fr l).lookup y = (l.lookup y).or (fr.lookup y) := by
  induction l generalizing fr with
  | nil => rfl
  | cons a r ih =>
    obtain ⟨x, v⟩ := a
    rw [List.map_cons, List.nodup_cons] at h
    show (putAll (putV fr x v) r).lookup y = _
    rw [ih h.2, List.lookup_cons]
    by_cases hy : y = x
    · subst hy
      rw [lookup_out h.1, lookup_putV, beq_self_eq_true]; rfl
    · rw [beq_eq_false_iff_ne.mpr hy, lookup_putV_ne hy]
theorem lookup_reverse {l : List (Str × V)} (h : (l.map (·.1)).Nodup) (y : Str) : l.reverse.lookup y = l.lookup y := by
  induction l with
  | nil => rfl
  | cons a r ih =>
    obtain ⟨x, v⟩ := a
    rw [List.map_cons, List.nodup_cons] at h
    rw [List.reverse_cons, List.lookup_append, ih h.2, List.lookup_cons, List.lookup_cons, List.lookup_nil]
    by_cases hy : y = x
    · subst hy
      rw [lookup_out h.1, beq_self_eq_true]; rfl
    · rw [beq_eq_false_iff_ne.mpr hy]; exact Option.or_none

/-- names get values -/
inductive BindI (sc : Scope) (fr : Vars) (vs : List V) : List Expr → Vars → Prop
  | mk (nps : List (Str × Pos)) : nps.length = vs.length → (∀ p ∈ nps, canSet sc p.1 = true) → BindI sc fr vs (nps.map fun p => Expr.Name p.1 p.2) (putAll fr ((nps.map (·.1)).zip vs))
theorem bindAll_inv {ts : List Expr} {vs : List V} {fr fr' : Vars} (e : bindAll sc ts vs fr = some fr') : BindI sc fr vs ts fr' := by
  induction ts generalizing vs fr with
  | nil => cases vs with
    | nil => cases e; exact .mk [] rfl fun _ h => nomatch h
    | cons v vs => exact noneE' e
  | cons t ts ih =>
    have e : (ob (nameE t) fun x => gd (canSet sc x) (List.casesOn (motive := fun _ => Option Vars) vs none fun v vs => bindAll sc ts vs (putV fr x v))) = some fr' := e
    obtain ⟨x, e1, e3⟩ := ob_inv e
    obtain ⟨hx, e2⟩ := gd_inv e3
    clear e e3
    obtain ⟨p, rfl⟩ := nameE_inv e1
    cases vs with
    | nil => exact noneE' e2
    | cons v vs => cases ih e2 with
      | mk nps h1 h2 => exact .mk ((x, p) :: nps) (congrArg (· + 1) h1) fun q hq => (List.mem_cons.mp hq).elim (fun z => z ▸ hx) (h2 q)

theorem namesApart_nodup {nps : List (Str × Pos)} {l : List Str} (h : namesApart (nps.map fun p => Expr.Name p.1 p.2) l = true) : (nps.map (·.1)).Nodup ∧ ∀ x ∈ nps.map (·.1), x ∉ l := by
  induction nps generalizing l with
  | nil => exact ⟨List.nodup_nil, fun _ h => nomatch h⟩
  | cons a r ih =>
    have h : (!l.contains a.1 && namesApart (r.map fun p => Expr.Name p.1 p.2) (a.1 :: l)) = true := h
    obtain ⟨h1, h2⟩ := Bool.and_eq_true_iff.mp h
    obtain ⟨h3, h4⟩ := ih h2
    refine ⟨by rw [List.map_cons, List.nodup_cons]; exact ⟨fun q => h4 a.1 q (.head _), h3⟩, fun y hy => ?_⟩
    rcases List.mem_cons.mp hy with rfl | hy
    · simpa using h1
    · exact fun q => h4 y hy (.tail _ q)

noncomputable def Stores (M : Model) (A : Around) (E : Value → Shared → Prop) (env : Env) (f : Value → Sem Unit) (x : Str) : Prop := ∀ (u : Value) (Q : Unit → Shared → Prop) (s : Shared), wpAny M A (storeName env x u) Q E s → wpAny M A (f u) Q E s

theorem stores_ok {fs : List (Value → Sem Unit)} {l : List (Str × V)} {us : List Value} {fr : Vars} {s : Shared} {Q : Unit → Shared → Prop} (a : All2 (Stores (model prog w) A E env) fs (l.map (·.1))) (hc : ∀ p ∈ l, canSet sc p.1 = true) (r : All2 (RV g ρ) us (l.map (·.2)))
    (S : SR prog w h₀ g ρ σ s.heap) (F : FR g ρ env sc fr s.heap) (K : ∀ h' tk, SR prog w h₀ g ρ σ h' → Ext (Own env sc) g ρ s.heap g ρ h' → FR g ρ env sc (putAll fr l) h' → Q () { s with heap := h', toks := tk }) : wpAny (model prog w) A (assignInOrder fs us) Q E s := by
  induction l generalizing fs us fr s Q with
  | nil =>
    cases a.nil_inv
    cases r.nil_inv
    exact wpAny_pure (K s.heap s.toks S (.refl ..) F)
  | cons q l ih =>
    obtain ⟨f1, fs, rfl, a1, a2⟩ := a.cons_inv
    obtain ⟨u1, us, rfl, r1, r2⟩ := r.cons_inv
    refine wpAny_bind (wpAny_holding (a1 _ _ _ (bind_ok S F (hc q (.head _)) r1 fun h1 tk1 S1 X1 F1 _ => ?_)))
    exact ih a2 (fun p hp => hc p (.tail _ hp)) r2 S1 F1 fun h2 tk2 S2 X2 F2 => K h2 tk2 S2 (X1.trans X2) F2

theorem stores_assign {nps : List (Str × Pos)} : All2 (Stores (model prog w) A E env) ((assignEach (nps.map fun p => Expr.Name p.1 p.2) env).map (·.2)) (nps.map (·.1)) := by
  induction nps with
  | nil => exact .nil
  | cons a r ih => exact .cons (fun u Q s h => wpAny_assign_Name h) ih
theorem stores_bind {l : List Str} : All2 (Stores (model prog w) A E env) (l.map fun n => bindName env n) l := by
  induction l with
  | nil => exact .nil
  | cons a r ih => exact .cons (fun u Q s h => wpAny_bindName h) ih
theorem assign_noStar {nps : List (Str × Pos)} : (assignEach (nps.map fun p => Expr.Name p.1 p.2) env).length = nps.length ∧ (assignEach (nps.map fun p => Expr.Name p.1 p.2) env).findIdx? (·.1) = none := by
  induction nps with
  | nil => exact ⟨rfl, rfl⟩
  | cons a r ih =>
    have e : assignEach ((a :: r).map fun p => Expr.Name p.1 p.2) env = (false, assign (.Name a.1 a.2) env) :: assignEach (r.map fun p => Expr.Name p.1 p.2) env := rfl
    rw [e]
    exact ⟨by rw [List.length_cons, List.length_cons, ih.1], by rw [List.findIdx?_cons, ih.2]; rfl⟩
theorem All2.reverse {α β : Type} {R : α → β → Prop} {l : List α} {m : List β} (h : All2 R l m) : All2 R l.reverse m.reverse := by
  induction h with
  | nil => exact .nil
  | cons a _ ih => rw [List.reverse_cons, List.reverse_cons]; exact ih.append (.cons a .nil)

theorem zip_fst {α β : Type} {l : List α} {m : List β} (h : l.length = m.length) : (l.zip m).map (·.1) = l := List.map_fst_zip (Nat.le_of_eq h)
theorem zip_snd {α β : Type} {l : List α} {m : List β} (h : l.length = m.length) : (l.zip m).map (·.2) = m := List.map_snd_zip (Nat.le_of_eq h.symm)
theorem zip_sets {nps : List (Str × Pos)} {ws : List V} (h3 : ∀ p ∈ nps, canSet sc p.1 = true) {q : Str × V} (hq : q ∈ (nps.map (·.1)).zip ws) : canSet sc q.1 = true := by
  obtain ⟨np, hnp, e⟩ := List.mem_map.mp (List.of_mem_zip hq).1
  rw [← e]
  exact h3 np hnp

noncomputable def SwP (nps : List (Str × Pos)) (vs : List Expr) (X : Sem (Option (List Str))) : Prop := X = pure none ∨ (X = pure (some (nps.map (·.1))) ∧ vs.length = nps.length)
theorem sw_ite {P : Sem (Option (List Str)) → Prop} {c : Bool} {X : Sem (Option (List Str))} (h1 : P (pure none)) (h2 : c = false → P X) : P (if c = true then pure none else X) := by
  cases c with
  | true => exact h1
  | false => exact h2 rfl
theorem fm_names {f : Expr → Option Str} (hf : ∀ x p, f (.Name x p) = some x ∨ f (.Name x p) = none) (nps : List (Str × Pos)) : ((nps.map fun p => Expr.Name p.1 p.2).filterMap f).length < nps.length ∨ (nps.map fun p => Expr.Name p.1 p.2).filterMap f = nps.map (·.1) := by
  induction nps with
  | nil => exact .inr rfl
  | cons a r ih =>
    rw [List.map_cons, List.filterMap_cons]
    rcases hf a.1 a.2 with h | h
    · rw [h]
      exact ih.imp (fun q => Nat.succ_lt_succ q) fun q => congrArg (a.1 :: ·) q
    · rw [h]
      refine .inl (Nat.lt_succ_of_le ?_)
      have := List.length_filterMap_le f (r.map fun p => Expr.Name p.1 p.2)
      rwa [List.length_map] at this
theorem sw_end {f : Expr → Option Str} {nps : List (Str × Pos)} {vs : List Expr} {d : Bool} {k : Nat} (hf : ∀ x p, f (.Name x p) = some x ∨ f (.Name x p) = none) (hk : k = nps.length) (hv : vs.length = nps.length)
    (h : (((nps.map fun p => Expr.Name p.1 p.2).filterMap f).length != k || d) = false) : SwP nps vs (pure (some ((nps.map fun p => Expr.Name p.1 p.2).filterMap f))) := by
  have h := (Bool.or_eq_false_iff.mp h).1
  rcases fm_names hf nps with q | q
  · rw [bne_eq_false_iff_eq.mp h, hk] at q; exact absurd q (Nat.lt_irrefl _)
  · exact .inr ⟨by rw [q], hv⟩
theorem swapped_cases {nps : List (Str × Pos)} {k k' : Nat} {p p' : Pos} {vs : List Expr} (hn : vs.all (constantsAlone 8) = false) : SwP nps vs (swappedStores [.Tuple (nps.map fun p => Expr.Name p.1 p.2) k p] (.Tuple vs k' p') env) := by
  unfold swappedStores
  dsimp only
  refine sw_ite (.inl rfl) fun h1 => ?_
  refine sw_ite (.inl rfl) fun _ => ?_
  refine sw_ite (.inl rfl) fun h2 => ?_
  refine sw_ite (.inl rfl) fun _ => ?_
  rw [if_neg (by rw [hn]; exact Bool.false_ne_true)]
  have h1 := (Bool.or_eq_false_iff.mp (Bool.or_eq_false_iff.mp h1).1).2
  have h1 := bne_eq_false_iff_eq.mp h1
  rw [List.length_map] at h1
  refine sw_end (fun x p => ?_) (List.length_map _) h1 h2
  dsimp only
  by_cases hc : (env.kindOf x == some .local && p.line == ((List.map (fun p => Expr.Name p.fst p.snd) nps).head?.map fun x => x.pos.line).getD 0) = true
  · exact .inl (if_pos hc)
  · exact .inr (if_neg hc)

theorem lk_names {nps : List (Str × Pos)} {vs : List V} (hl : nps.length = vs.length) (hnd : (nps.map (·.1)).Nodup) : ((((nps.map (·.1)).zip vs)).map (·.1)).Nodup := by
  rw [zip_fst (by rw [List.length_map]; exact hl)]; exact hnd

theorem stores_tuple {ts : List Expr} {k : Nat} {tp : Pos} : (assignEach [.Tuple ts k tp] env).map (·.2) = [assign (.Tuple ts k tp) env] := rfl
theorem assignStores_one {v : Value} {f : Value → Sem Unit} : assignStores env v none [f] = (f v >>= fun _ => pure Flow.next) := rfl
theorem assignStores_names {v : Value} {names : List Str} {fs : List (Value → Sem Unit)} : assignStores env v (some names) fs = (do
  rule "assign.swapped-stores"
  let items ← unpackItems v names.length none
  assignInOrder (names.reverse.map fun n => bindName env n) items.reverse
  pure .next) := rfl

theorem nodup_rev {α : Type} {l : List α} (h : l.Nodup) : l.reverse.Nodup := (List.Perm.nodup_iff (List.reverse_perm l)).mpr h

theorem draw_ok {v : V} {xs : List PyData} {src : Value} {it : Addr} (hh : A.handled = none) (hx : ∀ i, itemAt σ v i = some (xs[i]?.map .d)) (ri : ¬ InR ρ it) (gi : g.get? it = none) (ru : RV g ρ src v) (m i : Nat) (s : Shared) (Q : List Value → Shared → Prop) (hle : i + m ≤ xs.length) (S : SR prog w h₀ g ρ σ s.heap) (I : ItAt s.heap it src v i)
    (K : ∀ h' tk us, ItAt h' it src v (i + m) → Heap.ExtBut it s.heap h' → All2 (RV g ρ) us (((xs.drop i).take m).map .d) → Q us { s with heap := h', toks := tk }) : wpAny (model prog w) A (draw (.ref it) m) Q E s := by
  induction m generalizing i s Q with
  | zero =>
    show wpAny _ _ (pure []) Q E s
    exact wpAny_pure (K s.heap s.toks [] I (fun _ _ _ e => e) (by rw [List.take_zero]; exact .nil))
  | succ m ih =>
    show wpAny _ _ (pyNext (.ref it) >>= _) Q E s
    have hlt : i < xs.length := by lia
    refine wpAny_bind (next_ok hh (hx i) S ru I (fun z => ?_) fun y z h1 tk1 u Ru I1 hb1 => ?_)
    · rw [List.getElem?_eq_getElem hlt] at z; cases z
    · rw [List.getElem?_eq_getElem hlt] at z
      cases z
      refine wpAny_bind (wpAny_holding (ih (i + 1) _ _ (by lia) (S.off hb1 ri gi) I1 fun h2 tk2 us I2 hb2 R2 => wpAny_pure ?_))
      refine K h2 tk2 (u :: us) (by rw [show i + (m + 1) = i + 1 + m by lia]; exact I2) (fun b o hb e => hb2 b o hb (hb1 b o hb e)) ?_
      rw [List.drop_eq_getElem_cons hlt, List.take_succ_cons, List.map_cons]
      exact .cons Ru R2

theorem unpack_ok {d : PyData} {xs : List PyData} {u : Value} {Q : List Value → Shared → Prop} (hh : A.handled = none) (hd : d = .list xs ∨ d = .tuple xs) (S : SR prog w h₀ g ρ σ s.heap) (ru : RV g ρ u (.d d))
    (K : ∀ h' tk us, (∀ a o, s.heap.get? a = some o → h'.get? a = some o) → All2 (RV g ρ) us (xs.map .d) → Q us { s with heap := h', toks := tk }) : wpAny (model prog w) A (unpackItems u xs.length none) Q E s := by
  have hx : ∀ i, itemAt σ (.d d) i = some (xs[i]?.map .d) := fun i => by rcases hd with rfl | rfl <;> rfl
  have hs : ∀ {Q : Bool → Shared → Prop}, Q false s → wpAny (model prog w) A (notIterableAtAll u) Q E s := fun h => by
    unfold notIterableAtAll
    rcases hd with rfl | rfl
    · obtain ⟨l, vs, m, dd, sl, as, ho, rr, hz⟩ := seqD_list S ru
      exact wpAny_bind (wpAny_specialOf (T := "list") ⟨_, ho, rfl⟩ F.slot_list_iter.lookup (wpAny_pure h))
    · obtain ⟨l, vs, m, dd, sl, as, ho, rr, hz⟩ := seqD_tuple S ru
      exact wpAny_bind (wpAny_specialOf (T := "tuple") ⟨_, ho, rfl⟩ F.slot_tuple_iter.lookup (wpAny_pure h))
  unfold unpackItems
  refine wpAny_bind (hs ?_)
  rw [if_neg Bool.false_ne_true]
  refine wpAny_bind (wpAny_holding (iter_ok (hx 0) S ru fun o ho hit => ?_))
  clear hs
  have fresh : s.heap.get? s.heap.objs.size = none := size_none _
  have gfresh : g.get? s.heap.objs.size = none := by
    cases q : g.get? s.heap.objs.size with
    | none => rfl
    | some o => rw [S.sub _ _ q] at fresh; cases fresh
  have rfresh : ¬ InR ρ s.heap.objs.size := fun q => (S.free _ q).2 fresh
  obtain ⟨S1, X1⟩ := S.grow (h' := s.heap.push o) fun _ _ e => Heap.get?_push_of_some _ e
  refine wpAny_bind (wpAny_holding (draw_ok hh hx rfresh gfresh ru xs.length 0 _ _ (by lia) S1 hit fun h2 tk2 us I2 hb2 R2 => ?_))
  rw [List.drop_zero, List.take_of_length_le (Nat.le_refl _)] at R2
  have hlen := R2.length
  rw [List.length_map] at hlen
  rw [if_neg (by lia)]
  refine wpAny_bind (wpAny_holding (next_ok (s := ⟨h2, s.gens, s.drawn, tk2, s.os⟩) hh (hx _) (S1.off hb2 rfresh gfresh) ru I2 (fun _ h3 hb3 => ?_) fun y z => ?_))
  · refine wpAny_pure (K h3 tk2 us (fun a o e => ?_) R2)
    have hne : a ≠ s.heap.objs.size := fun z => noneE' (fresh.symm.trans (z ▸ e))
    exact hb3 a o hne (hb2 a o hne (Heap.get?_push_of_some _ e))
  · rw [List.getElem?_eq_none (by lia)] at z
    exact noneE' z

section
variable {fl : Fl} {Q : Flow → Shared → Prop} {p tp : Pos} {k : Nat}
theorem new_keeps {h h' : Heap} (hb : Heap.ExtBut h.objs.size h h') : ∀ a o, h.get? a = some o → h'.get? a = some o := fun a o e => hb a o (Nat.ne_of_lt (Heap.lt_size e)) e
/-- the opening of an assignment to a tuple of names -/
theorem asg_open {ts : List Expr} {v : Expr} (h : wpAny (model prog w) A (eval v env >>= fun v' => swappedStores [.Tuple ts k tp] v env >>= fun sw => assignStores env v' sw [assign (.Tuple ts k tp) env]) Q E s) : wpAny (model prog w) A (exec (.Assign [.Tuple ts k tp] v p) env) Q E s := by
  rw [arm_exec_Assign]
  refine wpAny_bind (wpAny_standAt ?_)
  have hsw : swapsWithSole [.Tuple ts k tp] v p.line env = pure false := by cases v <;> rfl
  rw [hsw]
  refine wpAny_bind (wpAny_pure ?_)
  rw [if_neg Bool.false_ne_true, stores_tuple]
  exact h
theorem asgVs_ok (O : OK prog w h₀ n L) (Rm : Room A n) {nps : List (Str × Pos)} {vs : List Expr} {ws : List V} {σ₁ : Sto} {k' : Nat} {p' : Pos} (hca : (!(vs.all (constantsAlone 8) || !Nat.blt vs.length 1000)) = true) (e1 : seqE (L.e sc fr) vs σ = some (ws, σ₁)) (h2 : nps.length = ws.length) (h3 : ∀ p ∈ nps, canSet sc p.1 = true) (hnd : (nps.map (·.1)).Nodup)
    (S : SR prog w h₀ g ρ σ s.heap) (F : FR g ρ env sc fr s.heap) (K : KX prog w h₀ env sc g ρ s σ₁ (putAll fr ((nps.map (·.1)).zip ws)) .next Q) : wpAny (model prog w) A (exec (.Assign [.Tuple (nps.map fun p => Expr.Name p.1 p.2) k tp] (.Tuple vs k' p') p) env) Q E s := by
  have hca := Bool.or_eq_false_iff.mp (Bool.not_eq_true' .. ▸ hca)
  have hlt : vs.length < 1000 := by have := hca.2; simpa using this
  have hz : (nps.map (·.1)).length = ws.length := by rw [List.length_map]; exact h2
  have hsl := seqE_len _ e1
  refine asg_open (wpAny_bind (wpAny_Tuple (seqE_ok O Rm _ e1 S F fun g1 ρ1 h1 tk1 us S1 X1 R1 => ⟨by have := R1.length; have := line_big; lia, ?_⟩)))
  have hul := R1.length
  clear e1 S
  obtain ⟨S2, X2⟩ := S1.grow (h' := h1.push { cls := .type "tuple", data := .seq us.toArray }) fun _ _ e => Heap.get?_push_of_some _ e
  have X1 := X1.trans X2
  have F2 := F.extNo X1
  have ht : (h1.push { cls := .type "tuple", data := .seq us.toArray }).IsTuple h1.objs.size us.toArray := ⟨_, Heap.get?_push_size _ rfl, rfl, _, rfl⟩
  clear S1 F X2
  rcases swapped_cases (env := env) (nps := nps) (k := k) (k' := k') (p := tp) (p' := p') hca.1 with hsc | ⟨hsc, hlen⟩
  · rw [hsc]
    refine wpAny_bind (wpAny_pure ?_)
    rw [assignStores_one]
    refine wpAny_bind ?_
    refine wpAny_assign_Tuple (s := ⟨h1.push { cls := .type "tuple", data := .seq us.toArray }, s.gens, s.drawn, tk1, s.os⟩) Rm.handled ht (by rw [assign_noStar.1, List.size_toArray]; lia) assign_noStar.2 fun h3' hb => ?_
    obtain ⟨S3, X3⟩ := S2.grow (new_keeps hb)
    exact stores_ok (s := ⟨h3', s.gens, s.drawn, tk1, s.os⟩) (l := (nps.map (·.1)).zip ws) (by rw [zip_fst hz]; exact stores_assign) (fun q hq => zip_sets h3 hq) (by rw [zip_snd hz]; exact R1) S3 (F2.extNo X3) fun h4 tk4 S4 X4 F4 => wpAny_pure (K _ _ _ _ _ S4 ((X1.trans X3).own.trans X4) F4 .next)
  · rw [hsc]
    refine wpAny_bind (wpAny_pure ?_)
    rw [assignStores_names]
    refine wpAny_bind (wpAny_rule (wpAny_bind ?_))
    have e1 : (nps.map (·.1)).length = us.toArray.size := by rw [List.length_map, List.size_toArray]; lia
    rw [e1]
    refine wpAny_unpackItems_tuple (s := ⟨h1.push { cls := .type "tuple", data := .seq us.toArray }, s.gens, s.drawn, tk1, s.os⟩) Rm.handled ht fun h3' hb => ?_
    obtain ⟨S3, X3⟩ := S2.grow (new_keeps hb)
    refine wpAny_bind ?_
    have a1 : ((((nps.map (·.1)).zip ws).reverse).map (·.1)) = (nps.map (·.1)).reverse := by rw [List.map_reverse, zip_fst hz]
    have a2 : ((((nps.map (·.1)).zip ws).reverse).map (·.2)) = ws.reverse := by rw [List.map_reverse, zip_snd hz]
    refine stores_ok (s := ⟨h3', s.gens, s.drawn, tk1, s.os⟩) (l := ((nps.map (·.1)).zip ws).reverse) (by rw [a1]; exact stores_bind) (fun q hq => zip_sets h3 (List.mem_reverse.mp hq)) (by rw [a2]; exact R1.reverse) S3 (F2.extNo X3) fun h4 tk4 S4 X4 F4 => wpAny_pure (K _ _ _ _ _ S4 ((X1.trans X3).own.trans X4) (F4.congr fun y => ?_) .next)
    rw [lookup_putAll (lk_names h2 hnd), lookup_putAll (by rw [a1]; exact nodup_rev hnd), lookup_reverse (lk_names h2 hnd)]
theorem asgU_ok (O : OK prog w h₀ n L) (Rm : Room A n) {nps : List (Str × Pos)} {v : Expr} {d : PyData} {xs : List PyData} {σ₁ : Sto} (hv : isTupE v = false) (e1 : L.e sc fr v σ = some (.d d, σ₁)) (hd : d = .list xs ∨ d = .tuple xs) (h2 : nps.length = (xs.map V.d).length) (h3 : ∀ p ∈ nps, canSet sc p.1 = true)
    (S : SR prog w h₀ g ρ σ s.heap) (F : FR g ρ env sc fr s.heap) (K : KX prog w h₀ env sc g ρ s σ₁ (putAll fr ((nps.map (·.1)).zip (xs.map .d))) .next Q) : wpAny (model prog w) A (exec (.Assign [.Tuple (nps.map fun p => Expr.Name p.1 p.2) k tp] v p) env) Q E s := by
  have hss : swappedStores [.Tuple (nps.map fun p => Expr.Name p.1 p.2) k tp] v env = pure none := by
    cases v <;> first | rfl | exact nomatch hv
  have hz : (nps.map (·.1)).length = (xs.map V.d).length := by rw [List.length_map]; exact h2
  have hlen : nps.length = xs.length := by rw [h2, List.length_map]
  refine asg_open (wpAny_bind (O.ev Rm e1 S F fun g1 ρ1 h1 tk1 u S1 X1 R1 => ?_))
  rw [hss]
  refine wpAny_bind (wpAny_pure ?_)
  rw [assignStores_one]
  refine wpAny_bind ?_
  rw [arm_assign_Tuple]
  refine wpAny_bind (wpAny_standAt ?_)
  unfold unpack
  rw [assign_noStar.1, assign_noStar.2, hlen]
  refine wpAny_bind (wpAny_holding (unpack_ok (s := ⟨h1, s.gens, s.drawn, tk1, s.os⟩) Rm.handled hd S1 R1 fun h2' tk2 us kk R2 => ?_))
  obtain ⟨S3, X3⟩ := S1.grow kk
  exact stores_ok (s := ⟨h2', s.gens, s.drawn, tk2, s.os⟩) (l := (nps.map (·.1)).zip (xs.map .d)) (by rw [zip_fst hz]; exact stores_assign) (fun q hq => zip_sets h3 hq) (by rw [zip_snd hz]; exact R2) S3 (F.extNo (X1.trans X3)) fun h4 tk4 S4 X4 F4 => wpAny_pure (K _ _ _ _ _ S4 ((X1.trans X3).own.trans X4) F4 .next)
theorem asgT_ok (O : OK prog w h₀ n L) (Rm : Room A n) {ts : List Expr} {v : Expr} (e : asgT (L.e sc fr) sc ts v fr σ = some ((fl, fr'), σ')) (S : SR prog w h₀ g ρ σ s.heap) (F : FR g ρ env sc fr s.heap)
    (K : KX prog w h₀ env sc g ρ s σ' fr' fl Q) : wpAny (model prog w) A (exec (.Assign [.Tuple ts k tp] v p) env) Q E s := by
  obtain ⟨hap, e⟩ := gd_inv e
  cases q : isTupE v with
  | true =>
    rw [q] at e
    obtain ⟨vs, e1, e⟩ := ob_inv e
    obtain ⟨k', p', hv⟩ := tupE_inv e1
    obtain ⟨hca, e⟩ := gd_inv e
    obtain ⟨ws, σ₁, e2, e⟩ := bd_inv e
    obtain ⟨fr1, e3, e⟩ := ob_inv e
    have K := K.of e
    rw [hv]
    cases bindAll_inv e3 with
    | mk nps h2 h3 => exact asgVs_ok O Rm hca e2 h2 h3 (namesApart_nodup hap).1 S F K
  | false =>
    rw [q] at e
    have e : asgU (L.e sc fr) sc ts v fr σ = some ((fl, fr'), σ') := e
    obtain ⟨u, σ₁, e1, e⟩ := bd_inv e
    obtain ⟨d, e2, e⟩ := ob_inv e
    obtain ⟨xs, e3, e⟩ := ob_inv e
    obtain ⟨fr1, e4, e⟩ := ob_inv e
    have K := K.of e
    rw [vD_inv e2] at e1
    cases bindAll_inv e4 with
    | mk nps h2 h3 => exact asgU_ok O Rm q e1 ((orr_inv e3).symm.imp dList_inv dTup_inv) h2 h3 S F K
end
end
end Mine
namespace Mine
open PySem PySem.Calls PyProof.Rows PySem.W

section
variable {prog : Program} {w : World} {A : Around} {E : Value → Shared → Prop} {s : Shared} {h₀ g g' : Heap} {ρ ρ' : List (Addr × Addr)} {σ σ' : Sto} {T : Tab} {n : Nat} {L : Lv} {sc : Scope} {fr fr' : Vars} {env : Env} {ex : Addr → Prop}

theorem pairUp_get (us vs : List PyData) (i : Nat) : (pairUp us vs)[i]? = ob us[i]? fun a => ob vs[i]? fun b => some (.tuple [a, b]) := by
  induction us generalizing vs i with
  | nil => rfl
  | cons u us ih =>
    cases vs with
    | nil =>
      show ([] : List PyData)[i]? = _
      cases (u :: us)[i]? <;> rfl
    | cons v vs =>
      show (PyData.tuple [u, v] :: pairUp us vs)[i]? = _
      cases i with
      | zero => rfl
      | succ i => exact ih vs i

theorem cases5 {N a : Nat} (h1 : N ≤ a) (h2 : a < N + 5) : a = N ∨ a = N + 1 ∨ a = N + 2 ∨ a = N + 3 ∨ a = N + 4 := by lia

/-- zip's own five things: two iterators, two pairs, the zip -/
noncomputable def Five (N a : Addr) : Prop := N ≤ a ∧ a < N + 5
theorem five {N k : Nat} (h : k < 5) : Five N (N + k) := ⟨Nat.le_add_right _ _, Nat.add_lt_add_left h N⟩
inductive ZipS (h : Heap) (N l1 l2 : Addr) (i : Nat) : Prop
  | mk (a b : Value) : IsZip h (N + 4) (N + 2) (N + 3) .none → IsPair h (N + 2) (.ref N) (.ref (N + 1)) → IsPair h (N + 3) a b → h.IsListIter N l1 i → h.IsListIter (N + 1) l2 i → ZipS h N l1 l2 i
theorem ZipS.keep {h h' : Heap} {N l1 l2 : Addr} {i : Nat} (z : ZipS h N l1 l2 i) (k : ∀ a o, Five N a → h.get? a = some o → h'.get? a = some o) : ZipS h' N l1 l2 i := by
  obtain ⟨a, b, z1, z2, z3, ⟨o4, z4, y4⟩, ⟨o5, z5, y5⟩⟩ := z
  exact ⟨a, b, k _ _ (five (by decide)) z1, k _ _ (five (by decide)) z2, k _ _ (five (by decide)) z3, ⟨o4, k _ _ (five (k := 0) (by decide)) z4, y4⟩, ⟨o5, k _ _ (five (by decide)) z5, y5⟩⟩
theorem ZipS.there {h : Heap} {N l1 l2 : Addr} {i : Nat} (z : ZipS h N l1 l2 i) {a : Addr} (ha : Five N a) : h.get? a ≠ none := by
  obtain ⟨x, y, z1, z2, z3, ⟨o4, z4, y4⟩, ⟨o5, z5, y5⟩⟩ := z
  have : ∃ o, h.get? a = some o := by
    rcases cases5 ha.1 ha.2 with rfl | rfl | rfl | rfl | rfl
    · exact ⟨_, z4⟩
    · exact ⟨_, z5⟩
    · exact ⟨_, z2⟩
    · exact ⟨_, z3⟩
    · exact ⟨_, z1⟩
  obtain ⟨o, e⟩ := this
  rw [e]
  exact Option.some_ne_none _
/-- one turn's drawing -/
theorem zip_next {N l1 l2 : Addr} {us vs : List PyData} {i : Nat} {Q : Option Value → Shared → Prop} (hh : A.handled = none) (D : ZipApart (N + 4) (N + 2) (N + 3) N (N + 1) l1 l2) (Z : ZipS s.heap N l1 l2 i) (S : SR prog w h₀ g ρ σ s.heap) (r1 : RV g ρ (.ref l1) (.d (.list us))) (r2 : RV g ρ (.ref l2) (.d (.list vs)))
    (K0 : (pairUp us vs)[i]? = none → ∀ h', (∀ b o, ¬ Five N b → s.heap.get? b = some o → h'.get? b = some o) → Q none { s with heap := h' })
    (K1 : ∀ a b va vb h' (t : Addr), (pairUp us vs)[i]? = some (.tuple [a, b]) → RV g ρ va (.d a) → RV g ρ vb (.d b) → (∀ b o, ¬ Five N b → s.heap.get? b = some o → h'.get? b = some o) → IsZip h' (N + 4) (N + 2) (N + 3) (rawInt t) → IsPair h' t va vb → t ≠ N + 4 →
      (∀ h'', IsZip h'' (N + 4) (N + 2) (N + 3) .none → Heap.SameBut (N + 4) h' h'' → ZipS h'' N l1 l2 (i + 1)) → Q (some (.ref t)) { s with heap := h' }) : wpAny (model prog w) A (pyNext (.ref (N + 4))) Q E s := by
  obtain ⟨a0, b0, z1, z2, z3, z4, z5⟩ := Z
  have q1 := seqD_list S r1
  have q2 := seqD_list S r2
  generalize hv1 : Value.ref l1 = x1 at q1
  generalize hv2 : Value.ref l2 = x2 at q2
  obtain ⟨_, w1, m1, dd1, sl1, as1, o1, rr1, hz1⟩ := q1
  obtain ⟨_, w2, m2, dd2, sl2, as2, o2, rr2, hz2⟩ := q2
  cases hv1
  cases hv2
  have kk : ∀ h5 : Heap, (∀ c o, c ≠ N + 4 → c ≠ N + 3 → c ≠ N → c ≠ N + 1 → s.heap.get? c = some o → h5.get? c = some o) → ∀ b o, ¬ Five N b → s.heap.get? b = some o → h5.get? b = some o := fun h5 hk b o hb e =>
    hk b o (fun z => hb (z ▸ five (by decide))) (fun z => hb (z ▸ five (by decide))) (fun z => hb (z ▸ five (k := 0) (by decide))) (fun z => hb (z ▸ five (by decide))) e
  have hpg := pairUp_get us vs i
  cases hu : us[i]? with
  | none =>
    rw [hu] at hpg
    have : w1[i]? = none := by rw [List.getElem?_eq_none_iff] at hu; rw [Array.getElem?_eq_none_iff]; lia
    exact wpAny_pyNext_zip_end hh D z1 z2 z3 z4 z5 ⟨_, o1, rfl, _, rfl⟩ ⟨_, o2, rfl, _, rfl⟩ (.inl this) fun h5 hk => K0 hpg h5 (kk h5 hk)
  | some a1 =>
    cases hv : vs[i]? with
    | none =>
      rw [hu, hv] at hpg
      have : w2[i]? = none := by rw [List.getElem?_eq_none_iff] at hv; rw [Array.getElem?_eq_none_iff]; lia
      exact wpAny_pyNext_zip_end hh D z1 z2 z3 z4 z5 ⟨_, o1, rfl, _, rfl⟩ ⟨_, o2, rfl, _, rfl⟩ (.inr this) fun h5 hk => K0 hpg h5 (kk h5 hk)
    | some b1 =>
      rw [hu, hv] at hpg
      obtain ⟨va, ba, ha1, ha2⟩ := readsAll_get rr1 hu
      obtain ⟨vb, bb, hb1, hb2⟩ := readsAll_get rr2 hv
      refine wpAny_pyNext_zip_item D z1 z2 z3 z4 z5 ⟨_, o1, rfl, _, rfl⟩ ⟨_, o2, rfl, _, rfl⟩ (x := va) (y := vb) (by simpa using ha1) (by simpa using hb1) fun h5 y1 y3 y4 y5 pr _ hk => ?_
      refine K1 a1 b1 va vb h5 _ hpg ⟨_, ha2⟩ ⟨_, hb2⟩ (kk h5 hk) y1 pr (Nat.ne_of_gt (Heap.lt_size (h := s.heap) z1)) fun h6 zz hs => ?_
      obtain ⟨o4, p4, q4⟩ := y4
      obtain ⟨o5, p5, q5⟩ := y5
      exact ⟨va, vb, zz, (hs.2 _ D.TIz).trans (hk _ _ D.TIz D.TITO D.TIi1 D.TIi2 z2), (hs.2 _ D.TOz).trans y3, ⟨o4, (hs.2 _ D.i1z).trans p4, q4⟩, ⟨o5, (hs.2 _ D.i2z).trans p5, q5⟩⟩

inductive ZipI (prog : Program) (w : World) (h₀ : Heap) (env : Env) (sc : Scope) (run : Nat → Nat → Vars → Sto → Prop) (g : Heap) (ρ : List (Addr × Addr)) (s : Shared) (us vs : List PyData) (N l1 l2 : Addr) (m : Nat) : Shared → Prop
  | mk (i : Nat) (fr4 : Vars) (σ4 : Sto) (g4 : Heap) (ρ4 : List (Addr × Addr)) (h4 : Heap) (tk4 : Nat) : run m i fr4 σ4 → SR prog w h₀ g4 ρ4 σ4 h4 → FR g4 ρ4 env sc fr4 h4 → Ext (Own env sc) g ρ s.heap g4 ρ4 h4 →
      RV g4 ρ4 (.ref l1) (.d (.list us)) → RV g4 ρ4 (.ref l2) (.d (.list vs)) → (∀ a, Five N a → g4.get? a = none ∧ ¬ InR ρ4 a) → ZipS h4 N l1 l2 i → ZipI prog w h₀ env sc run g ρ s us vs N l1 l2 m { s with heap := h4, toks := tk4 }
theorem zipBind_inv {x y : Str} {a b : PyData} (e : zipBind x y (.d (.tuple [a, b])) fr = some fr') : fr' = putV (putV fr x (.d a)) y (.d b) := (Option.some.inj e).symm
section
variable {fl : Fl} {R : Result → Shared → Prop} {x y : Str} {xp yp tp : Pos} {k : Nat} {b : List Stmt} {us vs : List PyData} {N l1 l2 : Addr}
/-- one turn: the names get their values, the body runs -/
theorem zip_turn (O : OK prog w h₀ n L) (Rm : Room A n) (hx : canSet sc x = true) (hy : canSet sc y = true) {a1 b1 : PyData} {va vb : Value} {t : Addr} {kont : Vars → Sto → Res (Fl × Vars)} {Fq : Flow → Shared → Prop} (e2 : RunI (seqS (L.x sc) b) kont (putV (putV fr x (.d a1)) y (.d b1)) σ fl fr' σ')
    (S : SR prog w h₀ g ρ σ s.heap) (F : FR g ρ env sc fr s.heap) (ra : RV g ρ va (.d a1)) (rb : RV g ρ vb (.d b1)) (pr : IsPair s.heap t va vb)
    (hn : ∀ fr₁ σ₁, kont fr₁ σ₁ = some ((fl, fr'), σ') → ∀ g' ρ' h' tk, SR prog w h₀ g' ρ' σ₁ h' → Ext (Own env sc) g ρ s.heap g' ρ' h' → FR g' ρ' env sc fr₁ h' → Fq .next { s with heap := h', toks := tk })
    (hr : ∀ v, fl = .ret v → ∀ g' ρ' h' tk u, SR prog w h₀ g' ρ' σ' h' → Ext (Own env sc) g ρ s.heap g' ρ' h' → FR g' ρ' env sc fr' h' → RV g' ρ' u v → Fq (.ret u) { s with heap := h', toks := tk }) :
    wpAny (model prog w) A (assign (.Tuple [.Name x xp, .Name y yp] k tp) env (.ref t)) (fun _ s₃ => wpAny (model prog w) A (execs b env) Fq E s₃) E s := by
  have nps : ([.Name x xp, .Name y yp] : List Expr) = [(x, xp), (y, yp)].map (fun p => Expr.Name p.1 p.2) := rfl
  rw [nps]
  refine wpAny_assign_Tuple (items := #[va, vb]) Rm.handled ⟨_, pr, rfl, _, rfl⟩ (by rw [assign_noStar.1]; rfl) assign_noStar.2 fun h7 hb7 => ?_
  obtain ⟨S7, X7⟩ := S.grow (new_keeps hb7)
  refine stores_ok (s := ⟨h7, s.gens, s.drawn, s.toks, s.os⟩) (l := [(x, .d a1), (y, .d b1)]) stores_assign (fun q hq => ?_) (.cons ra (.cons rb .nil)) S7 (F.extNo X7) fun h8 tk8 S8 X8 F8 => ?_
  · rcases List.mem_cons.mp hq with rfl | hq
    · exact hx
    · rw [List.mem_singleton.mp hq]; exact hy
  · have X8 := X7.own.trans X8
    exact body_ok O Rm e2 S8 F8 (fun fr9 σ9 e9 g9 ρ9 h9 tk9 S9 X9 F9 => hn fr9 σ9 e9 g9 ρ9 h9 tk9 S9 (X8.trans X9) F9) fun v hv g9 ρ9 h9 tk9 u S9 X9 F9 R9 => hr v hv g9 ρ9 h9 tk9 u S9 (X8.trans X9) F9 R9
theorem zip_loop (O : OK prog w h₀ n L) (Rm : Room A n) (hx : canSet sc x = true) (hy : canSet sc y = true) (D : ZipApart (N + 4) (N + 2) (N + 3) N (N + 1) l1 l2) (f0 : ∀ a, Five N a → s.heap.get? a = none) (hL : ¬ Five N env.locals) (hC : ∀ y c, env.cells.lookup y = some c → ¬ Five N c) {m : Nat}
    {s' : Shared} (I0 : ZipI prog w h₀ env sc (fun m i fr σ => forGo (.d (.list (pairUp us vs))) (zipBind x y) (seqS (L.x sc) b) m i fr σ = some ((fl, fr'), σ')) g ρ s us vs N l1 l2 m s') (K : KX prog w h₀ env sc g ρ s σ' fr' fl fun f s => R (.ok f) s) :
    codeAny (model prog w) A (.forLoop (.Tuple [.Name x xp, .Name y yp] k tp) (.ref (N + 4)) b [] env) R s' := by
  have hown : ∀ a, Five N a → ¬ Own env sc a := by
    rintro a ha (z | ⟨y, _, z⟩)
    · exact hL (z ▸ ha)
    · exact hC y _ z ha
  refine for_any _ (fun m s' B E' hI hend hturn => ?_) m I0
  clear I0
  obtain ⟨i, fr4, σ4, g4, ρ4, h4, tk4, e, S4, F4, X4, q1, q2, hP, Z⟩ := hI
  cases m with
  | zero => exact noneE' e
  | succ m =>
    have gP := fun a ha => (hP a ha).1
    have rP := fun a ha => (hP a ha).2
    refine zip_next (s := ⟨h4, s.gens, s.drawn, tk4, s.os⟩) Rm.handled D Z S4 q1 q2 (fun hp h5 k5 => hend _ ?_) fun a1 b1 va vb h5 t hp ra rb k5 zz pr ht hZ => hturn _ _ fun Fq hn hr => ?_
    · have S5 := S4.offP k5 rP gP
      have X5 := X4.offP k5 f0
      have F5 := F4.offP k5 hL hC
      cases forGo_inv e with
      | stop q => exact K g4 ρ4 h5 tk4 _ S5 X5 F5 .next
      | turn y fr1 fr' fl σ' q => exact noneE' ((congrArg (Option.map V.d) hp).symm.trans (Option.some.inj q))
    · clear Z
      refine wpAny_letOwnedTupleGo_zip (s := ⟨h5, s.gens, s.drawn, tk4, s.os⟩) zz fun h6 zz6 hs6 => ?_
      have Z6 := hZ h6 zz6 hs6
      have pr6 : IsPair h6 t va vb := (hs6.2 _ ht).trans pr
      have k6 : ∀ b o, ¬ Five N b → h5.get? b = some o → h6.get? b = some o := fun b o hb e => (hs6.2 b fun z => hb (z ▸ five (by decide))).trans e
      have S6 := (S4.offP k5 rP gP).offP k6 rP gP
      have F6 := (F4.offP k5 hL hC).offP k6 hL hC
      have X6 := (X4.offP k5 f0).offP k6 f0
      clear k5 k6 hs6 zz zz6 pr hZ S4 F4 X4
      cases forGo_inv e with
      | stop q => exact noneE' ((Option.some.inj q).symm.trans (congrArg (Option.map V.d) hp))
      | turn y fr1 fr' fl σ' q hb e2 =>
        cases (Option.some.inj q).symm.trans (congrArg (Option.map V.d) hp)
        cases zipBind_inv hb
        refine zip_turn (s := ⟨h6, s.gens, s.drawn, tk4, s.os⟩) O Rm hx hy e2 S6 F6 ra rb pr6 (fun fr9 σ9 e9 g9 ρ9 h9 tk9 S9 X9 F9 => hn m _ (Nat.lt_succ_self _) (.mk (i + 1) fr9 σ9 g9 ρ9 h9 tk9 e9 S9 F9 (X6.trans X9) (q1.ext X9) (q2.ext X9) (fun a ha => ⟨X9.gn _ (Z6.there ha) (gP a ha), X9.fresh (Z6.there ha) (rP a ha)⟩) (Z6.keep fun a o ha e => X9.keep a o (rP a ha) (hown a ha) e)))
          fun v hv g9 ρ9 h9 tk9 u S9 X9 F9 R9 => hr _ _ (K g9 ρ9 h9 tk9 _ S9 (X6.trans X9) F9 (hv ▸ .ret R9))
end
theorem forZ_ok (O : OK prog w h₀ n L) (Rm : Room A n) {x y f : Str} {k : Nat} {xp yp tp fp cp p : Pos} {ep eq : Expr} {b : List Stmt} {fl : Fl} {Q : Flow → Shared → Prop}
    (e : forZ L sc x y (.Name f fp) ep eq b fr σ = some ((fl, fr'), σ')) (S : SR prog w h₀ g ρ σ s.heap) (F : FR g ρ env sc fr s.heap)
    (K : KX prog w h₀ env sc g ρ s σ' fr' fl Q) : wpAny (model prog w) A (exec (.For (.Tuple [.Name x xp, .Name y yp] k tp) (.Call (.Name f fp) [ep, eq] [] cp) b [] p) env) Q E s := by
  obtain ⟨hc, e⟩ := gd_inv e
  obtain ⟨z, σ₁, e1, e⟩ := bd_inv e
  obtain ⟨z1, ez, e⟩ := ob_inv e
  obtain ⟨T, eT, e⟩ := ob_inv e
  obtain ⟨hT, e⟩ := gd_inv e
  obtain ⟨u, σ₂, e2, e⟩ := bd_inv e
  obtain ⟨us, eu, e⟩ := ob_inv e
  obtain ⟨v, σ₃, e3, e⟩ := bd_inv e
  obtain ⟨vs, ev, e⟩ := ob_inv e
  rw [vVal_inv ez, tyOf_inv eT, of_decide_eq_true hT] at e1
  rw [listOf_inv eu] at e2
  rw [listOf_inv ev] at e3
  clear ez eT hT eu ev
  have hc := Bool.and_eq_true_iff.mp hc
  have hc := Bool.and_eq_true_iff.mp hc.1
  have hq := hc.2
  have hc := Bool.and_eq_true_iff.mp hc.1
  have hp := hc.2
  have hc := Bool.and_eq_true_iff.mp hc.1
  have es : seqE (L.e sc fr) [ep, eq] σ₁ = some ([.d (.list us), .d (.list vs)], σ₃) := gd_mk hp (bd_mk e2 (bd_mk (f := fun vs σ => some (_ :: vs, σ)) (gd_mk hq (bd_mk e3 rfl)) rfl))
  clear e2 e3 hp hq
  obtain ⟨p1, p2⟩ := seqE_plain (env := env) (pos := cp) _ es
  refine wpAny_For ?_ (fun _ => rfl)
  refine wpAny_Call_Name_kw (O.ev Rm e1 S F fun g1 ρ1 h1 tk1 u S1 X1 R1 => ?_)
  cases R1
  show wpAny (model prog w) A (callWith cp (.type "zip") [] (backTo cp (starEach [ep, eq] env)) []) _ E _
  refine PyProof.Rows.callWith_type p1 (evalArgs_ok p2 (seqE_ok O Rm _ es S1 (F.extNo X1) fun g2 ρ2 h2 tk2 ws S2 X2 R2 => ?_))
  have X2 := X1.trans X2
  clear e1 es p1 p2 S1 X1
  obtain ⟨u1, u2, rfl, r1, r2⟩ := R2.two
  have q1 := seqD_list (s := ⟨h2, s.gens, s.drawn, tk2, s.os⟩) S2 r1
  have q2 := seqD_list (s := ⟨h2, s.gens, s.drawn, tk2, s.os⟩) S2 r2
  obtain ⟨l1, ws1, m1, dd1, sl1, as1, ho1, rr1, hz1⟩ := q1
  obtain ⟨l2, ws2, m2, dd2, sl2, as2, ho2, rr2, hz2⟩ := q2
  have F2 := F.extNo X2
  refine call_zip_2 (s := ⟨h2, s.gens, s.drawn, tk2, s.os⟩) (xs := ws1) (ys := ws2) ⟨_, ho1, rfl, _, rfl⟩ ⟨_, ho2, rfl, _, rfl⟩ fun h3 zz zi zo z1 z2 hsz3 kk => ?_
  refine wpAny_pyIter_zip zz ?_
  obtain ⟨S3, X3⟩ := S2.grow kk
  have fresh : ∀ a, Five h2.objs.size a → h2.get? a = none := fun a ha => Heap.get?_none_of_le ha.1
  have Ln := fun a ha => Lone.new (s := ⟨h2, s.gens, s.drawn, tk2, s.os⟩) S2 F2 X2 (fresh a ha)
  refine zip_loop (s := s) (g := g) (ρ := ρ) (N := h2.objs.size) (m := turnsMost) O Rm hc.1 hc.2 (zipApart_new (Heap.lt_size ho1) (Heap.lt_size ho2)) (fun a ha => by obtain ⟨h, -⟩ := Ln a ha; exact h) (fun z => F2.L.2.2 (fresh _ z)) (fun y c hc z => (F2.C y c hc).2.2.1 (fresh _ z))
    (.mk 0 fr σ₃ g2 ρ2 h3 tk2 e S3 (F2.extNo X3) (X2.trans X3).own r1 r2 (fun a ha => by obtain ⟨-, h1, h2, -⟩ := Ln a ha; exact ⟨h1, h2⟩) ⟨_, _, zz, zi, zo, z1, z2⟩) K
end
end Mine
namespace Mine
open PySem PySem.Calls PyProof.Rows PySem.W

theorem compTurn_at (elt iter : Expr) (x : Str) (px : Pos) (ifs : List Expr) (gens : List Comprehension) (scope : Scope) (pos : Pos) (it acc : Value) (env : Env) (k : Nat) (hg : gens[k]? = some ⟨.Name x px, iter, ifs, 0⟩) :
    compTurn (.ListComp elt gens scope pos) k it acc env = (do
      standAt iter.pos
      match ← pyNext it with
      | none => pure (.done .next)
      | some v =>
        assign (.Name x px) env v
        let mut ok := true
        for c in ifs do
          if ok then ok ← isTrue c env (eval c env)
        if ok then
          match gens[k + 1]? with
          | some g' =>
            let x ← eval g'.iter env
            standAt g'.iter.pos
            let x ← if g'.is_async != 0 then foldedIterable g'.iter x else foldedSetIterable g'.iter env x
            let _ ← runOwn (.compStart (.ListComp elt gens scope pos) (k + 1) (← holding [x] (if g'.is_async != 0 then asyncIter x else pyIter x)) acc env) env
          | none => (do let _ ← call (.builtin "list.append") [acc, ← eval elt env])
        again (.compLoop (.ListComp elt gens scope pos) k it acc env)) := by
  unfold compTurn
  dsimp only
  rw [hg]
  rfl

section
variable {prog : Program} {w : World} {A : Around} {E : Value → Shared → Prop} {s : Shared} {h₀ g g' : Heap} {ρ ρ' : List (Addr × Addr)} {σ σ' : Sto} {T : Tab} {n : Nat} {L : Lv} {sc : Scope} {fr fr' : Vars} {env : Env} {ex : Addr → Prop} {R : Result → Shared → Prop}

/-- the tests behind a clause -/
noncomputable def testsM (ifs : List Expr) (env : Env) (b : Bool) : Sem Bool := forIn ifs b fun c r => if r = true then do let ok ← isTrue c env (eval c env); pure (ForInStep.yield ok) else pure (ForInStep.yield r)
/-- what a turn does once its tests came true -/
noncomputable def CompIn (prog : Program) (w : World) (A : Around) (elt : Expr) (gens : List Comprehension) (scope : Scope) (pos : Pos) (env : Env) (D : Addr) (k : Nat) (E' : Value → Shared → Prop) (P : Shared → Prop) (s : Shared) : Prop :=
  match gens[k + 1]? with
  | none => wpAny (model prog w) A (eval elt env) (fun x s₄ => wpAny (model prog w) A (call (.builtin "list.append") [.ref D, x]) (fun _ s₅ => P s₅) E' s₄) E' s
  | some g' => g'.is_async = 0 ∧ (∀ z, foldedSetIterable g'.iter env z = pure z) ∧ wpAny (model prog w) A (eval g'.iter env) (fun x s₄ => wpAny (model prog w) A (pyIter x) (fun it' s₅ =>
      codeAny (model prog w) A (.compStart (.ListComp elt gens scope pos) (k + 1) it' (.ref D) env) (fun r s' => r = .ok .next ∧ P s') s₅) E' s₄) E' s
section
variable {elt iter : Expr} {ifs : List Expr} {gens : List Comprehension} {scope : Scope} {pos : Pos}
theorem comp_any {x : Str} {px : Pos} {it : Value} {D : Addr} {k : Nat} (hg : gens[k]? = some ⟨.Name x px, iter, ifs, 0⟩) (I : Nat → Shared → Prop)
    (turn : ∀ n s (B : Option Value → Shared → Prop) (E' : Value → Shared → Prop), I n s → (∀ s₁, R (.ok .next) s₁ → B none s₁) →
      (∀ v s₁, (∀ (P : Shared → Prop) (Bt : Bool → Shared → Prop), (∀ m s₃, m < n → I m s₃ → P s₃) → (∀ s₃, P s₃ → Bt false s₃) → (∀ s₃, CompIn prog w A elt gens scope pos env D k E' P s₃ → Bt true s₃) →
        wpAny (model prog w) A (assign (.Name x px) env v) (fun _ s₂ => wpAny (model prog w) A (testsM ifs env true) Bt E' s₂) E' s₁) → B (some v) s₁) → wpAny (model prog w) A (pyNext it) B E' s)
    (n : Nat) (h : I n s) : codeAny (model prog w) A (.compLoop (.ListComp elt gens scope pos) k it (.ref D) env) R s := by
  refine codeAny_loop rfl I (fun n s hI => ?_) n h
  show wpAny _ A ((compTurn (.ListComp elt gens scope pos) k it (.ref D) env).onRaise (fun x => do noteFrame x env; theTreesLotGoes x)) _ _ s
  refine wpAny_noted ?_
  rw [compTurn_at _ _ _ _ _ _ _ _ _ _ _ _ hg]
  refine wpAny_bind (wpAny_standAt (wpAny_bind (turn n s _ _ hI (fun s₁ h₁ => wpAny_pure h₁) fun v s₁ h₁ => ?_)))
  refine wpAny_bind (wpAny_mono (h₁ (fun s => ∃ m, m < n ∧ I m s) _ (fun m _ h1 h2 => ⟨m, h1, h2⟩) (fun s₃ h => ?_) fun s₃ h => ?_) (fun _ s₂ h₂ => wpAny_bind h₂) fun _ _ h' => h')
  · exact wpAny_pure ⟨rfl, h⟩
  · unfold CompIn at h
    rw [if_pos rfl]
    cases hg' : gens[k + 1]? with
    | none =>
      rw [hg'] at h
      exact wpAny_bind (wpAny_bind (wpAny_mono h (fun x s₄ h₄ => wpAny_bind (wpAny_mono h₄ (fun _ s₅ h₅ => wpAny_pure (wpAny_pure ⟨rfl, h₅⟩)) fun _ _ h' => h')) fun _ _ h' => h'))
    | some g' =>
      rw [hg'] at h
      obtain ⟨ha, hf, h⟩ := h
      dsimp only
      rw [ha]
      refine wpAny_bind (wpAny_mono h (fun x s₄ h₄ => ?_) fun _ _ h' => h')
      refine wpAny_bind (wpAny_standAt ?_)
      rw [if_neg (by decide)]
      refine wpAny_bind (wpAny_of_eq (hf x) ?_)
      rw [if_neg (by decide)]
      refine wpAny_bind (wpAny_holding (wpAny_mono h₄ (fun it' s₅ h₅ => ?_) fun _ _ h' => h'))
      refine wpAny_bind (wpAny_runOwn (h := none) (codeAny_mono h₅ fun r s' hr => ?_))
      obtain ⟨rfl, hr⟩ := hr
      exact wpAny_pure ⟨rfl, hr⟩
end

theorem codeAny_compStart_at {elt iter : Expr} {target : Expr} {ifs : List Expr} {gens : List Comprehension} {scope : Scope} {pos : Pos} {it acc : Value} {k : Nat} (hg : gens[k]? = some ⟨target, iter, ifs, 0⟩)
    (h0 : codeAny (model prog w) A (.compLoop (.ListComp elt gens scope pos) k it acc env) R s)
    (h : ∀ E', wpAny (model prog w) A (pyIter it) (fun it' s' => codeAny (model prog w) A (.compLoop (.ListComp elt gens scope pos) k it' acc env) R s') E' s) :
    codeAny (model prog w) A (.compStart (.ListComp elt gens scope pos) k it acc env) R s := by
  refine codeAny_of_tree ?_
  show wpAny _ _ ((compStart (.ListComp elt gens scope pos) k it acc env).onRaise (fun x => do noteFrame x env; standAt theWindowsPlace)) _ _ s
  refine wpAny_notedAt ?_
  unfold compStart clausesOf
  dsimp only
  rw [hg]
  show wpAny _ _ (ask >>= _) _ _ s
  refine wpAny_bind (wpAny_askSetting (wpAny_ite ?_))
  split
  · first
      | exact wpAny_bind (wpAny_pure (wpAny_pure (And.intro rfl h0)))
      | exact wpAny_pure (And.intro rfl h0)
  · first
      | exact wpAny_bind (wpAny_rule (wpAny_bind (wpAny_standAt (wpAny_bind (wpAny_mono (h _) (fun it' s' h' => wpAny_pure (And.intro rfl h')) fun _ _ x => x)))))
      | (refine wpAny_bind (wpAny_rule ?_); show wpAny _ _ (standAt iter.pos >>= _) _ _ s; exact wpAny_bind (wpAny_standAt (wpAny_bind (wpAny_mono (h _) (fun it' s' h' => wpAny_pure (And.intro rfl h')) fun _ _ x => x))))

theorem FR.weaken {h : Heap} (F : FR g ρ env sc fr' h) (e : ∀ x v, fr.lookup x = some v → fr'.lookup x = some v) : FR g ρ env sc fr h :=
  ⟨F.kind, F.globals, F.builtins, F.ok, F.glob, F.loc, F.cel, F.fre, let ⟨m, h1, h2⟩ := F.vars; ⟨m, h1, fun x v q => h2 x v (e x v q)⟩, fun x v q => F.cvars x v (e x v q), F.L, F.C, F.inj⟩

theorem Ext.chg {g₁ g₂ : Heap} {ρ₁ ρ₂ : List (Addr × Addr)} {h₁ h₂ h' : Heap} {a : Addr} (X : Ext ex g₁ ρ₁ h₁ g₂ ρ₂ h₂) (k : ∀ b o, b ≠ a → h₂.get? b = some o → h'.get? b = some o) (ha : ex a) (n : h'.get? a ≠ none) : Ext ex g₁ ρ₁ h₁ g₂ ρ₂ h' := by
  refine ⟨X.gs, X.gn, X.rs, fun b o q1 q2 q3 => k _ _ (fun z => q2 (z ▸ ha)) (X.keep _ _ q1 q2 q3), fun b q => ?_⟩
  by_cases hb : b = a
  · rw [hb]; exact n
  · cases e : h₂.get? b with
    | none => exact absurd e (X.dom _ q)
    | some o => rw [k _ _ hb e]; exact Option.some_ne_none _

theorem iterSelf_ok {v : V} {src : Value} {it : Addr} {i : Nat} {Q : Value → Shared → Prop} (I : ItAt s.heap it src v i) (K : Q (.ref it) s) : wpAny (model prog w) A (pyIter (.ref it)) Q E s := by
  cases I with
  | list l xs i I => exact wpAny_pyIter_listiter I K
  | tuple l xs i I => exact wpAny_pyIter_tupleiter I K
  | st l n i I => exact wpAny_pyIter_listiter I K
  | rng src a b i I => exact wpAny_pyIter_rangeiter I K

theorem tests_false (ifs : List Expr) {Q : Bool → Shared → Prop} (h : Q false s) : wpAny (model prog w) A (testsM ifs env false) Q E s := by
  induction ifs with
  | nil => exact wpAny_pure h
  | cons c r ih =>
    unfold testsM
    rw [List.forIn_cons, if_neg Bool.false_ne_true]
    exact wpAny_bind (wpAny_pure ih)

theorem tests_ok (O : OK prog w h₀ n L) (Rm : Room A n) (ifs : List Expr) {b : Bool} {σ σ' : Sto} {g : Heap} {ρ : List (Addr × Addr)} {s : Shared} {Q : Bool → Shared → Prop} (e : allT (L.t sc fr) true ifs σ = some (b, σ')) (S : SR prog w h₀ g ρ σ s.heap) (F : FR g ρ env sc fr s.heap) (K : KB prog w h₀ g ρ s σ' b Q) :
    wpAny (model prog w) A (testsM ifs env true) Q E s := by
  induction ifs generalizing b σ g ρ s Q with
  | nil => exact wpAny_pure (K.of e g ρ s.heap s.toks S (.refl ..))
  | cons c r ih =>
    have e : (bd (L.t sc fr c σ) fun b σ => br (b == true) (allT (L.t sc fr) true r σ) (some (!true, σ))) = some (b, σ') := e
    obtain ⟨c1, σ₁, e1, e⟩ := bd_inv e
    unfold testsM
    rw [List.forIn_cons, if_pos rfl]
    refine wpAny_bind (wpAny_bind (O.tst Rm e1 S F fun g' ρ' h' tk S' X' => wpAny_pure ?_))
    cases c1 with
    | true => exact ih e S' (F.extNo X') (K.ext X')
    | false => exact tests_false r (K.of e g' ρ' h' tk S' X')

noncomputable def ExD (env : Env) (sc : Scope) (D : Addr) : Addr → Prop := fun a => Own env sc a ∨ a = D
/-- the list that is gathered; what is walked -/
inductive AccAt (g : Heap) (ρ : List (Addr × Addr)) (h : Heap) (D : Addr) (acc : List PyData) : Prop
  | mk (vs : Array Value) (m : Nat) (as : List Addr) : h.get? D = some { cls := .type "list", data := .seq vs m } → ReadsAll g vs.toList acc as → g.get? D = none → ¬ InR ρ D → AccAt g ρ h D acc
inductive WalkAt (g : Heap) (ρ : List (Addr × Addr)) (h : Heap) (it : Addr) (u : Value) (v : V) (i : Nat) : Prop
  | mk : RV g ρ u v → ItAt h it u v i → g.get? it = none → ¬ InR ρ it → WalkAt g ρ h it u v i
theorem AccAt.ext {h h' : Heap} {D : Addr} {acc : List PyData} (a : AccAt g ρ h D acc) (X : Ext ex g ρ h g' ρ' h') (hD : ¬ ex D) : AccAt g' ρ' h' D acc := by
  obtain ⟨vs, m, as, h1, h2, h3, h4⟩ := a
  have n : h.get? D ≠ none := by rw [h1]; exact Option.some_ne_none _
  exact ⟨vs, m, as, X.keep _ _ h4 hD h1, ReadsAll.keeps X.gs h2, X.gn _ n h3, X.fresh n h4⟩
theorem AccAt.off {h h' : Heap} {D it : Addr} {acc : List PyData} (a : AccAt g ρ h D acc) (k : ∀ b o, b ≠ it → h.get? b = some o → h'.get? b = some o) (hD : D ≠ it) : AccAt g ρ h' D acc := by
  obtain ⟨vs, m, as, h1, h2, h3, h4⟩ := a
  exact ⟨vs, m, as, k _ _ hD h1, h2, h3, h4⟩
theorem AccAt.some {h : Heap} {D : Addr} {acc : List PyData} (a : AccAt g ρ h D acc) : h.get? D ≠ none := by
  obtain ⟨vs, m, as, h1, h2, h3, h4⟩ := a
  rw [h1]
  exact Option.some_ne_none _
theorem WalkAt.ext {h h' : Heap} {it : Addr} {u : Value} {v : V} {i : Nat} (a : WalkAt g ρ h it u v i) (X : Ext ex g ρ h g' ρ' h') (hD : ¬ ex it) : WalkAt g' ρ' h' it u v i := by
  obtain ⟨h1, h2, h3, h4⟩ := a
  exact ⟨h1.ext X, h2.keep fun o e => X.keep _ _ h4 hD e, X.gn _ h2.some h3, X.fresh h2.some h4⟩

/-! one clause's run -/
inductive OneI (L : Lv) (sc : Scope) (elt : Expr) (nxt : Option Comprehension) (rest : Vars → V → Sto → List PyData → Res (List PyData)) (fr : Vars) (v : V) (σ : Sto) (acc acc' : List PyData) (σ' : Sto) : Comprehension → Prop
  | mk (x : Str) (p : Pos) (it : Expr) (ifs : List Expr) : canSet sc x = true → (!isSetE it) = true → fr.lookup x = none → compGo v (turnC L sc elt x ifs nxt rest fr) turnsMost 0 σ acc = some (acc', σ') → OneI L sc elt nxt rest fr v σ acc acc' σ' ⟨.Name x p, it, ifs, 0⟩
theorem compOne_inv {elt : Expr} {nxt : Option Comprehension} {rest : Vars → V → Sto → List PyData → Res (List PyData)} {v : V} {acc acc' : List PyData} {c : Comprehension} (h : compOne L sc elt c nxt rest fr v σ acc = some (acc', σ')) : OneI L sc elt nxt rest fr v σ acc acc' σ' c := by
  obtain ⟨x, e1, h⟩ := ob_inv h
  obtain ⟨hc, h⟩ := gd_inv h
  obtain ⟨tg, it, ifs, as⟩ := c
  obtain ⟨p, hp⟩ := nameE_inv e1
  have hc := Bool.and_eq_true_iff.mp hc
  have ha := beq_iff_eq.mp hc.1
  have hc := Bool.or_eq_false_iff.mp (Bool.not_eq_true' .. ▸ hc.2)
  have hx := Bool.or_eq_false_iff.mp hc.1
  have e : (⟨tg, it, ifs, as⟩ : Comprehension) = ⟨.Name x p, it, ifs, 0⟩ := by rw [show tg = _ from hp, show as = _ from ha]
  rw [e]
  exact .mk x p it ifs (by simpa using hx.1) (by rw [show isSetE it = _ from hx.2]; rfl) (Option.isSome_eq_false_iff.mp hc.2 |> Option.isNone_iff_eq_none.mp) h
theorem OneI.first {elt : Expr} {nxt : Option Comprehension} {rest : Vars → V → Sto → List PyData → Res (List PyData)} {v : V} {acc acc' : List PyData} {c : Comprehension} (h : OneI L sc elt nxt rest fr v σ acc acc' σ' c) : (∃ x p, c = ⟨.Name x p, c.iter, c.ifs, 0⟩) ∧ (!isSetE c.iter) = true ∧ ∃ r, itemAt σ v 0 = some r := by
  cases h with
  | mk x p it ifs h1 h2 h3 h4 =>
    refine ⟨⟨x, p, rfl⟩, h2, ?_⟩
    cases compGo_inv (m := 99) h4 with
    | stop q => exact ⟨_, q⟩
    | turn _ _ _ _ _ q => exact ⟨_, q⟩

section
variable (prog w h₀ A L) (elt : Expr) (gens : List Comprehension) (scope : Scope) (pos : Pos) (cenv : Env) (D : Addr)
noncomputable def CStart (gl : List Comprehension) (k : Nat) : Prop :=
  ∀ (fr : Vars) (v : V) (σ σ' : Sto) (acc acc' : List PyData) (g : Heap) (ρ : List (Addr × Addr)) (s : Shared) (u : Value) (it : Addr) (gb hb : Heap) (ρb : List (Addr × Addr)) (R : Result → Shared → Prop),
    compAll L scope elt gl fr v σ acc = some (acc', σ') → SR prog w h₀ g ρ σ s.heap → FR g ρ cenv scope fr s.heap → AccAt g ρ s.heap D acc → WalkAt g ρ s.heap it u v 0 → cenv.locals ≠ it → (∀ y c, cenv.cells.lookup y = some c → c ≠ it) → D ≠ it →
    Ext (ExD cenv scope D) gb ρb hb g ρ s.heap → hb.get? it = none →
    (∀ g' ρ' h' tk, SR prog w h₀ g' ρ' σ' h' → Ext (ExD cenv scope D) gb ρb hb g' ρ' h' → FR g' ρ' cenv scope fr h' → AccAt g' ρ' h' D acc' → R (.ok .next) { s with heap := h', toks := tk }) →
    codeAny (model prog w) A (.compStart (.ListComp elt gens scope pos) k (.ref it) (.ref D) cenv) R s
end
section
variable {elt : Expr} {gens : List Comprehension} {scope : Scope} {pos : Pos} {cenv : Env} {D : Addr} {acc acc' : List PyData} {P : Shared → Prop}
theorem comp_elt (O : OK prog w h₀ n L) (Rm : Room A n) (hD : ¬ Own cenv scope D ∧ cenv.locals ≠ D ∧ ∀ y c, cenv.cells.lookup y = some c → c ≠ D) (e : turnIn L scope elt none (compAll L scope elt []) fr σ acc = some (acc', σ'))
    (S : SR prog w h₀ g ρ σ s.heap) (F : FR g ρ cenv scope fr s.heap) (Ac : AccAt g ρ s.heap D acc)
    (K : ∀ g' ρ' h' tk, SR prog w h₀ g' ρ' σ' h' → Ext (ExD cenv scope D) g ρ s.heap g' ρ' h' → FR g' ρ' cenv scope fr h' → AccAt g' ρ' h' D acc' → P { s with heap := h', toks := tk }) :
    wpAny (model prog w) A (eval elt cenv) (fun x s₄ => wpAny (model prog w) A (call (.builtin "list.append") [.ref D, x]) (fun _ s₅ => P s₅) E s₄) E s := by
  have e : (bd (L.e scope fr elt σ) fun u σ => ob (vD u) fun r => gd (small acc) (some (acc ++ [r], σ))) = some (acc', σ') := e
  obtain ⟨u, σ₁, e1, e⟩ := bd_inv e
  obtain ⟨d, e2, e⟩ := ob_inv e
  obtain ⟨hs, e⟩ := gd_inv e
  cases e
  rw [vD_inv e2] at e1
  refine O.ev Rm e1 S F fun g6 ρ6 h6 tk6 z S6 X6 R6 => ?_
  obtain ⟨vs2, m2, as2, hD6, ra6, gD6, rD6⟩ := Ac.ext X6 id
  clear Ac S e1 e2
  have hs := small_len hs
  have lb := line_big
  have hlen := readsAll_len ra6
  refine wpAny_list_append_plain (s := ⟨h6, s.gens, s.drawn, tk6, s.os⟩) ⟨_, hD6⟩ (fun h7 hp hs => ?_) (by lia)
  obtain ⟨m7, hp⟩ := hp
  have kb : ∀ b o, b ≠ D → h6.get? b = some o → h7.get? b = some o := fun b o hb e => (hs.2 b hb).trans e
  obtain ⟨bs, R6'⟩ := R6
  obtain ⟨cs, rc⟩ := readsAll_append ra6 (.cons R6' .nil)
  exact K g6 ρ6 h7 tk6 (S6.off kb rD6 gD6) (X6.own.chg kb (.inr rfl) (by rw [hp]; exact Option.some_ne_none _)) ((F.extNo X6).off kb hD.2.1 hD.2.2) ⟨_, m7, cs, hp, by rw [Array.toList_push]; exact rc, gD6, rD6⟩
theorem comp_in (O : OK prog w h₀ n L) (Rm : Room A n) (hD : ¬ Own cenv scope D ∧ cenv.locals ≠ D ∧ ∀ y c, cenv.cells.lookup y = some c → c ≠ D) {gs : List Comprehension} {k : Nat} (hk : gens[k + 1]? = gs.head?) (ih : CStart prog w A h₀ L elt gens scope pos cenv D gs (k + 1))
    (e : turnIn L scope elt gs.head? (compAll L scope elt gs) fr σ acc = some (acc', σ')) (S : SR prog w h₀ g ρ σ s.heap) (F : FR g ρ cenv scope fr s.heap) (Ac : AccAt g ρ s.heap D acc)
    (K : ∀ g' ρ' h' tk, SR prog w h₀ g' ρ' σ' h' → Ext (ExD cenv scope D) g ρ s.heap g' ρ' h' → FR g' ρ' cenv scope fr h' → AccAt g' ρ' h' D acc' → P { s with heap := h', toks := tk }) :
    CompIn prog w A elt gens scope pos cenv D k E P s := by
  unfold CompIn
  rw [hk]
  cases gs with
  | nil => exact comp_elt O Rm hD e S F Ac K
  | cons gg gs =>
    have e : (bd (L.e scope fr gg.iter σ) fun u σ => compAll L scope elt (gg :: gs) fr u σ acc) = some (acc', σ') := e
    obtain ⟨uv, σ₁, e1, e⟩ := bd_inv e
    obtain ⟨⟨x, p, hgg⟩, hset, r, hw⟩ := (compOne_inv e).first
    refine ⟨congrArg Comprehension.is_async hgg, notSetIter hset, O.ev Rm e1 S F fun g6 ρ6 h6 tk6 z S6 X6 R6 => ?_⟩
    clear hk e1 hset S hgg
    have F6 := F.extNo X6
    have A6 := Ac.ext X6 id
    refine iter_ok (s := ⟨h6, s.gens, s.drawn, tk6, s.os⟩) hw S6 R6 fun o ho hit2 => ?_
    obtain ⟨f6, gf6, rf6, hL6, hC6, -⟩ := Lone.new (s := ⟨h6, s.gens, s.drawn, tk6, s.os⟩) (ex := no) S6 F6 (.refl ..) (size_none h6)
    obtain ⟨S7, X7⟩ := S6.grow (h' := h6.push o) fun _ _ e => Heap.get?_push_of_some _ e
    exact ih _ _ _ _ _ _ g6 ρ6 ⟨h6.push o, s.gens, s.drawn, tk6, s.os⟩ z _ g6 h6 ρ6 _ e S7 (F6.extNo X7) (A6.ext X7 id) ⟨R6, hit2, gf6, rf6⟩ hL6 hC6 (fun z => A6.some (z ▸ f6)) X7.own f6
      fun g8 ρ8 h8 tk8 S8 X8 F8 A8 => ⟨rfl, K g8 ρ8 h8 tk8 S8 (X6.own.trans X8) F8 A8⟩
inductive CompS (prog : Program) (w : World) (h₀ : Heap) (cenv : Env) (scope : Scope) (fr : Vars) (run : Nat → Nat → Sto → List PyData → Prop) (gb : Heap) (ρb : List (Addr × Addr)) (hb : Heap) (s : Shared) (u : Value) (v : V) (it D : Addr) (m : Nat) : Shared → Prop
  | mk (i : Nat) (σ2 : Sto) (g2 : Heap) (ρ2 : List (Addr × Addr)) (h2 : Heap) (tk2 : Nat) (acc2 : List PyData) : run m i σ2 acc2 → SR prog w h₀ g2 ρ2 σ2 h2 → FR g2 ρ2 cenv scope fr h2 → Ext (ExD cenv scope D) gb ρb hb g2 ρ2 h2 → WalkAt g2 ρ2 h2 it u v i → AccAt g2 ρ2 h2 D acc2 →
      CompS prog w h₀ cenv scope fr run gb ρb hb s u v it D m { s with heap := h2, toks := tk2 }
/-- a turn: the name gets its value, the tests, what is gathered -/
theorem comp_turn (O : OK prog w h₀ n L) (Rm : Room A n) (hD : ¬ Own cenv scope D ∧ cenv.locals ≠ D ∧ ∀ y c, cenv.cells.lookup y = some c → c ≠ D) {gs : List Comprehension} {k : Nat} (hk : gens[k + 1]? = gs.head?) (ih : CStart prog w A h₀ L elt gens scope pos cenv D gs (k + 1))
    {x : Str} {px : Pos} {ifs : List Expr} {y : V} {uu : Value} {Bt : Bool → Shared → Prop} (hx : canSet scope x = true) (hfx : fr.lookup x = none) (e : turnC L scope elt x ifs gs.head? (compAll L scope elt gs) fr y σ acc = some (acc', σ')) (S : SR prog w h₀ g ρ σ s.heap) (F : FR g ρ cenv scope fr s.heap) (Ac : AccAt g ρ s.heap D acc) (Ry : RV g ρ uu y)
    (hP : ∀ g' ρ' h' tk, SR prog w h₀ g' ρ' σ' h' → Ext (ExD cenv scope D) g ρ s.heap g' ρ' h' → FR g' ρ' cenv scope fr h' → AccAt g' ρ' h' D acc' → P { s with heap := h', toks := tk })
    (hf : ∀ s₃, P s₃ → Bt false s₃) (ht : ∀ s₃, CompIn prog w A elt gens scope pos cenv D k E P s₃ → Bt true s₃) :
    wpAny (model prog w) A (assign (.Name x px) cenv uu) (fun _ s₂ => wpAny (model prog w) A (testsM ifs cenv true) Bt E s₂) E s := by
  obtain ⟨b, σ₁, e1, e⟩ := bd_inv e
  have wk : ∀ z v', fr.lookup z = some v' → (putV fr x y).lookup z = some v' := fun z v' ez => by
    rw [lookup_putV_ne (fun q => noneE' (hfx.symm.trans (q ▸ ez)))]; exact ez
  refine wpAny_assign_Name (bind_ok S F hx Ry fun h4 tk4 S4 X4 F4 k4 => ?_)
  have A4 := Ac.ext X4 hD.1
  have X4 : Ext (ExD cenv scope D) g ρ s.heap g ρ h4 := X4.weaken fun a ha _ => .inl ha
  refine tests_ok O Rm ifs e1 (s := ⟨h4, s.gens, s.drawn, tk4, s.os⟩) S4 F4 fun g5 ρ5 h5 tk5 S5 X5 => ?_
  have F5 := F4.extNo X5
  have A5 := A4.ext X5 id
  have X5 := X4.trans X5.own
  clear e1 S4 F4 X4 A4 k4 Ac S F
  cases b with
  | false =>
    have hP := some2 (P := fun acc' σ' => ∀ g' ρ' h' tk, SR prog w h₀ g' ρ' σ' h' → Ext (ExD cenv scope D) g ρ s.heap g' ρ' h' → FR g' ρ' cenv scope fr h' → AccAt g' ρ' h' D acc' → P { s with heap := h', toks := tk }) e.symm hP
    exact hf _ (hP g5 ρ5 h5 tk5 S5 X5 (F5.weaken wk) A5)
  | true => exact ht _ (comp_in (s := ⟨h5, s.gens, s.drawn, tk5, s.os⟩) O Rm hD hk ih e S5 F5 A5 fun g6 ρ6 h6 tk6 S6 X6 F6 A6 => hP g6 ρ6 h6 tk6 S6 (X5.trans X6) (F6.weaken wk) A6)
theorem compStart_ok (O : OK prog w h₀ n L) (Rm : Room A n) (hD : ¬ Own cenv scope D ∧ cenv.locals ≠ D ∧ ∀ y c, cenv.cells.lookup y = some c → c ≠ D) (gl : List Comprehension) (k : Nat) (hk : gens.drop k = gl) : CStart prog w A h₀ L elt gens scope pos cenv D gl k := by
  induction gl generalizing k with
  | nil => exact fun _ _ _ _ _ _ _ _ _ _ _ _ _ _ _ e => noneE' e
  | cons g0 gs ih =>
    intro fr v σ σ' acc acc' g ρ s u it gb hb ρb R e S F Ac Wk hL hC hDi X0 fresh KC
    have hg : gens[k]? = some g0 := by
      have := congrArg (fun l => l[0]?) hk
      simpa using this
    have hg1 : gens.drop (k + 1) = gs := by
      have := congrArg (List.drop 1) hk
      simpa [List.drop_drop, Nat.add_comm] using this
    have hg2 : gens[k + 1]? = gs.head? := by rw [← hg1, List.head?_drop]
    have ih := ih (k + 1) hg1
    have hit : ¬ ExD cenv scope D it := by
      rintro ((z | ⟨y, _, z⟩) | z)
      · exact hL z.symm
      · exact hC y _ z rfl
      · exact hDi z.symm
    have hit0 := Wk
    clear hk hg1
    cases compOne_inv e with
    | mk x p iter ifs hx hset hfx e9 =>
      have loop : codeAny (model prog w) A (.compLoop (.ListComp elt gens scope pos) k (.ref it) (.ref D) cenv) R s := by
        refine comp_any hg (CompS prog w h₀ cenv scope fr (fun m i σ2 acc2 => compGo v (turnC L scope elt x ifs gs.head? (compAll L scope elt gs) fr) m i σ2 acc2 = some (acc', σ')) gb ρb hb s u v it D) (fun m s' B E' hI hend hturn => ?_) turnsMost (.mk 0 σ g ρ s.heap s.toks acc e9 S F X0 Wk Ac)
        clear e e9 S F Ac Wk X0 hit0
        obtain ⟨i, σ2, g2, ρ2, h2, tk2, acc2, e, S2, F2, X2, ⟨R2, I2, gi, ri⟩, A2⟩ := hI
        cases m with
        | zero => exact noneE' e
        | succ m =>
          cases compGo_inv e with
          | stop q => exact next_ok (s := ⟨h2, s.gens, s.drawn, tk2, s.os⟩) Rm.handled q S2 R2 I2 (fun _ h3 hbb => hend _ (KC g2 ρ2 h3 tk2 (S2.off hbb ri gi) (X2.off hbb fresh) (F2.off hbb hL hC) (A2.off hbb hDi))) (fun _ z => nomatch z)
          | turn y acc₁ acc' σ₁ σ' q e1 e2 =>
            refine next_ok (s := ⟨h2, s.gens, s.drawn, tk2, s.os⟩) Rm.handled q S2 R2 I2 (fun z => nomatch z) (fun _ z h3 tk3 uu Ruu I3 hbb => ?_)
            cases z
            have W3 : WalkAt g2 ρ2 h3 it u v (i + 1) := ⟨R2, I3, gi, ri⟩
            have X3 := X2.off hbb fresh
            refine hturn _ _ fun P Bt hP hf ht => comp_turn (s := ⟨h3, s.gens, s.drawn, tk3, s.os⟩) O Rm hD hg2 ih hx hfx e1 (S2.off hbb ri gi) (F2.off hbb hL hC) (A2.off hbb hDi) Ruu (fun g7 ρ7 h7 tk7 S7 X7 F7 A7 => hP m _ (Nat.lt_succ_self _) ?_) hf ht
            exact .mk (i + 1) σ₁ g7 ρ7 h7 tk7 acc₁ e2 S7 F7 (X3.trans X7) (W3.ext X7 hit) A7
      obtain ⟨-, hit, -, -⟩ := hit0
      exact codeAny_compStart_at hg loop fun E' => iterSelf_ok hit loop
end
end
end Mine
namespace Mine
open PySem PySem.Calls PyProof.Rows PySem.W

/-! cells -/
theorem cellsFrom_append : ∀ (names : List (Str × NameKind)) (n : Nat) (acc : List (Str × Addr)), cellsFrom n names acc = cellsFrom n names [] ++ acc
  | [], n, acc => rfl
  | (x, k) :: r, n, acc => by
    unfold cellsFrom
    split
    · rw [cellsFrom_append r _ ((x, n) :: acc), cellsFrom_append r _ [(x, n)], List.append_assoc]; rfl
    · exact cellsFrom_append r n acc
theorem lookup_mem {α : Type} : ∀ {l : List (Str × α)} {x : Str} {k : α}, (l.map (·.1)).Nodup → (x, k) ∈ l → l.lookup x = some k
  | (y, j) :: r, x, k, h, hm => by
    rw [List.map_cons, List.nodup_cons] at h
    rcases List.mem_cons.mp hm with e | hm
    · cases e; simp
    · have : (x == y) = false := by
        rw [beq_eq_false_iff_ne]; intro q; exact h.1 (List.mem_map.mpr ⟨(x, k), hm, q⟩)
      rw [List.lookup_cons, this]
      exact lookup_mem h.2 hm
theorem cellsFrom_some : ∀ {names : List (Str × NameKind)} {n : Nat} {x : Str}, (x, NameKind.cell) ∈ names → ∃ c, (cellsFrom n names []).lookup x = some c
  | (y, k) :: r, n, x, h => by
    unfold cellsFrom
    rcases List.mem_cons.mp h with e | h
    · cases e
      rw [if_pos (by rfl), cellsFrom_append, List.lookup_append]
      cases q : (cellsFrom (n + 1) r []).lookup y with
      | none => exact ⟨n, by simp⟩
      | some c => exact ⟨c, by simp⟩
    · split
      · rw [cellsFrom_append, List.lookup_append]
        obtain ⟨c, q⟩ := cellsFrom_some (n := n + 1) h
        exact ⟨c, by rw [q]; rfl⟩
      · exact cellsFrom_some h
theorem cellsFrom_mem : ∀ {names : List (Str × NameKind)} {n : Nat} {x : Str} {c : Addr}, (x, c) ∈ cellsFrom n names [] → (x, NameKind.cell) ∈ names
  | [], n, x, c, h => by simp [cellsFrom] at h
  | (y, k) :: r, n, x, c, h => by
    unfold cellsFrom at h
    split at h
    · rename_i hk
      have hk : k = .cell := by simpa using hk
      subst hk
      rw [cellsFrom_append] at h
      rcases List.mem_append.mp h with h | h
      · exact .tail _ (cellsFrom_mem h)
      · cases List.mem_singleton.mp h; exact .head _
    · exact .tail _ (cellsFrom_mem h)

noncomputable def closOf (env : Env) : List (Str × NameKind) → List (Str × Addr) → List (Str × Addr)
  | [], acc => acc
  | (n, k) :: r, acc => if k == .free then match env.cells.lookup n with
    | some c => closOf env r ((n, c) :: acc)
    | none => closOf env r acc else closOf env r acc
theorem closureFor_eq {scope : Scope} {env : Env} (h : ∀ x, (x, NameKind.free) ∈ scope.names → (env.cells.lookup x).isSome = true) : closureFor scope env = pure (closOf env scope.names []) := by
  unfold closureFor
  have key : ∀ (names : List (Str × NameKind)) (acc : List (Str × Addr)), (∀ x, (x, NameKind.free) ∈ names → (env.cells.lookup x).isSome = true) →
      (forIn names acc fun (x : Str × NameKind) (cs : List (Str × Addr)) => (if x.2 == .free then (do let a ← cellOf env x.1; pure (ForInStep.yield ((x.1, a) :: cs))) else pure (ForInStep.yield cs) : Sem (ForInStep (List (Str × Addr))))) = pure (closOf env names acc) := by
    intro names
    induction names with
    | nil => intro acc _; rfl
    | cons p r ih =>
      intro acc hh
      obtain ⟨n, k⟩ := p
      rw [List.forIn_cons]
      unfold closOf
      by_cases hk : (k == NameKind.free) = true
      · have hk' : k = .free := by simpa using hk
        subst hk'
        obtain ⟨c, hc⟩ := Option.isSome_iff_exists.mp (hh n (.head _))
        have hcell : cellOf env n = pure c := by unfold cellOf; rw [hc]
        simp only [beq_self_eq_true, if_true, hcell, hc, pure_bind]
        exact ih _ fun x hx => hh x (.tail _ hx)
      · simp only [hk, Bool.false_eq_true, if_false, pure_bind]
        exact ih _ fun x hx => hh x (.tail _ hx)
  simp only [key scope.names [] h, pure_bind]
theorem closOf_sound {env : Env} : ∀ {names : List (Str × NameKind)} {acc : List (Str × Addr)} (_ : ∀ x c, acc.lookup x = some c → env.cells.lookup x = some c) {x : Str} {c : Addr}, (closOf env names acc).lookup x = some c → env.cells.lookup x = some c
  | [], acc, h, x, c, e => h x c e
  | (n, k) :: r, acc, h, x, c, e => by
    unfold closOf at e
    split at e
    · split at e
      · rename_i c' hc
        refine closOf_sound (fun y d q => ?_) e
        rw [List.lookup_cons] at q
        split at q
        · rename_i hy; cases q; rw [beq_iff_eq.mp hy]; exact hc
        · exact h y d q
      · exact closOf_sound h e
    · exact closOf_sound h e
theorem closOf_keep {env : Env} : ∀ {names : List (Str × NameKind)} {acc : List (Str × Addr)} {x : Str}, acc.lookup x ≠ none → (closOf env names acc).lookup x ≠ none
  | [], acc, x, h => h
  | (n, k) :: r, acc, x, h => by
    unfold closOf
    split
    · split
      · refine closOf_keep ?_
        rw [List.lookup_cons]
        split
        · exact Option.some_ne_none _
        · exact h
      · exact closOf_keep h
    · exact closOf_keep h
theorem closOf_some {env : Env} : ∀ {names : List (Str × NameKind)} {acc : List (Str × Addr)} {x : Str}, (x, NameKind.free) ∈ names → (env.cells.lookup x).isSome = true → (closOf env names acc).lookup x ≠ none
  | (n, k) :: r, acc, x, h, hc => by
    unfold closOf
    rcases List.mem_cons.mp h with e | h
    · cases e
      rw [if_pos (by rfl)]
      obtain ⟨c, hc⟩ := Option.isSome_iff_exists.mp hc
      rw [hc]
      exact closOf_keep (by simp)
    · split
      · split
        · exact closOf_some h hc
        · exact closOf_some h hc
      · exact closOf_some h hc
theorem closOf_mem {env : Env} : ∀ {names : List (Str × NameKind)} {acc : List (Str × Addr)} {x : Str} {c : Addr}, (x, c) ∈ closOf env names acc → (x, c) ∈ acc ∨ (x, NameKind.free) ∈ names
  | [], acc, x, c, h => .inl h
  | (n, k) :: r, acc, x, c, h => by
    unfold closOf at h
    split at h
    · rename_i hk
      have hk : k = .free := by simpa using hk
      subst hk
      split at h
      · rcases closOf_mem h with h | h
        · rcases List.mem_cons.mp h with e | h
          · cases e; exact .inr (.head _)
          · exact .inl h
        · exact .inr (.tail _ h)
      · rcases closOf_mem h with h | h
        · exact .inl h
        · exact .inr (.tail _ h)
    · rcases closOf_mem h with h | h
      · exact .inl h
      · exact .inr (.tail _ h)

theorem lookup_map_snd {α β : Type} {G : Str → α → β} {x : Str} : ∀ {l : List (Str × α)}, (l.map fun p => (p.1, G p.1 p.2)).lookup x = (l.lookup x).map (G x)
  | [] => rfl
  | (n, k) :: r => by
    rw [List.map_cons, List.lookup_cons, List.lookup_cons]
    by_cases h : x = n
    · subst h; simp
    · have : (x == n) = false := by simpa using h
      simp only [this]
      exact lookup_map_snd
theorem lookup_relabel {env : Env} {scope : Scope} {x : Str} : (relabel scope env).names.lookup x = (scope.names.lookup x).map fun k => if (k == .free && env.scope.kind == .function && env.kindOf x == some .cell) then .cell else k := by
  have e : (relabel scope env).names = scope.names.map fun p => (p.1, (fun y k => if (k == NameKind.free && env.scope.kind == ScopeKind.function && env.kindOf y == some NameKind.cell) = true then NameKind.cell else k) p.1 p.2) := by
    unfold relabel
    dsimp only
    congr 1
    funext p
    obtain ⟨n, k⟩ := p
    dsimp only
    split <;> rfl
  rw [e]
  exact lookup_map_snd (G := fun y k => if (k == NameKind.free && env.scope.kind == ScopeKind.function && env.kindOf y == some NameKind.cell) = true then NameKind.cell else k)

section
variable {prog : Program} {w : World} {A : Around} {E : Value → Shared → Prop} {s : Shared} {h₀ g g' : Heap} {ρ ρ' : List (Addr × Addr)} {σ σ' : Sto} {T : Tab} {n : Nat} {L : Lv} {sc : Scope} {fr fr' : Vars} {env : Env} {ex : Addr → Prop} {R : Result → Shared → Prop}

noncomputable def compEnvOf (scope : Scope) (env : Env) (C : Addr) (cl : List (Str × Addr)) : Env :=
  { scope := relabel scope env, locals := C, globals := env.globals, cells := cellsFrom (C + 1) scope.names cl, qual := env.qual, func := none, code := env.code, frame := env.frame, builtins := env.builtins }

theorem newEnvC_ok {scope : Scope} {cl : List (Str × Addr)} {Q : Env → Shared → Prop}
    (h : ∀ cenv, { cenv with scope := relabel scope env } = compEnvOf scope env s.heap.objs.size cl → cenv.locals = s.heap.objs.size → Q cenv { s with heap := pushCells (s.heap.push { cls := .type "dict", data := .dict #[] }) scope.names }) :
    wpAny (model prog w) A (newFunctionEnv scope env.globals cl [] env.qual none .none (some env)) Q E s := by
  simp only [newFunctionEnv, Option.isSome_some, if_true]
  refine wpAny_bind (wpAny_alloc ?_)
  refine wpAny_bind (wpAny_layCells _ (fun name kind cells => by cases hkc : kind == NameKind.cell <;> simp [hkc]) _ _ _ _ ?_)
  rw [show ({ s with heap := s.heap.push { cls := .type "dict", data := .dict #[] } } : Shared).heap.objs.size = s.heap.objs.size + 1 from Heap.size_push ..]
  rw [List.forIn_nil]
  exact wpAny_bind (wpAny_pure (wpAny_pure (h _ rfl rfl)))

theorem lookup_filter {P : Str → Bool} : ∀ {l : Vars} {x : Str}, (l.filter fun p => P p.1).lookup x = if P x then l.lookup x else none
  | [], x => by simp
  | (y, v) :: r, x => by
    by_cases hy : P y = true
    · rw [List.filter_cons_of_pos (by simpa using hy), List.lookup_cons, List.lookup_cons, lookup_filter]
      by_cases hx : x = y
      · subst hx; simp [hy]
      · have : (x == y) = false := by simpa using hx
        rw [this]
    · rw [List.filter_cons_of_neg (by simpa using hy), lookup_filter]
      by_cases hx : x = y
      · subst hx; simp [hy]
      · have : (x == y) = false := by simpa using hx
        rw [List.lookup_cons, this]

theorem compFR {scope : Scope} {h : Heap} (S : SR prog w h₀ g ρ σ h) (F : FR g ρ env sc fr h) (ok : okScope scope = true) (okf : okFree sc fr scope = true) :
    FR g ρ (compEnvOf scope env h.objs.size (closOf env scope.names [])) scope (fr.filter fun p => scope.names.lookup p.1 == some .free) (pushCells (h.push { cls := .type "dict", data := .dict #[] }) scope.names) ∧
    (∀ x c, (compEnvOf scope env h.objs.size (closOf env scope.names [])).cells.lookup x = some c → h.objs.size < c ∨ (scope.names.lookup x ≠ some .cell ∧ env.cells.lookup x = some c)) := by
  have okk := ok
  unfold okScope at okk
  simp only [Bool.and_eq_true, decide_eq_true_eq, beq_iff_eq] at okk
  obtain ⟨⟨⟨hk, _⟩, _⟩, hnd⟩ := okk
  have keep : ∀ b o, h.get? b = some o → (pushCells (h.push { cls := .type "dict", data := .dict #[] }) scope.names).get? b = some o := fun b o e => pushCells_keeps _ _ b o (Heap.get?_push_of_some _ e)
  have cok := cellsFrom_ok scope.names (h.push { cls := .type "dict", data := .dict #[] }) (h.objs.size + 1) [] ⟨fun _ _ hm => (nomatch hm), List.Pairwise.nil⟩ (by rw [Heap.size_push]; exact Nat.le_refl _)
  rw [Heap.size_push] at cok
  have hcl : ∀ x c, (closOf env scope.names []).lookup x = some c → env.cells.lookup x = some c := fun x c e => closOf_sound (acc := []) (fun _ _ q => by simp at q) e
  have cells_eq : (compEnvOf scope env h.objs.size (closOf env scope.names [])).cells = cellsFrom (h.objs.size + 1) scope.names [] ++ closOf env scope.names [] := cellsFrom_append _ _ _
  have nocell : ∀ x, scope.names.lookup x ≠ some .cell → (cellsFrom (h.objs.size + 1) scope.names []).lookup x = none := fun x hx => by
    cases q : (cellsFrom (h.objs.size + 1) scope.names []).lookup x with
    | none => rfl
    | some c => exact absurd (lookup_mem hnd (cellsFrom_mem (mem_of_lookup q))) hx
  have clk : ∀ x c, (compEnvOf scope env h.objs.size (closOf env scope.names [])).cells.lookup x = some c → (scope.names.lookup x = some .cell ∧ (cellsFrom (h.objs.size + 1) scope.names []).lookup x = some c) ∨ (scope.names.lookup x = some .free ∧ env.cells.lookup x = some c) := fun x c e => by
    rw [cells_eq, List.lookup_append] at e
    cases q : (cellsFrom (h.objs.size + 1) scope.names []).lookup x with
    | some c' =>
      rw [q] at e
      cases e
      exact .inl ⟨lookup_mem hnd (cellsFrom_mem (mem_of_lookup q)), rfl⟩
    | none =>
      rw [q] at e
      have e : (closOf env scope.names []).lookup x = some c := e
      rcases closOf_mem (mem_of_lookup e) with z | z
      · cases z
      · exact .inr ⟨lookup_mem hnd z, hcl x c e⟩
  have nofresh : h.get? h.objs.size = none := size_none _
  have gfresh : ∀ a, h.objs.size ≤ a → g.get? a = none := fun a ha => by
    cases q : g.get? a with
    | none => rfl
    | some o => exact absurd (Heap.lt_size (S.sub _ _ q)) (Nat.not_lt.mpr ha)
  have rfresh : ∀ a, h.objs.size ≤ a → ¬ InR ρ a := fun a ha q => (S.free _ q).2 (Heap.get?_none_of_le ha)
  have outlt : ∀ x c, env.cells.lookup x = some c → c < h.objs.size := fun x c e => by
    have := (F.C x c e).2.2.1
    cases q : h.get? c with
    | none => exact absurd q this
    | some o => exact Heap.lt_size q
  refine ⟨⟨hk, F.globals, F.builtins, ok, fun x hx => ?_, fun x hx => ?_, fun x hx => ?_, fun x hx => ?_, ⟨fun _ => none, ?_, fun x v e1 e2 => ?_⟩, fun x v e1 e2 => ?_, ⟨gfresh _ (Nat.le_refl _), rfresh _ (Nat.le_refl _), ?_⟩, fun x c hc => ?_, fun x y c h1 h2 => ?_⟩, fun x c hc => ?_⟩
  · show (relabel scope env).names.lookup x = _
    rw [lookup_relabel, hx]; rfl
  · show (relabel scope env).names.lookup x = _
    rw [lookup_relabel, hx]; rfl
  · obtain ⟨c, hc⟩ := cellsFrom_some (n := h.objs.size + 1) (mem_of_lookup hx)
    refine ⟨?_, c, none, ?_, (cok.empty x c (mem_of_lookup hc)).1⟩
    · show (relabel scope env).names.lookup x = _
      rw [lookup_relabel, hx]; rfl
    · rw [cells_eq, List.lookup_append, hc]; rfl
  · show (relabel scope env).names.lookup x = _ ∨ (relabel scope env).names.lookup x = _
    rw [lookup_relabel, hx]
    simp only [Option.map_some]
    split
    · exact .inl rfl
    · exact .inr rfl
  · exact (Heap.Ns.new h (.type "dict")).keeps fun b o e => pushCells_keeps _ _ b o e
  · rw [lookup_filter (P := fun y => scope.names.lookup y == some .free)] at e1
    rw [e2] at e1
    simp at e1
  · rw [lookup_filter (P := fun y => scope.names.lookup y == some .free)] at e1
    split at e1
    · rename_i hf
      have hf : scope.names.lookup x = some .free := by simpa using hf
      have ho := List.all_eq_true.mp okf (x, .free) (mem_of_lookup hf)
      simp at ho
      have hsc : sc.names.lookup x = some .cell ∨ sc.names.lookup x = some .free := by
        rcases ho with q | q
        · exact .inl q
        · exact .inr q.1
      obtain ⟨c, u, h1, h2, h3⟩ := F.cvars x v e1 hsc
      refine ⟨c, u, ?_, h2.keeps keep, h3⟩
      rw [cells_eq, List.lookup_append, nocell x (by rw [hf]; simp)]
      show (closOf env scope.names []).lookup x = some c
      have ne := closOf_some (acc := []) (mem_of_lookup hf) (by rw [h1]; rfl)
      cases q : (closOf env scope.names []).lookup x with
      | none => exact absurd q ne
      | some c' => rw [← hcl x c' q, h1]
    · cases e1
  · have := Heap.Ns.new h (.type "dict")
    obtain ⟨o, es, ep, q, _⟩ := this
    show (pushCells (h.push { cls := .type "dict", data := .dict #[] }) scope.names).get? h.objs.size ≠ none
    rw [pushCells_keeps _ _ _ _ q]
    exact Option.some_ne_none _
  · rcases clk x c hc with ⟨_, q⟩ | ⟨_, q⟩
    · have := cok.empty x c (mem_of_lookup q)
      obtain ⟨⟨o, e, _⟩, hlo⟩ := this
      refine ⟨gfresh c (by lia), rfresh c (by lia), by rw [e]; exact Option.some_ne_none _, ?_⟩
      show c ≠ h.objs.size
      exact Nat.ne_of_gt (Nat.lt_of_succ_le hlo)
    · have hlt := outlt x c q
      have hF := F.C x c q
      refine ⟨hF.1, hF.2.1, ?_, Nat.ne_of_lt hlt⟩
      cases z : h.get? c with
      | none => exact absurd z hF.2.2.1
      | some o => rw [keep _ _ z]; exact Option.some_ne_none _
  · rcases clk x c h1 with ⟨_, q1⟩ | ⟨_, q1⟩ <;> rcases clk y c h2 with ⟨_, q2⟩ | ⟨_, q2⟩
    · exact name_of_addr cok.apart (mem_of_lookup q1) (mem_of_lookup q2)
    · have a := (cok.empty x c (mem_of_lookup q1)).2
      have b := outlt y c q2
      exact absurd (Nat.lt_of_lt_of_le b (Nat.le_of_succ_le a)) (Nat.lt_irrefl _)
    · have a := (cok.empty y c (mem_of_lookup q2)).2
      have b := outlt x c q1
      exact absurd (Nat.lt_of_lt_of_le b (Nat.le_of_succ_le a)) (Nat.lt_irrefl _)
    · exact F.inj x y c q1 q2
  · rcases clk x c hc with ⟨_, q⟩ | ⟨z, q⟩
    · exact .inl (Nat.lt_of_succ_le (cok.empty x c (mem_of_lookup q)).2)
    · exact .inr ⟨by rw [z]; simp, q⟩

theorem okScope_names {scope : Scope} (ok : okScope scope = true) : scope.kind = .function ∧ (scope.names.map (·.1)).Nodup := by
  unfold okScope at ok
  simp only [Bool.and_eq_true, decide_eq_true_eq, beq_iff_eq] at ok
  exact ⟨ok.1.1.1, ok.2⟩

/-- the whole comprehension, with a use of its value or without -/
theorem compr_ok (O : OK prog w h₀ n L) (Rm : Room A n) {elt : Expr} {g0 : Comprehension} {gs : List Comprehension} {scope : Scope} {pos : Pos} {v : V} {σ₁ σ₂ : Sto} {acc : List PyData} {use : Option (Value → Sem Unit)} {Q : Value → Shared → Prop}
    (ok : okScope scope = true) (okf : okFree sc fr scope = true) (e1 : L.e sc fr g0.iter σ = some (v, σ₁)) (e2 : compAll L scope elt (g0 :: gs) (fr.filter fun p => scope.names.lookup p.1 == some .free) v σ₁ [] = some (acc, σ₂))
    (S : SR prog w h₀ g ρ σ s.heap) (F : FR g ρ env sc fr s.heap)
    (K : ∀ g' ρ' h' tk D, SR prog w h₀ g' ρ' σ₂ h' → Ext no g ρ s.heap g' ρ' h' → RV g' ρ' (.ref D) (.d (.list acc)) → s.heap.get? D = none → ∀ C m, h'.Ns C m → s.heap.get? C = none → g'.get? C = none → ¬ InR ρ' C → compPost (model prog w) A E use Q (.ref D) C (.ok .next) { s with heap := h', toks := tk }) :
    wpAny (model prog w) A (comprehension (.ListComp elt (g0 :: gs) scope pos) scope env (firstIterPos (g0 :: gs) pos) (newList []) (firstAsync (g0 :: gs)) (firstIter (g0 :: gs) env) use) Q E s := by
  obtain ⟨⟨x, px, hg0⟩, hset, r0, hw⟩ := (compOne_inv e2).first
  have hasync : firstAsync (g0 :: gs) = false := by rw [hg0]; rfl
  have hfi : firstIter (g0 :: gs) env = eval g0.iter env := by rw [hg0]; rfl
  obtain ⟨hk, hnd⟩ := okScope_names ok
  have hclos : closureFor scope env = pure (closOf env scope.names []) := closureFor_eq fun y hy => by
    have ho := List.all_eq_true.mp okf (y, .free) hy
    rcases Bool.or_eq_true_iff.mp ho with q | q
    · exact nomatch q
    · rcases Bool.or_eq_true_iff.mp q with q | q
      · obtain ⟨_, c, ov, hc, _⟩ := F.cel y (beq_iff_eq.mp q)
        rw [hc]; rfl
      · obtain ⟨q1, q2⟩ := Bool.and_eq_true_iff.mp q
        obtain ⟨v', hv⟩ := Option.isSome_iff_exists.mp q2
        obtain ⟨c, u, hc, _⟩ := F.cvars y v' hv (.inr (beq_iff_eq.mp q1))
        rw [hc]; rfl
  rw [hasync, hfi]
  refine wpAny_comprehension_free (g := g0) (gs := gs) rfl (notSetIter hset) hclos hk (fun y hy hl => lookup_mem hnd (by rw [← hl]; exact hy)) ?_
  clear hasync hfi hclos hset hg0 hk hnd
  refine O.ev Rm e1 S F fun g1 ρ1 h1 tk1 u S1 X1 R1 => ?_
  refine iter_ok (s := ⟨h1, s.gens, s.drawn, tk1, s.os⟩) hw S1 R1 fun o ho hit => ?_
  clear hw e1
  have F1 := F.extNo X1
  have noneOf : ∀ a, h1.objs.size ≤ a → s.heap.get? a = none := fun a ha => by
    cases q : s.heap.get? a with
    | none => rfl
    | some o => exact absurd (Heap.get?_none_of_le ha) (X1.dom _ (by rw [q]; exact Option.some_ne_none _))
  obtain ⟨S2, X2⟩ := S1.grow (h' := h1.push o) fun _ _ e => Heap.get?_push_of_some _ e
  have z2 : (h1.push o).objs.size = h1.objs.size + 1 := Heap.size_push ..
  refine wpAny_newObj_type ?_
  obtain ⟨S3, X3⟩ := S2.grow (h' := (h1.push o).push { cls := .type "list", data := .seq ([] : List Value).toArray }) fun _ _ e => Heap.get?_push_of_some _ e
  have z3 : ((h1.push o).push { cls := .type "list", data := .seq ([] : List Value).toArray }).objs.size = h1.objs.size + 1 + 1 := by rw [Heap.size_push, z2]
  have hD3 : ((h1.push o).push { cls := .type "list", data := .seq ([] : List Value).toArray }).get? (h1.objs.size + 1) = some { cls := .type "list", data := .seq #[] 0 } := by rw [← z2]; exact Heap.get?_push_size _ rfl
  have hit3 : ItAt ((h1.push o).push { cls := .type "list", data := .seq ([] : List Value).toArray }) h1.objs.size u v 0 := hit.keep fun _ e => Heap.get?_push_of_some _ e
  show wpAny (model prog w) A (newFunctionEnv scope env.globals (closOf env scope.names []) [] env.qual none .none (some env)) (fun cenv s₄ => codeAny (model prog w) A (.compStart (.ListComp elt (g0 :: gs) scope pos) 0 (.ref h1.objs.size) (.ref (h1.push o).objs.size) { cenv with scope := relabel scope env }) (compPost (model prog w) A E use Q (.ref (h1.push o).objs.size) cenv.locals) s₄) E ⟨(h1.push o).push { cls := .type "list", data := .seq ([] : List Value).toArray }, s.gens, s.drawn, tk1, s.os⟩
  rw [z2]
  have X23 := X2.trans X3
  clear X2 X3 S2 hit z2
  generalize (h1.push o).push { cls := .type "list", data := .seq ([] : List Value).toArray } = h3 at *
  obtain ⟨FC, hcl⟩ := compFR S3 (F1.extNo X23) ok okf
  have keep4 : ∀ b o, h3.get? b = some o → (pushCells (h3.push { cls := .type "dict", data := .dict #[] }) scope.names).get? b = some o := fun b o e => pushCells_keeps _ _ b o (Heap.get?_push_of_some _ e)
  refine newEnvC_ok (s := ⟨h3, s.gens, s.drawn, tk1, s.os⟩) fun cenv hcenv hloc => ?_
  rw [hcenv, hloc]
  clear hcenv hloc okf ok
  dsimp only
  generalize pushCells (h3.push { cls := .type "dict", data := .dict #[] }) scope.names = h4 at *
  obtain ⟨S4, X4⟩ := S3.grow keep4
  have X4 := X23.trans X4
  have hD4 := keep4 _ _ hD3
  have hit4 := hit3.keep fun o e => keep4 _ _ e
  clear keep4 X23 S3 hit3 hD3
  have outlt : ∀ x c, env.cells.lookup x = some c → c < h1.objs.size := fun x c e => by
    have := (F1.C x c e).2.2.1
    cases q : h1.get? c with
    | none => exact absurd q this
    | some o => exact Heap.lt_size q
  clear F1
  have hL : (compEnvOf scope env h3.objs.size (closOf env scope.names [])).locals = h3.objs.size := rfl
  generalize hce : compEnvOf scope env h3.objs.size (closOf env scope.names []) = ce at *
  have g1none : ∀ a, h1.objs.size ≤ a → g1.get? a = none := fun a ha => by
    cases q : g1.get? a with
    | none => rfl
    | some o => exact absurd (Heap.lt_size (S1.sub _ _ q)) (Nat.not_lt.mpr ha)
  have r1none : ∀ a, h1.objs.size ≤ a → ¬ InR ρ1 a := fun a ha q => (S1.free _ q).2 (Heap.get?_none_of_le ha)
  have cne : ∀ x c, ce.cells.lookup x = some c → c ≠ h1.objs.size + 1 ∧ c ≠ h1.objs.size := fun x c hc => by
    rcases hcl x c hc with q | ⟨_, q⟩
    · rw [z3] at q
      exact ⟨Nat.ne_of_gt (Nat.lt_of_succ_lt q), Nat.ne_of_gt (Nat.lt_of_succ_lt (Nat.lt_of_succ_lt q))⟩
    · have := outlt x c q
      exact ⟨Nat.ne_of_lt (Nat.lt_succ_of_lt this), Nat.ne_of_lt this⟩
  have hL3 := hL.trans z3
  have hLD : ce.locals ≠ h1.objs.size + 1 := by rw [hL3]; exact Nat.ne_of_gt (Nat.lt_succ_self _)
  have hLi : ce.locals ≠ h1.objs.size := by rw [hL3]; exact Nat.ne_of_gt (Nat.lt_succ_of_lt (Nat.lt_succ_self _))
  have hDo : ¬ Own ce scope (h1.objs.size + 1) := by
    rintro (z | ⟨y, _, z⟩)
    · exact hLD z.symm
    · exact (cne y _ z).1 rfl
  have exFresh : ∀ a, ExD ce scope (h1.objs.size + 1) a → h1.objs.size ≤ a := fun a ha => by
    rcases ha with (z | ⟨y, hy, z⟩) | z
    · rw [z, hL3]; exact Nat.le_succ_of_le (Nat.le_succ _)
    · rcases hcl y a z with q | ⟨q, _⟩
      · rw [z3] at q; exact Nat.le_of_lt (Nat.lt_of_succ_lt (Nat.lt_of_succ_lt q))
      · exact absurd hy q
    · rw [z]; exact Nat.le_succ _
  clear hcl outlt
  refine compStart_ok (gens := g0 :: gs) (pos := pos) O Rm ⟨hDo, hLD, fun y c hc => (cne y c hc).1⟩ (g0 :: gs) 0 rfl _ _ _ _ _ _ g1 ρ1 ⟨h4, s.gens, s.drawn, tk1, s.os⟩ u _ g1 h1 ρ1 _ e2 S4 FC ⟨_, _, _, hD4, .nil, g1none _ (Nat.le_succ _), r1none _ (Nat.le_succ _)⟩ ⟨R1, hit4, g1none _ (Nat.le_refl _), r1none _ (Nat.le_refl _)⟩
    hLi (fun y c hc => (cne y c hc).2) (Nat.ne_of_gt (Nat.lt_succ_self _)) X4.own (size_none _) fun g5 ρ5 h5 tk5 S5 X5 F5 A5 => ?_
  obtain ⟨vs5, m5, as5, hD5, ra5, gD5, rD5⟩ := A5
  have X5' : Ext no g1 ρ1 h1 g5 ρ5 h5 := X5.weaken fun a ha hn => hn (Heap.get?_none_of_le (exFresh a ha))
  obtain ⟨g6, S6, e6, gs6, gne6⟩ := S5.freezeAt gD5 rD5 hD5
  have sD := noneOf (h1.objs.size + 1) (Nat.le_succ _)
  have X6 := (X1.trans X5').freezeAt sD gs6 gne6
  obtain ⟨m, n1, _⟩ := F5.vars
  rw [hL] at n1 hLD
  refine K g6 ρ5 h5 tk5 (h1.objs.size + 1) S6 X6 ⟨_, .list e6 rfl rfl (ReadsAll.keeps gs6 ra5)⟩ sD _ m n1 (noneOf _ (by rw [z3]; exact Nat.le_succ_of_le (Nat.le_succ _))) ?_ (hL ▸ F5.L.2.1)
  rw [gne6 _ hLD, ← hL]
  exact F5.L.1

section
variable {elt : Expr} {gens : List Comprehension} {scope : Scope} {p : Pos} {v : V}
inductive CompEI (L : Lv) (sc : Scope) (fr : Vars) (elt : Expr) (scope : Scope) (σ : Sto) (v : V) (σ' : Sto) : List Comprehension → Prop
  | mk (g0 : Comprehension) (gs : List Comprehension) (u : V) (σ₁ : Sto) (acc : List PyData) : okScope scope = true → okFree sc fr scope = true → L.e sc fr g0.iter σ = some (u, σ₁) → compAll L scope elt (g0 :: gs) (fr.filter fun p => scope.names.lookup p.1 == some .free) u σ₁ [] = some (acc, σ') → v = .d (.list acc) → CompEI L sc fr elt scope σ v σ' (g0 :: gs)
theorem compE_inv (e : compE L sc fr elt gens scope σ = some (v, σ')) : CompEI L sc fr elt scope σ v σ' gens := by
  cases gens with
  | nil => exact noneE' e
  | cons g0 gs =>
    have e : gd (okScope scope && okFree sc fr scope) (bd (L.e sc fr g0.iter σ) fun v σ => bd (compAll L scope elt (g0 :: gs) (fr.filter fun p => scope.names.lookup p.1 == some .free) v σ []) fun acc σ => some (V.d (.list acc), σ)) = some (v, σ') := e
    obtain ⟨hc, e⟩ := gd_inv e
    obtain ⟨u, σ₁, e1, e⟩ := bd_inv e
    obtain ⟨acc, σ₂, e2, e⟩ := bd_inv e
    have hc := Bool.and_eq_true_iff.mp hc
    exact some2 (P := fun v σ' => CompEI L sc fr elt scope σ v σ' (g0 :: gs)) e ⟨g0, gs, u, σ₁, acc, hc.1, hc.2, e1, e2, rfl⟩
theorem listComp_ok (O : OK prog w h₀ n L) (Rm : Room A n) {Q : Value → Shared → Prop} (e : compE L sc fr elt gens scope σ = some (v, σ')) (S : SR prog w h₀ g ρ σ s.heap) (F : FR g ρ env sc fr s.heap)
    (K : KV prog w h₀ g ρ s σ' v Q) : wpAny (model prog w) A (eval (.ListComp elt gens scope p) env) Q E s := by
  cases compE_inv e with
  | mk g0 gs u σ₁ acc hok hokf e1 e2 hv =>
    rw [arm_eval_ListComp]
    refine compr_ok O Rm hok hokf e1 e2 S F fun g' ρ' h' tk D S' X' R' sD C m n1 sC gC rC => ⟨m, n1, fun h'' hs => ?_⟩
    have k : ∀ b o, b ≠ C → h'.get? b = some o → h''.get? b = some o := fun b o hb e => (hs.2 b hb).trans e
    exact K g' ρ' h'' tk _ (S'.off k rC gC) (X'.off k sC) (hv ▸ R')
variable {x : Str} {xp lp : Pos} {Q : Flow → Shared → Prop}
theorem asgComp_ok (O : OK prog w h₀ n L) (Rm : Room A n) (hcx : canSet sc x = true) (e : compE L sc fr elt gens scope σ = some (v, σ')) (S : SR prog w h₀ g ρ σ s.heap) (F : FR g ρ env sc fr s.heap)
    (K : KX prog w h₀ env sc g ρ s σ' (putV fr x v) .next Q) : wpAny (model prog w) A (exec (.Assign [.Name x xp] (.ListComp elt gens scope lp) p) env) Q E s := by
  obtain ⟨b, hsw⟩ : ∃ b, swapsWith (.ListComp elt gens scope lp) (some (.Name x xp)) p.line env = pure b := ⟨_, rfl⟩
  cases compE_inv e with
  | mk g0 gs u σ₁ acc hok hokf e1 e2 hv =>
    cases b with
    | false =>
      refine wpAny_Assign_Name ?_ hsw
      rw [arm_eval_ListComp]
      refine compr_ok O Rm hok hokf e1 e2 S F fun g' ρ' h' tk D S' X' R' sD C m n1 sC gC rC => ⟨m, n1, fun h'' hs => ?_⟩
      have k : ∀ b o, b ≠ C → h'.get? b = some o → h''.get? b = some o := fun b o hb e => (hs.2 b hb).trans e
      have X2 := X'.off k sC
      exact bind_ok (s := ⟨h'', s.gens, s.drawn, tk, s.os⟩) (S'.off k rC gC) (F.extNo X2) hcx (hv ▸ R') fun h2 tk2 S2 X3 F2 _ => K _ _ _ _ _ S2 (X2.own.trans X3) F2 .next
    | true =>
      rw [exec_Assign_Name_used _ _ _ _ hsw]
      refine wpAny_bind (wpAny_standAt (wpAny_bind ?_))
      rw [arm_evalThenUse_ListComp]
      refine wpAny_bind (compr_ok O Rm hok hokf e1 e2 S F fun g' ρ' h' tk D S' X' R' sD C m n1 sC gC rC => ?_)
      have F' := F.extNo X'
      have hLC : env.locals ≠ C := fun z => F.L.2.2 (z ▸ sC)
      have hCC : ∀ y c, env.cells.lookup y = some c → c ≠ C := fun y c hc z => (F.C y c hc).2.2.1 (z ▸ sC)
      have hCo : ¬ Own env sc C := by
        rintro (z | ⟨y, _, z⟩)
        · exact hLC z.symm
        · exact hCC y C z rfl
      refine wpAny_assign_Name (bind_ok (s := ⟨h', s.gens, s.drawn, tk, s.os⟩) S' F' hcx (hv ▸ R') fun h2 tk2 S2 X3 F2 k2 => ⟨m, ns_at n1 fun o e => k2 _ _ hCo e, fun h3 hs => ?_⟩)
      have k : ∀ b o, b ≠ C → h2.get? b = some o → h3.get? b = some o := fun b o hb e => (hs.2 b hb).trans e
      exact wpAny_pure (wpAny_pure (K _ _ _ _ _ (S2.off k rC gC) ((X'.own.trans X3).off k sC) (F2.off k hLC hCC) .next))
theorem asgName_ok (O : OK prog w h₀ n L) (Rm : Room A n) {v : Expr} {fl : Fl} (e : xAsgN L sc fr x v σ = some ((fl, fr'), σ')) (S : SR prog w h₀ g ρ σ s.heap) (F : FR g ρ env sc fr s.heap)
    (K : KX prog w h₀ env sc g ρ s σ' fr' fl Q) : wpAny (model prog w) A (exec (.Assign [.Name x xp] v p) env) Q E s := by
  obtain ⟨hcx, e⟩ := gd_inv e
  obtain ⟨u, σ₁, e1, e⟩ := bd_inv e
  have K := K.of e
  clear e
  unfold asgV at e1
  cases q : isCompE v with
  | true =>
    rw [q] at e1
    obtain ⟨c, e2, e1⟩ := ob_inv e1
    obtain ⟨lp, hv⟩ := lcE_inv e2
    rw [hv]
    exact asgComp_ok O Rm hcx e1 S F K
  | false =>
    rw [q] at e1
    have hs : swapsWith v (some (.Name x xp)) p.line env = pure false := by
      cases v <;> first | rfl | exact nomatch q
    refine wpAny_Assign_Name (O.ev Rm e1 S F fun g' ρ' h' tk u S' X' R' => ?_) hs
    exact bind_ok (s := ⟨h', s.gens, s.drawn, tk, s.os⟩) S' (F.extNo X') hcx R' fun h2 tk2 S2 X2 F2 _ => K _ _ _ _ _ S2 (X'.own.trans X2) F2 .next
end
end
end Mine
namespace Mine
open PySem PySem.Calls PyProof.Rows PySem.W

theorem lookup_out' {α : Type} {r : List (Str × α)} {y : Str} (h : y ∉ r.map (·.1)) : r.lookup y = none := by
  cases q : r.lookup y with
  | none => rfl
  | some z => exact absurd (List.mem_map.mpr ⟨_, mem_of_lookup q, rfl⟩) h
theorem bindL_lookup {Kd : Str → Option NameKind} {binds : List (Str × Value)} {m : Str → Option Value} {x : Str} (hn : (binds.map (·.1)).Nodup) (hx : Kd x = some .local) : bindL Kd binds m x = (binds.lookup x).or (m x) := by
  induction binds generalizing m with
  | nil => rfl
  | cons a r ih =>
    obtain ⟨n, v⟩ := a
    rw [List.map_cons, List.nodup_cons] at hn
    unfold bindL
    rw [ih hn.2, List.lookup_cons]
    by_cases h : x = n
    · subst h
      rw [show r.lookup x = none from lookup_out' hn.1, if_pos hx, beq_self_eq_true]; simp
    · rw [beq_eq_false_iff_ne.mpr h]
      split
      · simp [h]
      · rfl
theorem bindC_lookup {Kd : Str → Option NameKind} {binds : List (Str × Value)} {m : Str → Option Value} {x : Str} (hn : (binds.map (·.1)).Nodup) (hx : Kd x ≠ some .local) : bindC Kd binds m x = (binds.lookup x).or (m x) := by
  induction binds generalizing m with
  | nil => rfl
  | cons a r ih =>
    obtain ⟨n, v⟩ := a
    rw [List.map_cons, List.nodup_cons] at hn
    unfold bindC
    rw [ih hn.2, List.lookup_cons]
    by_cases h : x = n
    · subst h
      rw [show r.lookup x = none from lookup_out' hn.1, if_neg hx, beq_self_eq_true]; simp
    · rw [beq_eq_false_iff_ne.mpr h]
      split
      · rfl
      · simp [h]

theorem zip_lookup {R : Value → V → Prop} {ps : List Str} {us : List Value} {vs : List V} {x : Str} {v : V} (h : All2 R us vs) (e : (ps.zip vs).lookup x = some v) : ∃ u, (ps.zip us).lookup x = some u ∧ R u v := by
  induction h generalizing ps with
  | nil => rw [List.zip_nil_right] at e; exact noneE' e
  | cons a _ ih =>
    cases ps with
    | nil => exact noneE' e
    | cons p ps =>
      rw [List.zip_cons_cons, List.lookup_cons] at e ⊢
      by_cases hx : (x == p) = true
      · rw [hx] at e ⊢; cases e; exact ⟨_, rfl, a⟩
      · have hx : (x == p) = false := by simpa using hx
        rw [hx] at e ⊢
        exact ih e

section
variable {prog : Program} {w : World} {A : Around} {E : Value → Shared → Prop} {s : Shared} {h₀ g g' : Heap} {ρ ρ' : List (Addr × Addr)} {σ σ' : Sto} {T : Tab} {n : Nat} {L : Lv} {sc : Scope} {fr fr' : Vars} {env : Env} {ex : Addr → Prop} {R : Result → Shared → Prop}

theorem Room.deeper (Rm : Room A (n + 1)) {e : Env} : Room (A.deeper e) n := by
  have h1 := Rm.handled; have h2 := Rm.depth; have h3 := Rm.units
  have e1 : (A.deeper e).depth = A.depth + 1 := rfl
  have e2 : (A.deeper e).units = A.units + 3 := rfl
  exact ⟨h1, by lia, by lia⟩

theorem c_step (B : Base prog w h₀ T) (O : OK prog w h₀ n L) : COK prog w h₀ (n + 1) (build T L) := by
  intro f args σ v σ' e A g ρ s us Q E Rm S r K
  obtain ⟨⟨ps, body, sc⟩, hf, e⟩ := ob_inv e
  obtain ⟨hlen, e⟩ := gd_inv e
  obtain ⟨⟨fl, fr1⟩, σ₁, e1, e⟩ := bd_inv e
  have hlen : ps.length = args.length := beq_iff_eq.mp hlen
  have K := K.of e
  clear e
  obtain ⟨o, fd, FA⟩ := B.fn _ _ _ _ hf
  have hul := r.length
  have old := S.old
  obtain ⟨hk, hnd⟩ := okScope_names FA.ok
  have hzf : ((ps.zip us).map (·.1)) = ps := zip_fst (by lia)
  have hbn : ((ps.zip us).map (·.1)).Nodup := by rw [hzf]; exact FA.nodup
  have hscope := FA.scope
  refine wpAny_call (codeAny_call_cells (o := o) (fd := fd) (body := body) (binds := ps.zip us) (by have := Rm.depth; lia) (old _ _ FA.get) FA.data (B.lim.keeps old) (FA.code.keeps old) FA.body (FA.bind us (by lia)) FA.closure
    (fun x hx => ?_) (fun s₁ I => ?_) (by rw [hscope]; exact FA.co) (by rw [hscope]; exact FA.gen) (by rw [hscope]; exact hk))
  · have hx' : x.1 ∈ ps := by rw [← hzf]; exact List.mem_map.mpr ⟨x, hx, rfl⟩
    rw [hscope]
    rcases FA.par _ hx' with q | q
    · exact .inl q
    · obtain ⟨c, hc⟩ := cellsFrom_some (n := s.heap.objs.size + 1) (mem_of_lookup q)
      exact .inr ⟨q, by rw [hc]; rfl⟩
  · obtain ⟨⟨⟨hh, tk, rfl⟩, ns, keep, _⟩, cell, apart, above⟩ := I
    have keep : ∀ b o, s.heap.get? b = some o → hh.get? b = some o := keep
    have cell : ∀ n c, (callEnvC fd s.heap.objs.size f).cells.lookup n = some c → hh.IsCell c _ := cell
    obtain ⟨S1, X1⟩ := S.grow keep
    have kind_eq : ∀ x, (callEnvC fd s.heap.objs.size f).kindOf x = sc.names.lookup x := fun x => by show fd.scope.names.lookup x = _; rw [hscope]
    have cells_eq : (callEnvC fd s.heap.objs.size f).cells = cellsFrom (s.heap.objs.size + 1) sc.names [] := by show cellsFrom _ fd.scope.names [] = _; rw [hscope]
    have loc_eq : (callEnvC fd s.heap.objs.size f).locals = s.heap.objs.size := rfl
    have fresh : ∀ a, s.heap.objs.size ≤ a → s.heap.get? a = none := fun a ha => Heap.get?_none_of_le ha
    have gfresh : ∀ a, s.heap.objs.size ≤ a → g.get? a = none := fun a ha => by
      cases q : g.get? a with
      | none => rfl
      | some o => have := S.sub _ _ q; rw [fresh a ha] at this; cases this
    have rfresh : ∀ a, s.heap.objs.size ≤ a → ¬ InR ρ a := fun a ha q => (S.free _ q).2 (fresh a ha)
    have clt : ∀ x c, (callEnvC fd s.heap.objs.size f).cells.lookup x = some c → s.heap.objs.size < c := fun x c hc => above x c (mem_of_lookup hc)
    have F1 : FR g ρ (callEnvC fd s.heap.objs.size f) sc (ps.zip args) hh := by
      refine ⟨by show fd.scope.kind = _; rw [hscope]; exact hk, FA.globals, FA.builtins, FA.ok, fun x hx => by rw [kind_eq]; exact hx, fun x hx => by rw [kind_eq]; exact hx, fun x hx => ?_, fun x hx => by rw [kind_eq]; exact .inr hx, ⟨_, ns, fun x v' e1 e2 => ?_⟩, fun x v' e1 e2 => ?_,
        ⟨gfresh _ (Nat.le_refl _), rfresh _ (Nat.le_refl _), ?_⟩, fun x c hc => ⟨gfresh _ (Nat.le_of_lt (clt x c hc)), rfresh _ (Nat.le_of_lt (clt x c hc)), ?_, Nat.ne_of_gt (clt x c hc)⟩, fun x y c h1 h2 => name_of_addr apart (mem_of_lookup h1) (mem_of_lookup h2)⟩
      · obtain ⟨c, hc⟩ := cellsFrom_some (n := s.heap.objs.size + 1) (mem_of_lookup hx)
        rw [← cells_eq] at hc
        exact ⟨by rw [kind_eq]; exact hx, c, _, hc, cell _ _ hc⟩
      · obtain ⟨u, h1, h2⟩ := zip_lookup r e1
        exact ⟨u, by rw [bindL_lookup hbn (by rw [kind_eq]; exact e2), h1]; rfl, h2⟩
      · obtain ⟨u, h1, h2⟩ := zip_lookup r e1
        have hxp : x ∈ ps := by
          have := mem_of_lookup h1
          rw [← hzf]; exact List.mem_map.mpr ⟨_, this, rfl⟩
        have hxc : sc.names.lookup x = some .cell := by
          rcases e2 with e2 | e2
          · exact e2
          · rcases FA.par x hxp with q | q <;> rw [e2] at q <;> cases q
        obtain ⟨c, hc⟩ := cellsFrom_some (n := s.heap.objs.size + 1) (mem_of_lookup hxc)
        rw [← cells_eq] at hc
        have := cell _ _ hc
        rw [bindC_lookup hbn (by rw [kind_eq, hxc]; simp), h1] at this
        exact ⟨c, u, hc, this, h2⟩
      · obtain ⟨o', es, ep, q, _⟩ := ns
        have q : hh.get? s.heap.objs.size = some o' := q
        show hh.get? s.heap.objs.size ≠ none
        rw [q]; exact Option.some_ne_none _
      · obtain ⟨o', q, _⟩ := cell _ _ hc
        rw [q]; exact Option.some_ne_none _
    have ownFresh : ∀ a, Own (callEnvC fd s.heap.objs.size f) sc a → s.heap.get? a = none := fun a ha => by
      rcases ha with z | ⟨x, _, z⟩
      · exact fresh a (by rw [z]; exact Nat.le_refl _)
      · exact fresh a (Nat.le_of_lt (clt x a z))
    have fin : ∀ g' ρ' h', Ext (Own (callEnvC fd s.heap.objs.size f) sc) g ρ hh g' ρ' h' → Ext no g ρ s.heap g' ρ' h' := fun g' ρ' h' X => (X1.own.trans X).weaken fun a ha hn => hn (ownFresh a ha)
    refine seqS_ok O Rm.deeper _ e1 (s := ⟨hh, s.gens, s.drawn, tk, s.os⟩) S1 F1 fun g' ρ' h' tk' f' S' X' F' R' => ?_
    cases R' with
    | next => exact K _ _ _ _ _ S' (fin _ _ _ X') ⟨_, .none⟩
    | ret R' => exact K _ _ _ _ _ S' (fin _ _ _ X') R'

theorem e_step (B : Base prog w h₀ T) (O : OK prog w h₀ n L) : EOK prog w h₀ (n + 1) (build T L) := by
  intro sc fr x σ v σ' e A env g ρ s Q E Rm S F K
  cases x
  case Constant => exact const_ok e S K
  case Name => exact eName_ok B e S F K
  case BoolOp =>
    obtain ⟨p, h, e⟩ := ob_inv e
    rw [twoOf_inv h]
    exact boolop_ok O Rm.pred e S F K
  case BinOp => exact bin_ok O Rm.pred e S F K
  case UnaryOp op _ _ =>
    cases op
    case Not => exact not_ok O Rm.pred e S F K
    all_goals exact noneE' e
  case IfExp => exact ifexp_ok O Rm.pred e S F K
  case Dict => exact dict_ok B O Rm.pred e S F K
  case List xs _ =>
    cases xs with
    | nil => exact nil_ok e S K
    | cons x r => exact list_ok O Rm.pred e S F K
  case Tuple => exact tuple_ok O Rm.pred e S F K
  case ListComp => exact listComp_ok O Rm.pred e S F K
  case Attribute => exact attr_ok B O Rm.pred e S F K
  case Subscript => exact sub_ok O Rm.pred e S F K
  case JoinedStr => exact joined_ok O Rm.pred e S F K
  case Compare =>
    obtain ⟨op, h1, e⟩ := ob_inv e
    obtain ⟨r, h2, e⟩ := ob_inv e
    rw [oneOf_inv h1, oneOf_inv h2]
    exact cmp1_ok O Rm.pred e S F K
  case Call => exact call_ok B O Rm e S F K
  all_goals exact noneE' e

theorem asg_ok (B : Base prog w h₀ T) (O : OK prog w h₀ n L) (Rm : Room A n) {t v : Expr} {p : Pos} {fl : Fl} {Q : Flow → Shared → Prop} (e : xAsg T L sc fr t v σ = some ((fl, fr'), σ')) (S : SR prog w h₀ g ρ σ s.heap) (F : FR g ρ env sc fr s.heap)
    (K : KX prog w h₀ env sc g ρ s σ' fr' fl Q) : wpAny (model prog w) A (exec (.Assign [t] v p) env) Q E s := by
  cases t
  case Name => exact asgName_ok O Rm e S F K
  case Attribute => exact asgAttr_ok B O Rm e S F K
  case Subscript => exact asgSub_ok O Rm e S F K
  case Tuple => exact asgT_ok O Rm e S F K
  all_goals exact noneE' e
theorem forT_ok (O : OK prog w h₀ n L) (Rm : Room A n) {ts : List Expr} {it : Expr} {k : Nat} {tp p : Pos} {b : List Stmt} {fl : Fl} {Q : Flow → Shared → Prop} (e : forT L sc ts it b fr σ = some ((fl, fr'), σ')) (S : SR prog w h₀ g ρ σ s.heap) (F : FR g ρ env sc fr s.heap)
    (K : KX prog w h₀ env sc g ρ s σ' fr' fl Q) : wpAny (model prog w) A (exec (.For (.Tuple ts k tp) it b [] p) env) Q E s := by
  obtain ⟨⟨t1, t2⟩, h1, e⟩ := ob_inv e
  obtain ⟨x, h2, e⟩ := ob_inv e
  obtain ⟨y, h3, e⟩ := ob_inv e
  obtain ⟨⟨f, args, kws⟩, h4, e⟩ := ob_inv e
  obtain ⟨hc, e⟩ := gd_inv e
  obtain ⟨⟨a1, a2⟩, h5, e⟩ := ob_inv e
  obtain ⟨p2, q2⟩ := nameE_inv h2
  obtain ⟨p3, q3⟩ := nameE_inv h3
  obtain ⟨p4, q4⟩ := callE_inv h4
  have hc := Bool.and_eq_true_iff.mp hc
  obtain ⟨z, hz⟩ := Option.isSome_iff_exists.mp hc.1
  obtain ⟨p5, q5⟩ := nameE_inv hz
  rw [twoOf_inv h1, show t1 = _ from q2, show t2 = _ from q3, q4, show kws = _ from List.isEmpty_iff.mp hc.2, show args = _ from twoOf_inv h5, show f = _ from q5]
  rw [show f = _ from q5] at e
  exact forZ_ok O Rm e S F K
theorem x_step (B : Base prog w h₀ T) (O : OK prog w h₀ n L) : XOK prog w h₀ (n + 1) (build T L) := by
  intro sc x fr σ fl fr' σ' e A env g ρ s Q E Rm S F K
  have Rm := Rm.pred
  cases x
  case Expr => exact expr_ok O Rm e S F K
  case Return => exact ret_ok O Rm e S F K
  case If => exact if_ok O Rm e S F K
  case While => exact while_ok O Rm e S F K
  case Assign =>
    obtain ⟨t, h, e⟩ := ob_inv e
    rw [oneOf_inv h]
    exact asg_ok B O Rm e S F K
  case For =>
    obtain ⟨h, e⟩ := gd_inv e
    rw [List.isEmpty_iff.mp h]
    rcases orr_inv e with e | e
    · obtain ⟨x, h, e⟩ := ob_inv e
      obtain ⟨p, hp⟩ := nameE_inv h
      rw [hp]
      exact for_ok O Rm e S F K
    · obtain ⟨ts, h, e⟩ := ob_inv e
      obtain ⟨k, p, hp⟩ := tupE_inv h
      rw [hp]
      exact forT_ok O Rm e S F K
  all_goals exact noneE' e

theorem level_ok (B : Base prog w h₀ T) (n : Nat) : OK prog w h₀ n (level T n) := by
  induction n with
  | zero => exact ⟨fun _ _ _ _ _ _ e => noneE' e, fun _ _ _ _ _ _ e => noneE' e, fun _ _ _ _ _ _ _ e => noneE' e, fun _ _ _ _ _ e => noneE' e⟩
  | succ n ih => exact ⟨e_step B ih, t_step ih, x_step B ih, c_step B ih⟩
end
end Mine
namespace Mine
open PySem PySem.Calls PyProof.Rows PySem.W

/-! the text's defs and classes, by the addresses at which they stand -/
noncomputable def stmtAt (i : Nat) : Stmt := (PySem.Challenge.pw_rr0083_01.main.body[i]?).getD (.Pass ⟨0,0,0,0⟩)
abbrev Src := Arguments × List Stmt × Scope
noncomputable def defSrc : Stmt → Option Src
  | .FunctionDef _ a b _ _ _ sc _ _ _ => some (a, b, sc)
  | _ => none
noncomputable def methSrc (i : Nat) (name : Str) : Option Src := match stmtAt i with
  | .ClassDef _ _ _ b _ _ _ _ _ _ _ => (b.find? fun s => match s with | .FunctionDef n .. => n == name | _ => false).bind defSrc
  | _ => none
noncomputable def srcOf : Nat × Option String → Option Src
  | (i, none) => defSrc (stmtAt i)
  | (i, some m) => methSrc i (Str.ofString m)
noncomputable def fnL : List (Nat × (Nat × Option String)) := [(79, 6, none), (86, 7, none), (299, 15, none), (306, 16, none), (313, 17, none), (320, 18, none), (327, 19, none), (334, 20, none), (339, 21, none), (344, 22, none), (349, 23, none), (354, 24, none),
  (100, 9, some "__init__"), (107, 9, some "size"), (156, 10, some "__init__"), (163, 10, some "add"), (170, 10, some "want_set"), (184, 10, some "bound"), (191, 10, some "size"),
  (231, 13, some "__init__"), (238, 13, some "free_name"), (245, 13, some "relation_at"), (259, 13, some "after"), (266, 13, some "line_from"), (273, 13, some "spend"), (278, 13, some "told"), (285, 13, some "told_until")]
noncomputable def globL : List (String × Value) := [("_law_next", .ref 299), ("_law_set", .ref 306), ("_law_claim", .ref 313), ("_law_walk", .ref 320), ("_law_until", .ref 327), ("_law_has", .ref 334),
  ("_law_holds", .ref 339), ("_law_plain", .ref 344), ("_law_is_shaped", .ref 349), ("law", .ref 354), ("Bounds", .ref 215), ("Universe", .ref 138), ("Unroller", .ref 288), ("is_within", .ref 86), ("minus", .ref 79)]
noncomputable def bltL : List (String × Value) := [("len", .builtin "len"), ("abs", .builtin "abs"), ("isinstance", .builtin "isinstance"),
  ("range", .type "range"), ("tuple", .type "tuple"), ("list", .type "list"), ("dict", .type "dict"), ("int", .type "int"), ("bool", .type "bool"), ("zip", .type "zip")]
structure ClsT where
  init : Nat
  meths : List (String × Nat)
  attrs : List String
noncomputable def clsL : List (Nat × ClsT) := [(138, ⟨100, [("size", 107)], ["names", "numbers"]⟩),
  (215, ⟨156, [("add", 163), ("want_set", 170), ("bound", 184), ("size", 191)], ["universe", "bounds", "numbers"]⟩),
  (288, ⟨231, [("free_name", 238), ("relation_at", 245), ("after", 259), ("line_from", 266), ("spend", 273), ("told", 278), ("told_until", 285)], ["steps", "loop", "many", "bounds", "places"]⟩)]
noncomputable def keyed {α : Type} (l : List (String × α)) : List (Str × α) := l.map fun p => (Str.ofString p.1, p.2)
noncomputable def theTab : Tab where
  glob x := ((keyed globL ++ keyed bltL).lookup x).map .val |>.or (if x == Str.ofString "MOST_TOLD" then some (.d (.int 200000)) else none)
  fn a := ((fnL.lookup a).bind srcOf).map fun s => (s.1.args.map (·.arg), s.2.1, s.2.2)
  init c := (clsL.lookup c).map (·.init)
  meth c n := (clsL.lookup c).bind fun k => (keyed k.meths).lookup n
  attr c n := ((clsL.lookup c).map fun k => (k.attrs.map Str.ofString).contains n).getD false

/-! what is looked at -/
noncomputable def fnObs (h : Heap) (a : Nat) : Option (Value × Arguments × FuncBody × Scope × Addr × Addr × List (Str × Addr) × Value × Bool) :=
  match h.get? a with
  | some o => match o.data with
    | .func fd => some (o.cls, fd.params, fd.body, fd.scope, fd.globals, fd.builtins, fd.closure, fd.defaults, match fd.code with
        | .ref c => match h.get? c with
          | some oc => match oc.data with
            | .fields (vs : Array Value) => match vs[1]? with
              | some (Value.str q _) => q == fd.qualname
              | _ => false
            | _ => false
          | none => false
        | _ => false)
    | _ => none
  | none => none
noncomputable def fnWant (s : Option Src) : Option (Value × Arguments × FuncBody × Scope × Addr × Addr × List (Str × Addr) × Value × Bool) :=
  s.map fun s => (.type "function", s.1, .stmts s.2.1, s.2.2, mainGlobals, builtinsNs, [], .none, true)
noncomputable def clsNames (k : ClsT) : List Str := (["__getattribute__", "__getattr__", "__setattr__", "__init__"] ++ k.attrs ++ k.meths.map (·.1)).map Str.ofString
noncomputable def clsObs (h : Heap) (c : Nat) (k : ClsT) : Option (Value × List Value × Bool × Bool × Bool × Nat × Option (Option Value) × Bool × List (Option Value)) :=
  match h.get? c with
  | some o => match o.data with
    | .cls cd => some (o.cls, cd.mro, cd.hasDict, cd.abstract, cd.hasDel, o.slots.size, o.slots[4]?, h.isNs cd.ns, (clsNames k).map (h.nsMap cd.ns))
    | _ => none
  | none => none
noncomputable def clsWant (c : Nat) (k : ClsT) : Option (Value × List Value × Bool × Bool × Bool × Nat × Option (Option Value) × Bool × List (Option Value)) :=
  some (.type "type", [.ref c, .type "object"], true, false, false, 6, some (some (.builtin "object.__new__")), true, [none, none, none, some (.ref k.init)] ++ k.attrs.map (fun _ => none) ++ k.meths.map fun p => some (.ref p.2))
noncomputable def isNum (i : Int) : Option Value → Bool
  | some (.int j _) => i == j
  | _ => false
noncomputable def allObs (h : Heap) := (fnL.map fun p => fnObs h p.1, clsL.map fun p => clsObs h p.1 p.2, h.isNs mainGlobals, h.isNs builtinsNs, (keyed globL).map fun p => h.nsMap mainGlobals p.1, (keyed bltL).map fun p => (h.nsMap mainGlobals p.1, h.nsMap builtinsNs p.1),
  isNum 200000 (h.nsMap mainGlobals (Str.ofString "MOST_TOLD")), h.isNs cStatics && (h.nsMap cStatics (Str.ofString "sys.recursionlimit")).isNone)
noncomputable def allWant := (fnL.map fun p => fnWant (srcOf p.2), clsL.map fun p => clsWant p.1 p.2, true, true, (keyed globL).map fun p => some p.2, (keyed bltL).map fun p => ((none : Option Value), some p.2), true, true)
end Mine
set_option maxHeartbeats 0
namespace Mine
open PySem PySem.Calls PyProof.Rows PySem.W
noncomputable def qv : Program := view PySem.Challenge.pw_rr0083_01 [24]
noncomputable def lo : List Str := ["_wall", "FinderError", "BoundFault", "LimitFault", "minus", "is_within", "Universe", "Bounds", "MOST_TOLD", "Unroller", "_law_next", "_law_set", "_law_claim", "_law_walk", "_law_until", "_law_has", "_law_holds", "_law_plain", "_law_is_shaped"].map Str.ofString
theorem left0 : LeftO PySem.Challenge.pw_rr0083_01 qv lo (fun s => xlAt qv [] s && recOk [] s) (fun s => allObs s.heap) (fun _ => allWant) 5102 := by
  intro w
  unfold openEnds fencedOpening topFrom
  rw [PySem.W.Fast.te14364793385576792824, PySem.W.Fast.te10274390034422433532, PySem.W.Fast.te14289696077712309145, PySem.W.Fast.te4187177175401517315, PySem.W.Fast.te14082659384304107361, PySem.W.Fast.te1435165496053646825, PySem.W.Fast.te8920871248978507458]
  kernel_rfl
end Mine
namespace Mine
open PySem PySem.Calls PyProof.Rows PySem.W

theorem lookups_all {ps : List Str} {vs : List Value} (h : ps.length = vs.length) {x : Str} (hx : x ∈ ps) : ((ps.zip vs).lookup x).isSome = true := by
  induction ps generalizing vs with
  | nil => exact nomatch hx
  | cons p ps ih =>
    cases vs with
    | nil => exact nomatch h
    | cons v vs =>
      rw [List.zip_cons_cons, List.lookup_cons]
      by_cases e : x = p
      · rw [beq_iff_eq.mpr e]; rfl
      · rw [beq_eq_false_iff_ne.mpr e]
        exact ih (Nat.succ.inj h) ((List.mem_cons.mp hx).resolve_left e)
theorem filterMap_zip {ps : List Str} {vs : List Value} (h : ps.length = vs.length) (hn : ps.Nodup) (m : List (Str × Value)) (hm : ∀ p ∈ ps.zip vs, m.lookup p.1 = some p.2) : (ps.filterMap fun n => (m.lookup n).map (n, ·)) = ps.zip vs := by
  induction ps generalizing vs with
  | nil => cases vs with
    | nil => rfl
    | cons _ _ => exact nomatch h
  | cons p ps ih =>
    cases vs with
    | nil => exact nomatch h
    | cons v vs =>
      rw [List.nodup_cons] at hn
      rw [List.zip_cons_cons, List.filterMap_cons, hm (p, v) (.head _)]
      exact congrArg ((p, v) :: ·) (ih (Nat.succ.inj h) hn.2 fun q hq => hm q (.tail _ hq))
theorem zip_self_lookup : ∀ {ps : List Str} {vs : List Value} (_ : ps.length = vs.length) (_ : ps.Nodup) {p : Str × Value}, p ∈ ps.zip vs → (ps.zip vs).lookup p.1 = some p.2 := fun h hn p hp =>
  lookup_mem (by rw [zip_fst h]; exact hn) hp

theorem forIn_none {α β γ : Type} {l : List α} {b : β} {f : α → β → Sem (ForInStep β)} {k : β → Sem γ} {r : Sem γ} (h : l = []) (hk : k b = r) : (forIn l b f >>= k) = r := by subst h; exact hk
theorem bif_neg {α : Type} {c : Bool} {A B r : Sem α} (hc : c = false) (h : B = r) : (if c = true then A else B) = r := by subst hc; exact h
theorem bind_plain {fd : FuncData} (h1 : fd.params.posonlyargs = []) (h2 : fd.params.vararg = none) (h3 : fd.params.kwonlyargs = []) (h4 : fd.params.kwarg = none) (h5 : fd.defaults = .none) {ps : List Str} (hps : fd.params.args.map (·.arg) = ps) (hn : ps.Nodup) (vals : List Value) (hl : vals.length = ps.length) :
    bindArgs fd ⟨vals, []⟩ = pure (ps.zip vals) := by
  obtain ⟨_, qn, ⟨po, as, va, ko, kd, ka, ds⟩, _, _, _, _, df, _, _, _, _, _, _, _⟩ := fd
  cases h1; cases h2; cases h3; cases h4; cases h5
  have hps : as.map (·.arg) = ps := hps
  subst hps
  have hall : (((as.map (·.arg)).take ((as.map (·.arg)).length - 0)).filter fun n => (List.lookup n ((as.map (·.arg)).zip vals)).isNone) = [] := by
    rw [Nat.sub_zero, List.take_length, List.filter_eq_nil_iff]
    intro x hx
    have := lookups_all hl.symm hx
    cases q : ((as.map (·.arg)).zip vals).lookup x with
    | none => rw [q] at this; cases this
    | some z => exact Bool.false_ne_true
  have hfm := filterMap_zip hl.symm hn ((as.map (·.arg)).zip vals) fun p hp => zip_self_lookup hl.symm hn hp
  have hg : decide (vals.length > (as.map (·.arg)).length) = false := by rw [hl]; exact decide_eq_false (Nat.lt_irrefl _)
  clear hn
  unfold bindArgs
  refine bif_neg ?_ (bif_neg ?_ (forIn_none ?_ ?_))
  · show (decide (vals.length > (as.map (·.arg)).length) && true) = false
    rw [hg]; rfl
  · show (!(((as.map (·.arg)).take ((as.map (·.arg)).length - (List.drop (0 - (as.map (·.arg)).length) ([] : List Value)).length)).filter fun n => (List.lookup n ((as.map (·.arg)).zip vals)).isNone).isEmpty) = false
    rw [List.drop_nil]
    exact congrArg (fun l : List Str => !l.isEmpty) hall
  · show List.zip _ (List.drop (0 - (as.map (·.arg)).length) ([] : List Value)) = []
    rw [List.drop_nil, List.zip_nil_right]
  · show (pure (((as.map fun a : Arg => a.arg) ++ []).filterMap fun n => (((as.map fun a : Arg => a.arg).zip vals).lookup n).map (n, ·)) : Sem _) = _
    rw [List.append_nil, hfm]

noncomputable def fnOk (s : Src) : Bool := okScope s.2.2 && !s.2.2.isCoroutine && !s.2.2.isGenerator && s.1.posonlyargs.isEmpty && s.1.vararg.isNone && s.1.kwonlyargs.isEmpty && s.1.kwarg.isNone &&
  (s.1.args.all fun a => s.2.2.names.lookup a.arg == some .local || s.2.2.names.lookup a.arg == some .cell) && decide ((s.1.args.map (·.arg)).Nodup)
theorem fns_ok : (fnL.all fun p => match srcOf p.2 with | some s => fnOk s | none => false) = true := by kernel_rfl

theorem fn_at {h : Heap} {a : Nat} {i : Nat × Option String} (e : fnObs h a = fnWant (srcOf i)) (ok : (match srcOf i with | some s => fnOk s | none => false) = true) : ∃ s o fd, srcOf i = some s ∧ FnAt h a (s.1.args.map (·.arg)) s.2.1 s.2.2 o fd := by
  cases hs : srcOf i with
  | none => rw [hs] at ok; cases ok
  | some s =>
    rw [hs] at ok e
    have ok : fnOk s = true := ok
    unfold fnOk at ok
    simp only [Bool.and_eq_true, decide_eq_true_eq, Bool.not_eq_true', List.isEmpty_iff, Option.isNone_iff_eq_none] at ok
    obtain ⟨⟨⟨⟨⟨⟨⟨⟨o1, o2⟩, o3⟩, o4⟩, o5⟩, o6⟩, o7⟩, o8⟩, o9⟩ := ok
    unfold fnObs fnWant at e
    split at e
    · rename_i o ho
      split at e
      · rename_i fd hd
        simp only [Option.map_some, Option.some.injEq, Prod.mk.injEq] at e
        obtain ⟨e1, e2, e3, e4, e5, e6, e7, e8, e9⟩ := e
        refine ⟨s, o, fd, rfl, ⟨ho, e1, hd, e3, e4, e5, e6, e7, ?_, o1, o2, o3, fun vals hl => ?_, fun x hx => ?_, o9⟩⟩
        · split at e9
          · rename_i c hc
            split at e9
            · rename_i oc hoc
              split at e9
              · rename_i vs hvs
                split at e9
                · rename_i q t hq
                  exact ⟨c, oc, vs, t, hc, hoc, hvs, by rw [hq, beq_iff_eq.mp e9]⟩
                · cases e9
              · cases e9
            · cases e9
          · cases e9
        · exact bind_plain (by rw [e2]; exact o4) (by rw [e2]; exact o5) (by rw [e2]; exact o6) (by rw [e2]; exact o7) e8 (by rw [e2]) o9 vals hl
        · obtain ⟨ar, har, rfl⟩ := List.mem_map.mp hx
          have := List.all_eq_true.mp o8 ar har
          simpa using this
      · cases e
    · cases e

theorem map_eq_all {α β : Type} {f g : α → β} {l : List α} (h : l.map f = l.map g) (b : α) (hb : b ∈ l) : f b = g b := by
  induction l with
  | nil => exact nomatch hb
  | cons a l ih =>
    obtain ⟨h1, h2⟩ := List.cons.inj h
    rcases List.mem_cons.mp hb with rfl | hb
    · exact h1
    · exact ih h2 hb

theorem lookup_mem_nat {α : Type} {l : List (Nat × α)} {a : Nat} {x : α} (h : l.lookup a = some x) : (a, x) ∈ l := by
  induction l with
  | nil => exact noneE' h
  | cons p r ih =>
    rw [List.lookup_cons] at h
    by_cases e : a = p.1
    · rw [beq_iff_eq.mpr e] at h; cases h; rw [e]; exact .head _
    · rw [beq_eq_false_iff_ne.mpr e] at h; exact .tail _ (ih h)
theorem six {α : Type} {l : List α} (h : l.length = 6) : ∃ a b c d e f, l = [a, b, c, d, e, f] := by
  have cut : ∀ {n : Nat} {l : List α}, l.length = n + 1 → ∃ a r, l = a :: r ∧ r.length = n := fun {n l} h => by
    cases l with
    | nil => exact nomatch h
    | cons a r => exact ⟨a, r, rfl, Nat.succ.inj h⟩
  obtain ⟨a, l1, rfl, h1⟩ := cut h
  obtain ⟨b, l2, rfl, h2⟩ := cut h1
  obtain ⟨c, l3, rfl, h3⟩ := cut h2
  obtain ⟨d, l4, rfl, h4⟩ := cut h3
  obtain ⟨e, l5, rfl, h5⟩ := cut h4
  obtain ⟨f, l6, rfl, h6⟩ := cut h5
  cases List.length_eq_zero_iff.mp h6
  exact ⟨a, b, c, d, e, f, rfl⟩

theorem cls_at {h : Heap} {c : Nat} {k : ClsT} (e : clsObs h c k = clsWant c k) : ∃ N, ClsAt h c N (h.nsMap N) ∧ (clsNames k).map (h.nsMap N) = [none, none, none, some (.ref k.init)] ++ k.attrs.map (fun _ => none) ++ k.meths.map fun p => some (.ref p.2) := by
  unfold clsObs clsWant at e
  split at e
  · rename_i o ho
    split at e
    · rename_i cd hd
      simp only [Option.some.injEq, Prod.mk.injEq] at e
      obtain ⟨e1, e2, e3, e4, e5, e6, e7, e8, e9⟩ := e
      obtain ⟨cls, dd, data, sl⟩ := o
      simp only at e1 hd e6 e7
      subst e1 hd
      obtain ⟨nm, bs, mro, ns, q, hdct, sn, sub, ab, col, del⟩ := cd
      simp only at e2 e3 e4 e5 e8 e9
      subst e2 e3 e4 e5
      obtain ⟨sl⟩ := sl
      refine ⟨ns, ⟨?_, .of_isNs e8⟩, e9⟩
      obtain ⟨k0, k1, k2, k3, k4, k5, rfl⟩ := six e6
      cases e7
      exact ⟨nm, q, bs, sn, sub, col, dd, k0, k1, k2, k3, k5, ho⟩
    · cases e
  · cases e

theorem cls_names {f : Str → Option Value} {k : ClsT} (e : (clsNames k).map f = [none, none, none, some (.ref k.init)] ++ k.attrs.map (fun _ => none) ++ k.meths.map fun p => some (.ref p.2)) :
    f "__getattribute__" = none ∧ f "__getattr__" = none ∧ f "__setattr__" = none ∧ f "__init__" = some (.ref k.init) ∧ (∀ a ∈ k.attrs, f (Str.ofString a) = none) ∧ ∀ p ∈ k.meths, f (Str.ofString p.1) = some (.ref p.2) := by
  unfold clsNames at e
  rw [List.map_append, List.map_append, List.map_append, List.map_append] at e
  obtain ⟨e1, e3⟩ := List.append_inj e (by simp)
  obtain ⟨e1, e2⟩ := List.append_inj e1 (by simp)
  simp only [List.map_cons, List.map_nil, List.cons.injEq, and_true] at e1
  refine ⟨e1.1, e1.2.1, e1.2.2.1, e1.2.2.2, fun a ha => ?_, fun p hp => ?_⟩
  · rw [List.map_map] at e2
    exact map_eq_all e2 a ha
  · rw [List.map_map, List.map_map] at e3
    exact map_eq_all e3 p hp

theorem lko_names : typeLookup (.type "object") (Str.ofString "names") = pure none := by rw [typeLookup_type, builtinLookup_eq_fast]; kernel_rfl
theorem lk_numbers : typeLookup (.type "object") (Str.ofString "numbers") = pure none := by rw [typeLookup_type, builtinLookup_eq_fast]; kernel_rfl
theorem lk_universe : typeLookup (.type "object") (Str.ofString "universe") = pure none := by rw [typeLookup_type, builtinLookup_eq_fast]; kernel_rfl
theorem lk_bounds : typeLookup (.type "object") (Str.ofString "bounds") = pure none := by rw [typeLookup_type, builtinLookup_eq_fast]; kernel_rfl
theorem lk_steps : typeLookup (.type "object") (Str.ofString "steps") = pure none := by rw [typeLookup_type, builtinLookup_eq_fast]; kernel_rfl
theorem lk_loop : typeLookup (.type "object") (Str.ofString "loop") = pure none := by rw [typeLookup_type, builtinLookup_eq_fast]; kernel_rfl
theorem lk_many : typeLookup (.type "object") (Str.ofString "many") = pure none := by rw [typeLookup_type, builtinLookup_eq_fast]; kernel_rfl
theorem lk_places : typeLookup (.type "object") (Str.ofString "places") = pure none := by rw [typeLookup_type, builtinLookup_eq_fast]; kernel_rfl
theorem lk_size : typeLookup (.type "object") (Str.ofString "size") = pure none := by rw [typeLookup_type, builtinLookup_eq_fast]; kernel_rfl
theorem lk_add : typeLookup (.type "object") (Str.ofString "add") = pure none := by rw [typeLookup_type, builtinLookup_eq_fast]; kernel_rfl
theorem lk_want_set : typeLookup (.type "object") (Str.ofString "want_set") = pure none := by rw [typeLookup_type, builtinLookup_eq_fast]; kernel_rfl
theorem lk_bound : typeLookup (.type "object") (Str.ofString "bound") = pure none := by rw [typeLookup_type, builtinLookup_eq_fast]; kernel_rfl
theorem lk_free_name : typeLookup (.type "object") (Str.ofString "free_name") = pure none := by rw [typeLookup_type, builtinLookup_eq_fast]; kernel_rfl
theorem lk_relation_at : typeLookup (.type "object") (Str.ofString "relation_at") = pure none := by rw [typeLookup_type, builtinLookup_eq_fast]; kernel_rfl
theorem lk_after : typeLookup (.type "object") (Str.ofString "after") = pure none := by rw [typeLookup_type, builtinLookup_eq_fast]; kernel_rfl
theorem lk_line_from : typeLookup (.type "object") (Str.ofString "line_from") = pure none := by rw [typeLookup_type, builtinLookup_eq_fast]; kernel_rfl
theorem lk_spend : typeLookup (.type "object") (Str.ofString "spend") = pure none := by rw [typeLookup_type, builtinLookup_eq_fast]; kernel_rfl
theorem lk_told : typeLookup (.type "object") (Str.ofString "told") = pure none := by rw [typeLookup_type, builtinLookup_eq_fast]; kernel_rfl
theorem lk_told_until : typeLookup (.type "object") (Str.ofString "told_until") = pure none := by rw [typeLookup_type, builtinLookup_eq_fast]; kernel_rfl

noncomputable def ownNames : List String := ["names", "numbers", "universe", "bounds", "steps", "loop", "many", "places", "size", "add", "want_set", "bound", "free_name", "relation_at", "after", "line_from", "spend", "told", "told_until"]
theorem all_cons {P : String → Prop} {a : String} {l : List String} (h : P a) (r : ∀ b ∈ l, P b) : ∀ b ∈ a :: l, P b := fun b hb => (List.mem_cons.mp hb).elim (fun z => z ▸ h) (r b)
noncomputable def Lk (a : String) : Prop := typeLookup (.type "object") (Str.ofString a) = pure none
theorem lk_own : ∀ a ∈ ownNames, Lk a :=
  all_cons lko_names <| all_cons lk_numbers <| all_cons lk_universe <| all_cons lk_bounds <| all_cons lk_steps <| all_cons lk_loop <| all_cons lk_many <| all_cons lk_places <| all_cons lk_size <| all_cons lk_add <| all_cons lk_want_set <|
  all_cons lk_bound <| all_cons lk_free_name <| all_cons lk_relation_at <| all_cons lk_after <| all_cons lk_line_from <| all_cons lk_spend <| all_cons lk_told <| all_cons lk_told_until fun _ h => nomatch h
theorem own_all : (clsL.all fun p => p.2.attrs.all (fun a => ownNames.contains a) && p.2.meths.all (fun a => ownNames.contains a.1)) = true := by decide +kernel

theorem keyed_mem {α : Type} {l : List (String × α)} {x : Str} {v : α} (h : (keyed l).lookup x = some v) : ∃ p ∈ l, Str.ofString p.1 = x ∧ p.2 = v := by
  have := mem_of_lookup h
  obtain ⟨p, hp, e⟩ := List.mem_map.mp this
  injection e with e1 e2
  exact ⟨p, hp, e1, e2⟩

theorem base_of {prog : Program} {w : World} {h : Heap} (e : allObs h = allWant) : Base prog w h theTab := by
  unfold allObs allWant at e
  simp only [Prod.mk.injEq] at e
  obtain ⟨e1, e2, e3, e4, e5, e6, e7, e8⟩ := e
  have efn := map_eq_all e1
  have ecl := map_eq_all e2
  have egl : ∀ p ∈ globL, h.nsMap mainGlobals (Str.ofString p.1) = some p.2 := fun p hp => map_eq_all e5 _ (List.mem_map.mpr ⟨p, hp, rfl⟩)
  have ebl : ∀ p ∈ bltL, (h.nsMap mainGlobals (Str.ofString p.1), h.nsMap builtinsNs (Str.ofString p.1)) = ((none : Option Value), some p.2) := fun p hp => map_eq_all e6 _ (List.mem_map.mpr ⟨p, hp, rfl⟩)
  have hfn := List.all_eq_true.mp fns_ok
  have hown := List.all_eq_true.mp own_all
  have clsOf : ∀ c k, clsL.lookup c = some k → (c, k) ∈ clsL := fun c k q => lookup_mem_nat q
  refine ⟨⟨h.nsMap mainGlobals, h.nsMap builtinsNs, .of_isNs e3, .of_isNs e4, fun x v hv => ?_⟩, ?_, fun a ps body sc hf => ?_, fun c hc => ?_, fun c n hn => ?_, fun c n f hf => ?_, ?_⟩
  · simp only [theTab] at hv
    cases q : (keyed globL ++ keyed bltL).lookup x with
    | some u =>
      rw [q] at hv
      have hv : some (V.val u) = some v := hv
      cases hv
      rw [List.lookup_append] at q
      cases q1 : (keyed globL).lookup x with
      | some u1 =>
        rw [q1] at q
        cases q
        obtain ⟨p, hp, rfl, rfl⟩ := keyed_mem q1
        exact ⟨p.2, .inl rfl, .inl (egl p hp)⟩
      | none =>
        rw [q1] at q
        obtain ⟨p, hp, rfl, rfl⟩ := keyed_mem (show (keyed bltL).lookup x = some u from q)
        have := ebl p hp
        simp only [Prod.mk.injEq] at this
        exact ⟨p.2, .inl rfl, .inr this⟩
    | none =>
      rw [q] at hv
      have hv : (if x == Str.ofString "MOST_TOLD" then some (V.d (.int 200000)) else none) = some v := hv
      split at hv
      · rename_i hx
        cases hv
        have hx := beq_iff_eq.mp hx
        subst hx
        unfold isNum at e7
        split at e7
        · rename_i j t hj
          have : (200000 : Int) = j := by simpa using e7
          subst this
          exact ⟨_, .inr ⟨_, t, rfl, rfl⟩, .inl hj⟩
        · cases e7
      · cases hv
  · rw [Bool.and_eq_true] at e8
    exact ⟨_, .of_isNs e8.1, by have := e8.2; simpa using this⟩
  · simp only [theTab] at hf
    cases q : fnL.lookup a with
    | none => rw [q] at hf; cases hf
    | some i =>
      have hm := lookup_mem_nat q
      obtain ⟨s, o, fd, hs, FA⟩ := fn_at (efn _ hm) (hfn _ hm)
      rw [q] at hf
      simp only [Option.bind_some, hs, Option.map_some, Option.some.injEq, Prod.mk.injEq] at hf
      obtain ⟨rfl, rfl, rfl⟩ := hf
      exact ⟨o, fd, FA⟩
  · have hk : ∃ k, clsL.lookup c = some k := by
      cases q : clsL.lookup c with
      | some k => exact ⟨k, rfl⟩
      | none =>
        exfalso
        rcases hc with hc | ⟨n, hc⟩ | ⟨n, hc⟩ <;> simp [theTab, q] at hc
    obtain ⟨k, q⟩ := hk
    obtain ⟨N, X, hn⟩ := cls_at (ecl _ (clsOf c k q))
    obtain ⟨n1, n2, n3, n4, n5, n6⟩ := cls_names hn
    refine ⟨N, _, X, n1, n2, n3, fun f hf => ?_, fun n hf => ?_, fun n f hf => ?_⟩
    · simp only [theTab, q, Option.map_some, Option.some.injEq] at hf
      rw [n4, hf]
    · simp only [theTab, q, Option.map_some, Option.getD_some] at hf
      have hf := List.contains_iff_mem.mp hf
      obtain ⟨a, ha, rfl⟩ := List.mem_map.mp hf
      exact n5 a ha
    · simp only [theTab, q, Option.bind_some] at hf
      obtain ⟨p, hp, rfl, rfl⟩ := keyed_mem hf
      exact n6 p hp
  · simp only [theTab] at hn
    cases q : clsL.lookup c with
    | none => rw [q] at hn; cases hn
    | some k =>
      rw [q] at hn
      have hn : (k.attrs.map Str.ofString).contains n = true := hn
      obtain ⟨a, ha, rfl⟩ := List.mem_map.mp (List.contains_iff_mem.mp hn)
      have := hown _ (clsOf c k q)
      rw [Bool.and_eq_true] at this
      exact lk_own a (by simpa using List.all_eq_true.mp this.1 a ha)
  · simp only [theTab] at hf
    cases q : clsL.lookup c with
    | none => rw [q] at hf; cases hf
    | some k =>
      rw [q] at hf
      obtain ⟨p, hp, rfl, rfl⟩ := keyed_mem (show (keyed k.meths).lookup n = some f from hf)
      have := hown _ (clsOf c k q)
      rw [Bool.and_eq_true] at this
      exact ⟨_, lk_own p.1 (by simpa using List.all_eq_true.mp this.2 p hp)⟩
  · obtain ⟨s, o, fd, hs, FA⟩ := fn_at (efn (354, 24, none) (by simp [fnL])) (hfn (354, 24, none) (by simp [fnL]))
    exact ⟨354, by decide, by rw [FA.get]; exact Option.some_ne_none _⟩

theorem Base.keeps {prog : Program} {w : World} {h h' : Heap} {T : Tab} (B : Base prog w h T) (k : ∀ b o, h.get? b = some o → h'.get? b = some o) : Base prog w h' T := by
  refine ⟨?_, B.lim.keeps k, fun a ps body sc hf => ?_, fun c hc => ?_, B.lkA, B.lkM, ?_⟩
  · obtain ⟨mg, mb, h1, h2, h3⟩ := B.globs
    exact ⟨mg, mb, h1.keeps k, h2.keeps k, h3⟩
  · obtain ⟨o, fd, F⟩ := B.fn a ps body sc hf
    exact ⟨o, fd, k _ _ F.get, F.cls, F.data, F.body, F.scope, F.globals, F.builtins, F.closure, F.code.keeps k, F.ok, F.co, F.gen, F.bind, F.par, F.nodup⟩
  · obtain ⟨N, mN, X, r⟩ := B.cls c hc
    exact ⟨N, mN, X.keeps k, r⟩
  · obtain ⟨a, h1, h2⟩ := B.big
    refine ⟨a, h1, ?_⟩
    cases q : h.get? a with
    | none => exact absurd q h2
    | some o => rw [k _ _ q]; exact Option.some_ne_none _
end Mine
namespace Mine
open PySem

theorem level_succ (T : Tab) (n : Nat) : level T (n + 1) = build T (level T n) := rfl

/-- a literal name's text -/
theorem ofString_inj {a b : String} (h : Str.ofString a = Str.ofString b) : a = b := by
  rw [Str.ofString_eq_toList, Str.ofString_eq_toList] at h
  have h1 := congrArg (fun s : Str => s.cps.toList) h
  simp only [List.toList_toArray] at h1
  have : ∀ {l m : List Char}, l.map Char.toNat = m.map Char.toNat → l = m := by
    intro l
    induction l with
    | nil => intro m h; cases m with
      | nil => rfl
      | cons _ _ => simp at h
    | cons c r ih =>
      intro m h
      cases m with
      | nil => simp at h
      | cons d t =>
        simp only [List.map_cons, List.cons.injEq] at h
        rw [ih h.2, Char.ext (UInt32.toNat_inj.mp h.1)]
  exact String.ext (this h1)
theorem ofString_beq (a b : String) : (Str.ofString a == Str.ofString b) = (a == b) := by
  by_cases h : a = b
  · subst h; simp
  · have h1 : ¬ Str.ofString a = Str.ofString b := fun q => h (ofString_inj q)
    rw [beq_eq_false_iff_ne.mpr h1, beq_eq_false_iff_ne.mpr h]
theorem ofString_eq (a b : String) : (Str.ofString a = Str.ofString b) = (a = b) := propext ⟨ofString_inj, fun h => h ▸ rfl⟩

noncomputable def bodyOf (a : Nat) : List Stmt := ((fnL.lookup a).bind srcOf).elim [] (·.2.1)
noncomputable def scOf (a : Nat) : Scope := ((fnL.lookup a).bind srcOf).elim default (·.2.2)
noncomputable def psOf (a : Nat) : List Str := ((fnL.lookup a).bind srcOf).elim [] (·.1.args.map (·.arg))
theorem fn_of (a : Nat) (h : ((fnL.lookup a).bind srcOf).isSome = true) : theTab.fn a = some (psOf a, bodyOf a, scOf a) := by
  show ((fnL.lookup a).bind srcOf).map _ = _
  unfold psOf bodyOf scOf
  cases q : (fnL.lookup a).bind srcOf with
  | none => rw [q] at h; cases h
  | some s => rfl

noncomputable def cellOfReel (ns : List Int) (k : Nat) : Int := match ns[k]? with | some c => c | none => 7 * k * k + 4 * k + 1
abbrev reelO (ns : List Int) (k : Nat) : O := .dict [(Str.ofString "cells", .d (.list (ns.map .int))), (Str.ofString "at", .d (.int k))]

theorem glob__law_next : theTab.glob (Str.ofString "_law_next") = some (.val (.ref 299)) := by kernel_rfl
theorem glob__law_set : theTab.glob (Str.ofString "_law_set") = some (.val (.ref 306)) := by kernel_rfl
theorem glob__law_claim : theTab.glob (Str.ofString "_law_claim") = some (.val (.ref 313)) := by kernel_rfl
theorem glob__law_walk : theTab.glob (Str.ofString "_law_walk") = some (.val (.ref 320)) := by kernel_rfl
theorem glob__law_until : theTab.glob (Str.ofString "_law_until") = some (.val (.ref 327)) := by kernel_rfl
theorem glob__law_has : theTab.glob (Str.ofString "_law_has") = some (.val (.ref 334)) := by kernel_rfl
theorem glob__law_holds : theTab.glob (Str.ofString "_law_holds") = some (.val (.ref 339)) := by kernel_rfl
theorem glob__law_plain : theTab.glob (Str.ofString "_law_plain") = some (.val (.ref 344)) := by kernel_rfl
theorem glob__law_is_shaped : theTab.glob (Str.ofString "_law_is_shaped") = some (.val (.ref 349)) := by kernel_rfl
theorem glob_Bounds : theTab.glob (Str.ofString "Bounds") = some (.val (.ref 215)) := by kernel_rfl
theorem glob_Universe : theTab.glob (Str.ofString "Universe") = some (.val (.ref 138)) := by kernel_rfl
theorem glob_Unroller : theTab.glob (Str.ofString "Unroller") = some (.val (.ref 288)) := by kernel_rfl
theorem glob_is_within : theTab.glob (Str.ofString "is_within") = some (.val (.ref 86)) := by kernel_rfl
theorem glob_minus : theTab.glob (Str.ofString "minus") = some (.val (.ref 79)) := by kernel_rfl
theorem glob_len : theTab.glob (Str.ofString "len") = some (.val (.builtin "len")) := by kernel_rfl
theorem glob_abs : theTab.glob (Str.ofString "abs") = some (.val (.builtin "abs")) := by kernel_rfl
theorem glob_isinstance : theTab.glob (Str.ofString "isinstance") = some (.val (.builtin "isinstance")) := by kernel_rfl
theorem glob_range : theTab.glob (Str.ofString "range") = some (.val (.type "range")) := by kernel_rfl
theorem glob_tuple : theTab.glob (Str.ofString "tuple") = some (.val (.type "tuple")) := by kernel_rfl
theorem glob_list : theTab.glob (Str.ofString "list") = some (.val (.type "list")) := by kernel_rfl
theorem glob_dict : theTab.glob (Str.ofString "dict") = some (.val (.type "dict")) := by kernel_rfl
theorem glob_int : theTab.glob (Str.ofString "int") = some (.val (.type "int")) := by kernel_rfl
theorem glob_bool : theTab.glob (Str.ofString "bool") = some (.val (.type "bool")) := by kernel_rfl
theorem glob_zip : theTab.glob (Str.ofString "zip") = some (.val (.type "zip")) := by kernel_rfl
theorem glob_MOST : theTab.glob (Str.ofString "MOST_TOLD") = some (.d (.int 200000)) := by kernel_rfl
theorem init_138 : theTab.init 138 = some 100 := by kernel_rfl
theorem meth_138_size : theTab.meth 138 (Str.ofString "size") = some 107 := by kernel_rfl
theorem attr_138_names : theTab.attr 138 (Str.ofString "names") = true := by kernel_rfl
theorem attr_138_numbers : theTab.attr 138 (Str.ofString "numbers") = true := by kernel_rfl
theorem init_215 : theTab.init 215 = some 156 := by kernel_rfl
theorem meth_215_add : theTab.meth 215 (Str.ofString "add") = some 163 := by kernel_rfl
theorem meth_215_want_set : theTab.meth 215 (Str.ofString "want_set") = some 170 := by kernel_rfl
theorem meth_215_bound : theTab.meth 215 (Str.ofString "bound") = some 184 := by kernel_rfl
theorem meth_215_size : theTab.meth 215 (Str.ofString "size") = some 191 := by kernel_rfl
theorem attr_215_universe : theTab.attr 215 (Str.ofString "universe") = true := by kernel_rfl
theorem attr_215_bounds : theTab.attr 215 (Str.ofString "bounds") = true := by kernel_rfl
theorem attr_215_numbers : theTab.attr 215 (Str.ofString "numbers") = true := by kernel_rfl
theorem init_288 : theTab.init 288 = some 231 := by kernel_rfl
theorem meth_288_free_name : theTab.meth 288 (Str.ofString "free_name") = some 238 := by kernel_rfl
theorem meth_288_relation_at : theTab.meth 288 (Str.ofString "relation_at") = some 245 := by kernel_rfl
theorem meth_288_after : theTab.meth 288 (Str.ofString "after") = some 259 := by kernel_rfl
theorem meth_288_line_from : theTab.meth 288 (Str.ofString "line_from") = some 266 := by kernel_rfl
theorem meth_288_spend : theTab.meth 288 (Str.ofString "spend") = some 273 := by kernel_rfl
theorem meth_288_told : theTab.meth 288 (Str.ofString "told") = some 278 := by kernel_rfl
theorem meth_288_told_until : theTab.meth 288 (Str.ofString "told_until") = some 285 := by kernel_rfl
theorem attr_288_steps : theTab.attr 288 (Str.ofString "steps") = true := by kernel_rfl
theorem attr_288_loop : theTab.attr 288 (Str.ofString "loop") = true := by kernel_rfl
theorem attr_288_many : theTab.attr 288 (Str.ofString "many") = true := by kernel_rfl
theorem attr_288_bounds : theTab.attr 288 (Str.ofString "bounds") = true := by kernel_rfl
theorem attr_288_places : theTab.attr 288 (Str.ofString "places") = true := by kernel_rfl
theorem noinit_79 : theTab.init 79 = none := by kernel_rfl
theorem noinit_86 : theTab.init 86 = none := by kernel_rfl
theorem noinit_299 : theTab.init 299 = none := by kernel_rfl
theorem noinit_306 : theTab.init 306 = none := by kernel_rfl
theorem noinit_313 : theTab.init 313 = none := by kernel_rfl
theorem noinit_320 : theTab.init 320 = none := by kernel_rfl
theorem noinit_327 : theTab.init 327 = none := by kernel_rfl
theorem noinit_334 : theTab.init 334 = none := by kernel_rfl
theorem noinit_339 : theTab.init 339 = none := by kernel_rfl
theorem noinit_344 : theTab.init 344 = none := by kernel_rfl
theorem noinit_349 : theTab.init 349 = none := by kernel_rfl
theorem isfn_79 : (theTab.fn 79).isSome = true := by kernel_rfl
theorem isfn_86 : (theTab.fn 86).isSome = true := by kernel_rfl
theorem isfn_299 : (theTab.fn 299).isSome = true := by kernel_rfl
theorem isfn_306 : (theTab.fn 306).isSome = true := by kernel_rfl
theorem isfn_313 : (theTab.fn 313).isSome = true := by kernel_rfl
theorem isfn_320 : (theTab.fn 320).isSome = true := by kernel_rfl
theorem isfn_327 : (theTab.fn 327).isSome = true := by kernel_rfl
theorem isfn_334 : (theTab.fn 334).isSome = true := by kernel_rfl
theorem isfn_339 : (theTab.fn 339).isSome = true := by kernel_rfl
theorem isfn_344 : (theTab.fn 344).isSome = true := by kernel_rfl
theorem isfn_349 : (theTab.fn 349).isSome = true := by kernel_rfl
theorem isfn_354 : (theTab.fn 354).isSome = true := by kernel_rfl
theorem isfn_100 : (theTab.fn 100).isSome = true := by kernel_rfl
theorem isfn_107 : (theTab.fn 107).isSome = true := by kernel_rfl
theorem isfn_156 : (theTab.fn 156).isSome = true := by kernel_rfl
theorem isfn_163 : (theTab.fn 163).isSome = true := by kernel_rfl
theorem isfn_170 : (theTab.fn 170).isSome = true := by kernel_rfl
theorem isfn_184 : (theTab.fn 184).isSome = true := by kernel_rfl
theorem isfn_191 : (theTab.fn 191).isSome = true := by kernel_rfl
theorem isfn_231 : (theTab.fn 231).isSome = true := by kernel_rfl
theorem isfn_238 : (theTab.fn 238).isSome = true := by kernel_rfl
theorem isfn_245 : (theTab.fn 245).isSome = true := by kernel_rfl
theorem isfn_259 : (theTab.fn 259).isSome = true := by kernel_rfl
theorem isfn_266 : (theTab.fn 266).isSome = true := by kernel_rfl
theorem isfn_273 : (theTab.fn 273).isSome = true := by kernel_rfl
theorem isfn_278 : (theTab.fn 278).isSome = true := by kernel_rfl
theorem isfn_285 : (theTab.fn 285).isSome = true := by kernel_rfl
theorem small_lt {xs : List PyData} (h : xs.length < 1000) : small xs = true := Nat.ble_eq_true_of_le h
theorem getElem?_set_self' {σ : Sto} {r : Nat} {o o' : O} (h : σ[r]? = some o) : (σ.set r o')[r]? = some o' := by
  have hl := (List.getElem?_eq_some_iff.mp h).1
  simp [hl]

noncomputable def isVar (sc : Scope) (x : Str) : Bool := sc.names.lookup x == some .local || sc.names.lookup x == some .cell || sc.names.lookup x == some .free
noncomputable def plainT (e : Expr) : Bool := !(e.ctorIdx == 0 || e.ctorIdx == 3 || e.ctorIdx == 5 || e.ctorIdx == 15)
noncomputable def noComp (e : Expr) : Bool := !isCompE e
theorem lookup_putV' {l : Vars} {x y : Str} {v : V} : (putV l x v).lookup y = if (y == x) = true then some v else l.lookup y := by
  by_cases h : y = x
  · rw [h, beq_self_eq_true, if_pos rfl, lookup_putV]
  · rw [beq_eq_false_iff_ne.mpr h, if_neg Bool.false_ne_true, lookup_putV_ne h]
end Mine
namespace Mine
open PySem

noncomputable def lvE (T : Tab) (n : Nat) (sc : Scope) (fr : Vars) (ex : Expr) (σ : Sto) : Res V := (level T n).e sc fr ex σ
noncomputable def lvT (T : Tab) (n : Nat) (sc : Scope) (fr : Vars) (ex : Expr) (σ : Sto) : Res Bool := (level T n).t sc fr ex σ
noncomputable def lvX (T : Tab) (n : Nat) (sc : Scope) (st : Stmt) (fr : Vars) (σ : Sto) : Res (Fl × Vars) := (level T n).x sc st fr σ
noncomputable def lvC (T : Tab) (n : Nat) (a : Addr) (vs : List V) (σ : Sto) : Res V := (level T n).c a vs σ

noncomputable def W {α : Type} (m : Res α) (Q : α → Sto → Prop) : Prop := ∃ a σ, m = some (a, σ) ∧ Q a σ
theorem W.mono {α : Type} {m : Res α} {Q Q' : α → Sto → Prop} (h : W m Q) (f : ∀ a σ, Q a σ → Q' a σ) : W m Q' := let ⟨a, σ, e, q⟩ := h; ⟨a, σ, e, f a σ q⟩
theorem W.of {α : Type} {m : Res α} {Q : α → Sto → Prop} {a : α} {σ : Sto} (e : m = some (a, σ)) (h : Q a σ) : W m Q := ⟨a, σ, e, h⟩

theorem w_bd {α β : Type} {m : Res α} {f : α → Sto → Res β} {Q : β → Sto → Prop} (h : W m fun a σ => W (f a σ) Q) : W (bd m f) Q := by
  obtain ⟨a, σ, e, b, σ', e2, h⟩ := h
  exact ⟨b, σ', bd_mk e e2, h⟩
theorem w_ob {α β : Type} {m : Option α} {f : α → Res β} {Q : β → Sto → Prop} {a : α} (e : m = some a) (h : W (f a) Q) : W (ob m f) Q := by
  obtain ⟨b, σ', e2, h⟩ := h
  exact ⟨b, σ', ob_mk e e2, h⟩
theorem w_gd {β : Type} {c : Bool} {m : Res β} {Q : β → Sto → Prop} (e : c = true) (h : W m Q) : W (gd c m) Q := by
  obtain ⟨b, σ', e2, h⟩ := h
  exact ⟨b, σ', gd_mk e e2, h⟩
theorem w_orr {β : Type} {m k : Res β} {Q : β → Sto → Prop} (e : m = none) (h : W k Q) : W (orr m k) Q := by
  obtain ⟨b, σ', e2, h⟩ := h
  exact ⟨b, σ', orr_r e e2, h⟩
theorem w_orl {β : Type} {m k : Res β} {Q : β → Sto → Prop} (h : W m Q) : W (orr m k) Q := by
  obtain ⟨b, σ', e2, h⟩ := h
  exact ⟨b, σ', by rw [e2]; rfl, h⟩
theorem w_now {β : Type} {r : β} {σ : Sto} {Q : β → Sto → Prop} (h : Q r σ) : W (some (r, σ)) Q := ⟨_, _, rfl, h⟩

/-! what is still to be done, by name -/
section
variable (T : Tab) (n : Nat) (sc : Scope) (fr : Vars)
noncomputable def kBin2 (op : Operator) (a : V) (Q : V → Sto → Prop) : V → Sto → Prop := fun b σ => W (binop op a b σ) Q
noncomputable def kBin (r : Expr) (op : Operator) (Q : V → Sto → Prop) : V → Sto → Prop := fun a σ => W (lvE T n sc fr r σ) (kBin2 op a Q)
noncomputable def kNot (Q : V → Sto → Prop) : V → Sto → Prop := fun v σ => ∃ b, truth v = some b ∧ Q (.d (.bool !b)) σ
noncomputable def kBool (Q : V → Sto → Prop) : Bool → Sto → Prop := fun c σ => Q (.d (.bool c)) σ
noncomputable def kCmp2 (op : CmpOp) (a : V) (B : Bool → Sto → Prop) : V → Sto → Prop := fun b σ => W (cmpop op a b σ) B
noncomputable def kCmp (r : Expr) (op : CmpOp) (B : Bool → Sto → Prop) : V → Sto → Prop := fun a σ => W (lvE T n sc fr r σ) (kCmp2 op a B)
noncomputable def kIf (b o : Expr) (Q : V → Sto → Prop) : Bool → Sto → Prop := fun c σ => if c = true then W (lvE T n sc fr b σ) Q else W (lvE T n sc fr o σ) Q
noncomputable def kAnd (y : Expr) (Q : V → Sto → Prop) : V → Sto → Prop := fun v σ => ∃ c, truth v = some c ∧ if c = true then W (lvE T n sc fr y σ) Q else Q v σ
noncomputable def kOr (y : Expr) (Q : V → Sto → Prop) : V → Sto → Prop := fun v σ => ∃ c, truth v = some c ∧ if c = true then Q v σ else W (lvE T n sc fr y σ) Q
noncomputable def kTup (Q : V → Sto → Prop) : List V → Sto → Prop := fun vs σ => ∃ ds, datas vs = some ds ∧ small ds = true ∧ Q (.d (.tuple ds)) σ
noncomputable def kLst (Q : V → Sto → Prop) : List V → Sto → Prop := fun vs σ => ∃ ds, datas vs = some ds ∧ small ds = true ∧ Q (.d (.list ds)) σ
noncomputable def kSub2 (a : V) (Q : V → Sto → Prop) : V → Sto → Prop := fun b σ => ∃ v, subscr a b σ = some v ∧ Q v σ
noncomputable def kSub (i : Expr) (Q : V → Sto → Prop) : V → Sto → Prop := fun a σ => W (lvE T n sc fr i σ) (kSub2 a Q)
noncomputable def kAttr (name : Str) (Q : V → Sto → Prop) : V → Sto → Prop := fun ov σ => ∃ v, getAttrO T ov name σ = some v ∧ Q v σ
noncomputable def kMeth2 (f : Addr) (i : Nat) (Q : V → Sto → Prop) : List V → Sto → Prop := fun vs σ => W (lvC T n f (.st i :: vs) σ) Q
noncomputable def kMeth (name : Str) (args : List Expr) (Q : V → Sto → Prop) : V → Sto → Prop := fun ov σ₁ => ∃ i c kvs f, ov = .st i ∧ σ₁[i]? = some (.inst c kvs) ∧ T.meth c name = some f ∧ kvs.lookup name = none ∧ (T.fn f).isSome = true ∧ W (seqE (lvE T n sc fr) args σ₁) (kMeth2 T n f i Q)
noncomputable def kApp2 (i : Nat) (Q : V → Sto → Prop) : List V → Sto → Prop := fun vs σ₂ => ∃ v xs', vs = [v] ∧ σ₂[i]? = some (.lst xs') ∧ Nat.blt xs'.length 1000 = true ∧ Q (.d .none) (σ₂.set i (.lst (xs' ++ [v])))
noncomputable def kApp (args : List Expr) (Q : V → Sto → Prop) : V → Sto → Prop := fun ov σ₁ => ∃ i xs, ov = .st i ∧ σ₁[i]? = some (.lst xs) ∧ W (seqE (lvE T n sc fr) args σ₁) (kApp2 i Q)
noncomputable def kLi (Q : V → Sto → Prop) : List PyData → Sto → Prop := fun acc σ => Q (.d (.list acc)) σ
noncomputable def kComp (scope : Scope) (elt : Expr) (gs : List Comprehension) (fr' : Vars) (C : List PyData → Sto → Prop) : V → Sto → Prop := fun v σ => W (compAll (level T n) scope elt gs fr' v σ []) C
noncomputable def kCons2 (v : V) (S : List V → Sto → Prop) : List V → Sto → Prop := fun vs σ => S (v :: vs) σ
noncomputable def kCons (e : Expr → Sto → Res V) (r : List Expr) (S : List V → Sto → Prop) : V → Sto → Prop := fun v σ => W (seqE e r σ) (kCons2 v S)
noncomputable def kNotT (B : Bool → Sto → Prop) : Bool → Sto → Prop := fun b σ => B (!b) σ
noncomputable def kAll (t : Expr → Sto → Res Bool) (b : Bool) (r : List Expr) (B : Bool → Sto → Prop) : Bool → Sto → Prop := fun c σ => if (c == b) = true then W (allT t b r σ) B else B (!b) σ
noncomputable def kCh3 (r' : Expr) (op' : CmpOp) (b : V) (B : Bool → Sto → Prop) : Bool → Sto → Prop := fun c σ => if c = true then W (lvE T n sc fr r' σ) (kCmp2 op' b B) else B false σ
noncomputable def kCh2 (op : CmpOp) (a : V) (r' : Expr) (op' : CmpOp) (B : Bool → Sto → Prop) : V → Sto → Prop := fun b σ => W (cmpop op a b σ) (kCh3 T n sc fr r' op' b B)
noncomputable def kCh (r : Expr) (op : CmpOp) (r' : Expr) (op' : CmpOp) (B : Bool → Sto → Prop) : V → Sto → Prop := fun a σ => W (lvE T n sc fr r σ) (kCh2 T n sc fr op a r' op' B)
noncomputable def kTruth (B : Bool → Sto → Prop) : V → Sto → Prop := fun v σ => ∃ b, truth v = some b ∧ B b σ
noncomputable def kExpr (X : Fl × Vars → Sto → Prop) : V → Sto → Prop := fun u σ => (u = .d .none ∨ ∃ i, u = .d (.int i)) ∧ X (.next, fr) σ
noncomputable def kRet (X : Fl × Vars → Sto → Prop) : V → Sto → Prop := fun u σ => X (.ret u, fr) σ
noncomputable def kAsg (x : Str) (X : Fl × Vars → Sto → Prop) : V → Sto → Prop := fun u σ => X (.next, putV fr x u) σ
noncomputable def kAsub3 (u ov : V) (X : Fl × Vars → Sto → Prop) : V → Sto → Prop := fun iv σ₃ => ∃ j k kvs, ov = .st j ∧ iv = .d (.str k) ∧ σ₃[j]? = some (.dict kvs) ∧ Nat.blt kvs.length 1000 = true ∧ X (.next, fr) (σ₃.set j (.dict (putD kvs k u)))
noncomputable def kAsub2 (i : Expr) (u : V) (X : Fl × Vars → Sto → Prop) : V → Sto → Prop := fun ov σ => W (lvE T n sc fr i σ) (kAsub3 fr u ov X)
noncomputable def kAsub (o i : Expr) (X : Fl × Vars → Sto → Prop) : V → Sto → Prop := fun u σ => W (lvE T n sc fr o σ) (kAsub2 T n sc fr i u X)
noncomputable def kAat2 (name : Str) (u : V) (X : Fl × Vars → Sto → Prop) : V → Sto → Prop := fun ov σ₂ => ∃ j c kvs, ov = .st j ∧ σ₂[j]? = some (.inst c kvs) ∧ (T.attr c name && Nat.blt kvs.length 1000) = true ∧ X (.next, fr) (σ₂.set j (.inst c (putD kvs name u)))
noncomputable def kAat (o : Expr) (name : Str) (X : Fl × Vars → Sto → Prop) : V → Sto → Prop := fun u σ => W (lvE T n sc fr o σ) (kAat2 T fr name u X)
noncomputable def kIfX (b o : List Stmt) (X : Fl × Vars → Sto → Prop) : Bool → Sto → Prop := fun c σ => if c = true then W (seqS (lvX T n sc) b fr σ) X else W (seqS (lvX T n sc) o fr σ) X
noncomputable def kSeq (f : Stmt → Vars → Sto → Res (Fl × Vars)) (r : List Stmt) (X : Fl × Vars → Sto → Prop) : Fl × Vars → Sto → Prop := fun p σ₁ => match p with | (.next, fr') => W (seqS f r fr' σ₁) X | (.ret v, fr') => X (.ret v, fr') σ₁
noncomputable def kRun (Q : V → Sto → Prop) : Fl × Vars → Sto → Prop := fun p σ₁ => Q (match p.1 with | .next => .d .none | .ret v => v) σ₁
end
section
variable {T : Tab} {n : Nat} {sc : Scope} {fr fr' : Vars} {σ : Sto} {Q : V → Sto → Prop} {B : Bool → Sto → Prop} {X : Fl × Vars → Sto → Prop} {S : List V → Sto → Prop}
theorem w_none {k p} (h : Q (.d .none) σ) : W (lvE T (n + 1) sc fr (.Constant .none k p) σ) Q := ⟨_, _, rfl, h⟩
theorem w_bool {b k p} (h : Q (.d (.bool b)) σ) : W (lvE T (n + 1) sc fr (.Constant (.bool b) k p) σ) Q := ⟨_, _, rfl, h⟩
theorem w_int {i k p} (h : Q (.d (.int i)) σ) : W (lvE T (n + 1) sc fr (.Constant (.int i) k p) σ) Q := ⟨_, _, rfl, h⟩
theorem w_str {s k p} (h : Q (.d (.str s)) σ) : W (lvE T (n + 1) sc fr (.Constant (.str s) k p) σ) Q := ⟨_, _, rfl, h⟩
theorem w_nil {p} (h : Q (.st σ.length) (σ ++ [.lst []])) : W (lvE T (n + 1) sc fr (.List [] p) σ) Q := ⟨_, _, rfl, h⟩
theorem w_var {x p v} (hv : fr.lookup x = some v) (hk : isVar sc x = true) (h : Q v σ) : W (lvE T (n + 1) sc fr (.Name x p) σ) Q := by
  show W (eName T sc fr x σ) Q
  rcases Bool.or_eq_true_iff.mp hk with hk | hk
  · rcases Bool.or_eq_true_iff.mp hk with hk | hk
    · exact w_ob (beq_iff_eq.mp hk) (w_ob hv (w_now h))
    · exact w_ob (beq_iff_eq.mp hk) (w_ob hv (w_now h))
  · exact w_ob (beq_iff_eq.mp hk) (w_ob hv (w_now h))
theorem w_glob {x p v} (hv : T.glob x = some v) (hk : (sc.names.lookup x == some .globalImplicit) = true) (h : Q v σ) : W (lvE T (n + 1) sc fr (.Name x p) σ) Q := by
  show W (eName T sc fr x σ) Q
  exact w_ob (beq_iff_eq.mp hk) (w_ob hv (w_now h))
theorem w_bin {l op r p} (h : W (lvE T n sc fr l σ) (kBin T n sc fr r op Q)) : W (lvE T (n + 1) sc fr (.BinOp l op r p) σ) Q := by
  show W (bd (lvE T n sc fr l σ) fun a σ => bd (lvE T n sc fr r σ) fun b σ => binop op a b σ) Q
  exact w_bd (h.mono fun a σ h => w_bd h)
theorem w_not {x p} (h : W (lvE T n sc fr x σ) (kNot Q)) : W (lvE T (n + 1) sc fr (.UnaryOp .Not x p) σ) Q := by
  show W (bd (lvE T n sc fr x σ) fun v σ => ob (truth v) fun b => some (.d (.bool !b), σ)) Q
  exact w_bd (h.mono fun a σ h => by obtain ⟨b, e, h⟩ := h; exact w_ob e (w_now h))
theorem w_cmp {l op r p} (hs : isSetE r = false) (h : W (lvE T n sc fr l σ) (kCmp T n sc fr r op (kBool Q))) : W (lvE T (n + 1) sc fr (.Compare l [op] [r] p) σ) Q := by
  show W (gd (!isSetE r) (bd (lvE T n sc fr l σ) fun a σ => bd (lvE T n sc fr r σ) fun b σ => bd (cmpop op a b σ) fun c σ => some (.d (.bool c), σ))) Q
  exact w_gd (by rw [hs]; rfl) (w_bd (h.mono fun a σ h => w_bd (W.mono h fun b σ h => w_bd (W.mono h fun c σ h => w_now h))))
theorem w_br {β : Type} {c : Bool} {a b : Res β} {Q : β → Sto → Prop} (h : if c = true then W a Q else W b Q) : W (br c a b) Q := by
  cases c with
  | true => exact h
  | false => exact h
theorem w_if {t b o p} (h : W (lvT T n sc fr t σ) (kIf T n sc fr b o Q)) : W (lvE T (n + 1) sc fr (.IfExp t b o p) σ) Q := by
  show W (bd (lvT T n sc fr t σ) fun c σ => br c (lvE T n sc fr b σ) (lvE T n sc fr o σ)) Q
  exact w_bd (h.mono fun c σ h => w_br h)
theorem w_and {x y p} (h : W (lvE T n sc fr x σ) (kAnd T n sc fr y Q)) : W (lvE T (n + 1) sc fr (.BoolOp .And [x, y] p) σ) Q := by
  show W (bd (lvE T n sc fr x σ) fun v σ => ob (truth v) fun b => br (b == true) (lvE T n sc fr y σ) (some (v, σ))) Q
  refine w_bd (h.mono fun v σ h => ?_)
  obtain ⟨c, e, h⟩ := h
  refine w_ob e (w_br ?_)
  cases c with
  | true => exact h
  | false => exact w_now h
theorem w_or {x y p} (h : W (lvE T n sc fr x σ) (kOr T n sc fr y Q)) : W (lvE T (n + 1) sc fr (.BoolOp .Or [x, y] p) σ) Q := by
  show W (bd (lvE T n sc fr x σ) fun v σ => ob (truth v) fun b => br (b == false) (lvE T n sc fr y σ) (some (v, σ))) Q
  refine w_bd (h.mono fun v σ h => ?_)
  obtain ⟨c, e, h⟩ := h
  refine w_ob e (w_br ?_)
  cases c with
  | true => exact w_now h
  | false => exact h
theorem w_tuple {elts k p} (h : W (seqE (lvE T n sc fr) elts σ) (kTup Q)) : W (lvE T (n + 1) sc fr (.Tuple elts k p) σ) Q := by
  show W (bd (seqE (lvE T n sc fr) elts σ) fun vs σ => ob (datas vs) fun ds => gd (small ds) (some (.d (.tuple ds), σ))) Q
  exact w_bd (h.mono fun vs σ h => by obtain ⟨ds, e2, e3, h⟩ := h; exact w_ob e2 (w_gd e3 (w_now h)))
theorem w_list {x r p} (h : W (seqE (lvE T n sc fr) (x :: r) σ) (kLst Q)) : W (lvE T (n + 1) sc fr (.List (x :: r) p) σ) Q := by
  show W (bd (seqE (lvE T n sc fr) (x :: r) σ) fun vs σ => ob (datas vs) fun ds => gd (small ds) (some (.d (.list ds), σ))) Q
  exact w_bd (h.mono fun vs σ h => by obtain ⟨ds, e2, e3, h⟩ := h; exact w_ob e2 (w_gd e3 (w_now h)))
theorem w_sub {o i p} (hi : (match i with | .Slice .. => false | _ => true) = true) (h : W (lvE T n sc fr o σ) (kSub T n sc fr i Q)) : W (lvE T (n + 1) sc fr (.Subscript o i p) σ) Q := by
  have hs : isSliceE i = false := by cases i <;> first | rfl | exact nomatch hi
  show W (subE (lvE T n sc fr) o i σ) Q
  unfold subE
  rw [hs]
  show W (bd (lvE T n sc fr o σ) fun a σ => bd (lvE T n sc fr i σ) fun b σ => ob (subscr a b σ) fun v => some (v, σ)) Q
  exact w_bd (h.mono fun a σ h => w_bd (W.mono h fun b σ h => by obtain ⟨v, e, h⟩ := h; exact w_ob e (w_now h)))
theorem w_attr {o name p} (hb : baseOk o = true) (h : W (lvE T n sc fr o σ) (kAttr T name Q)) : W (lvE T (n + 1) sc fr (.Attribute o name p) σ) Q := by
  show W (gd (baseOk o) (bd (lvE T n sc fr o σ) fun ov σ => ob (getAttrO T ov name σ) fun v => some (v, σ))) Q
  exact w_gd hb (w_bd (h.mono fun ov σ h => by obtain ⟨v, e, h⟩ := h; exact w_ob e (w_now h)))
noncomputable def kCall2 (T : Tab) (n : Nat) (g : Value) (Q : V → Sto → Prop) : List V → Sto → Prop := fun vs σ => W (callV T (level T n) g vs σ) Q
noncomputable def kCall (T : Tab) (n : Nat) (sc : Scope) (fr : Vars) (args : List Expr) (Q : V → Sto → Prop) : V → Sto → Prop := fun f σ => ∃ g, f = .val g ∧ W (seqE (lvE T n sc fr) args σ) (kCall2 T n g Q)
theorem w_call {x px args p} (hn : Nat.blt args.length 10 = true) (h : W (lvE T n sc fr (.Name x px) σ) (kCall T n sc fr args Q)) : W (lvE T (n + 1) sc fr (.Call (.Name x px) args [] p) σ) Q := by
  show W (orr (gd (Nat.blt args.length 10) (bd (lvE T n sc fr (.Name x px) σ) fun g σ => ob (vVal g) fun g => bd (seqE (lvE T n sc fr) args σ) fun vs σ => callV T (level T n) g vs σ)) none) Q
  exact w_orl (w_gd hn (w_bd (h.mono fun f σ h => by obtain ⟨g, rfl, h⟩ := h; exact w_ob rfl (w_bd h))))
theorem cv_fun {a : Addr} {vs} (hi : T.init a = none) (hf : (T.fn a).isSome = true) (h : W (lvC T n a vs σ) Q) : W (callV T (level T n) (.ref a) vs σ) Q := by
  have e : callV T (level T n) (.ref a) vs σ = gd (T.fn a).isSome (lvC T n a vs σ) := by
    show Option.rec (motive := fun _ => Res V) _ _ (T.init a) = _
    rw [hi]; rfl
  rw [e]
  exact w_gd hf h
theorem cv_ctor {a fi : Addr} {vs} (hi : T.init a = some fi) (hf : (T.fn fi).isSome = true) (h : W (lvC T n fi (.st σ.length :: vs) (σ ++ [.inst a []])) fun v σ' => v = .d .none ∧ Q (.st σ.length) σ') : W (callV T (level T n) (.ref a) vs σ) Q := by
  have e : callV T (level T n) (.ref a) vs σ = callCls T (level T n) a fi vs σ := by
    show Option.rec (motive := fun _ => Res V) _ _ (T.init a) = _
    rw [hi]
  rw [e]
  exact w_gd hf (w_bd (h.mono fun v σ' h => by obtain ⟨rfl, h⟩ := h; exact w_now h))
theorem cv_blt {id : String} {vs} (h : W (callBlt (.builtin id) vs σ) Q) : W (callV T (level T n) (.builtin id) vs σ) Q := h
theorem cv_type {id : String} {vs} (h : W (callBlt (.type id) vs σ) Q) : W (callV T (level T n) (.type id) vs σ) Q := h
theorem w_callA {o name ap args p} (hc : (ap.endLine == p.line && Nat.blt args.length 10 && baseOk o) = true) (h : W (eCallA T (level T n) sc fr o name args σ) Q) : W (lvE T (n + 1) sc fr (.Call (.Attribute o name ap) args [] p) σ) Q := by
  show W (gd (ap.endLine == p.line && Nat.blt args.length 10 && baseOk o) (eCallA T (level T n) sc fr o name args σ)) Q
  exact w_gd hc h
theorem w_meth {o name ap args p} (hc : (ap.endLine == p.line && Nat.blt args.length 10 && baseOk o) = true) (h : W (lvE T n sc fr o σ) (kMeth T n sc fr name args Q)) : W (lvE T (n + 1) sc fr (.Call (.Attribute o name ap) args [] p) σ) Q := by
  refine w_callA hc (w_bd (h.mono fun ov σ h => ?_))
  obtain ⟨i, c, kvs, f, rfl, h2, h3, h4, h5, h⟩ := h
  refine w_ob rfl (w_orr ?_ (w_ob (a := (c, kvs)) ?_ (w_gd (by rw [h4]; rfl) (w_ob h3 (w_gd h5 (w_bd h))))))
  · show ob (ob σ[i]? oLst) _ = none
    rw [h2]; rfl
  · show ob σ[i]? oInst = _
    rw [h2]; rfl
theorem lstAt_mk {i : Nat} {xs : List V} (h : σ[i]? = some (.lst xs)) : lstAt σ i = some xs := ob_mk h rfl
theorem dictAt_mk {i : Nat} {xs : List (Str × V)} (h : σ[i]? = some (.dict xs)) : dictAt σ i = some xs := ob_mk h rfl
theorem instAt_mk {i : Nat} {c : Addr} {xs : List (Str × V)} (h : σ[i]? = some (.inst c xs)) : instAt σ i = some (c, xs) := ob_mk h rfl
theorem w_append {o name ap args p} (hc : (ap.endLine == p.line && Nat.blt args.length 10 && baseOk o) = true) (hname : (name == Str.ofString "append") = true) (h : W (lvE T n sc fr o σ) (kApp T n sc fr args Q)) : W (lvE T (n + 1) sc fr (.Call (.Attribute o name ap) args [] p) σ) Q := by
  refine w_callA hc (w_bd (h.mono fun ov σ h => ?_))
  obtain ⟨i, xs, rfl, h2, h⟩ := h
  refine w_ob rfl (w_orl (w_ob (lstAt_mk h2) (w_gd hname (w_bd (W.mono h fun vs σ h => ?_)))))
  obtain ⟨v, xs', rfl, h4, h5, h⟩ := h
  exact w_ob rfl (w_ob (lstAt_mk h4) (w_gd h5 (w_now h)))
theorem w_compE {elt g gs scope} (ok : (okScope scope && okFree sc fr scope) = true) (h : W (lvE T n sc fr g.iter σ) (kComp T n scope elt (g :: gs) (fr.filter fun p => scope.names.lookup p.1 == some .free) (kLi Q))) : W (compE (level T n) sc fr elt (g :: gs) scope σ) Q := by
  show W (gd (okScope scope && okFree sc fr scope) (bd (lvE T n sc fr g.iter σ) fun v σ => bd (compAll (level T n) scope elt (g :: gs) (fr.filter fun p => scope.names.lookup p.1 == some .free) v σ []) fun acc σ => some (V.d (.list acc), σ))) Q
  exact w_gd ok (w_bd (h.mono fun v σ h => w_bd (W.mono h fun acc σ h => w_now h)))
theorem w_comp {elt g gs scope p} (ok : (okScope scope && okFree sc fr scope) = true) (h : W (lvE T n sc fr g.iter σ) (kComp T n scope elt (g :: gs) (fr.filter fun p => scope.names.lookup p.1 == some .free) (kLi Q))) :
    W (lvE T (n + 1) sc fr (.ListComp elt (g :: gs) scope p) σ) Q := w_compE ok h
theorem ws_nil {e : Expr → Sto → Res V} (h : S [] σ) : W (seqE e [] σ) S := ⟨_, _, rfl, h⟩
theorem ws_cons {e : Expr → Sto → Res V} {x r} (hs : isStarE x = false) (h : W (e x σ) (kCons e r S)) : W (seqE e (x :: r) σ) S := by
  show W (gd (!isStarE x) (bd (e x σ) fun v σ => bd (seqE e r σ) fun vs σ => some (v :: vs, σ))) S
  exact w_gd (by rw [hs]; rfl) (w_bd (h.mono fun v σ h => w_bd (W.mono h fun vs σ h => w_now h)))

theorem wt_not {x p} (h : W (lvT T n sc fr x σ) (kNotT B)) : W (lvT T (n + 1) sc fr (.UnaryOp .Not x p) σ) B := by
  show W (bd (lvT T n sc fr x σ) fun b σ => some (!b, σ)) B
  exact w_bd (h.mono fun b σ h => w_now h)
theorem wt_bool {op xs p} (h : W (allT (lvT T n sc fr) (op == .And) xs σ) B) : W (lvT T (n + 1) sc fr (.BoolOp op xs p) σ) B := h
theorem wa_nil {t : Expr → Sto → Res Bool} {b} (h : B b σ) : W (allT t b [] σ) B := ⟨_, _, rfl, h⟩
theorem wa_cons {t : Expr → Sto → Res Bool} {b x r} (h : W (t x σ) (kAll t b r B)) : W (allT t b (x :: r) σ) B := by
  show W (bd (t x σ) fun c σ => br (c == b) (allT t b r σ) (some (!b, σ))) B
  refine w_bd (h.mono fun c σ h => w_br ?_)
  unfold kAll at h
  by_cases hc : (c == b) = true
  · rw [if_pos hc] at h ⊢; exact h
  · rw [if_neg hc] at h ⊢; exact w_now h
theorem wt_cmp {l op r p} (hs : isSetE r = false) (h : W (lvE T n sc fr l σ) (kCmp T n sc fr r op B)) : W (lvT T (n + 1) sc fr (.Compare l [op] [r] p) σ) B := by
  show W (orr (gd (!isSetE r) (bd (lvE T n sc fr l σ) fun a σ => bd (lvE T n sc fr r σ) fun b σ => cmpop op a b σ)) none) B
  exact w_orl (w_gd (by rw [hs]; rfl) (w_bd (h.mono fun a σ h => w_bd h)))
theorem wt_cmp2 {l op op' r r' p} (hs : isSetE r' = false) (h : W (lvE T n sc fr l σ) (kCh T n sc fr r op r' op' B)) :
    W (lvT T (n + 1) sc fr (.Compare l [op, op'] [r, r'] p) σ) B := by
  show W (gd (!isSetE r') (bd (lvE T n sc fr l σ) fun a σ => bd (lvE T n sc fr r σ) fun b σ => bd (cmpop op a b σ) fun c σ => br c (bd (lvE T n sc fr r' σ) fun c σ => cmpop op' b c σ) (some (false, σ)))) B
  refine w_gd (by rw [hs]; rfl) (w_bd (h.mono fun a σ h => w_bd (W.mono h fun b σ h => w_bd (W.mono h fun c σ h => w_br ?_))))
  unfold kCh3 at h
  cases c with
  | true => exact w_bd h
  | false => exact w_now h
theorem wt_plain {x} (hp : plainT x = true) (h : W (lvE T n sc fr x σ) (kTruth B)) : W (lvT T (n + 1) sc fr x σ) B := by
  have e : lvT T (n + 1) sc fr x σ = bd (lvE T n sc fr x σ) fun v σ => ob (truth v) fun b => some (b, σ) := by
    cases x <;> first | rfl | exact nomatch hp
  rw [e]
  exact w_bd (h.mono fun v σ h => by obtain ⟨b, e, h⟩ := h; exact w_ob e (w_now h))

theorem wx_expr {v p} (hc : isCallE v = true) (h : W (lvE T n sc fr v σ) (kExpr fr X)) : W (lvX T (n + 1) sc (.Expr v p) fr σ) X := by
  show W (gd (isCallE v) (bd (lvE T n sc fr v σ) fun u σ => ob (vD u) fun d => gd (isNextD d) (some ((.next, fr), σ)))) X
  refine w_gd hc (w_bd (h.mono fun u σ h => ?_))
  obtain ⟨hu, h⟩ := h
  rcases hu with rfl | ⟨i, rfl⟩
  · exact w_ob rfl (w_now h)
  · exact w_ob rfl (w_now h)
theorem wx_ret {v p} (h : W (lvE T n sc fr v σ) (kRet fr X)) : W (lvX T (n + 1) sc (.Return (some v) p) fr σ) X := by
  show W (bd (lvE T n sc fr v σ) fun v σ => some ((.ret v, fr), σ)) X
  exact w_bd (h.mono fun v σ h => w_now h)
theorem wx_asg {x xp v p} (hx : canSet sc x = true) (h : W (asgV (level T n) sc fr v σ) (kAsg fr x X)) : W (lvX T (n + 1) sc (.Assign [.Name x xp] v p) fr σ) X := by
  show W (gd (canSet sc x) (bd (asgV (level T n) sc fr v σ) fun v σ => some ((.next, putV fr x v), σ))) X
  exact w_gd hx (w_bd (h.mono fun v σ h => w_now h))
theorem wv_plain {v} (hc : noComp v = true) (h : W (lvE T n sc fr v σ) Q) : W (asgV (level T n) sc fr v σ) Q := by
  unfold asgV
  rw [show isCompE v = false from Bool.not_eq_true' .. ▸ hc]
  exact h
theorem wv_comp {elt g gs scope p} (ok : (okScope scope && okFree sc fr scope) = true) (h : W (lvE T n sc fr g.iter σ) (kComp T n scope elt (g :: gs) (fr.filter fun p => scope.names.lookup p.1 == some .free) (kLi Q))) :
    W (asgV (level T n) sc fr (.ListComp elt (g :: gs) scope p) σ) Q := w_compE ok h
theorem wx_asub {o i ap v p} (h : W (lvE T n sc fr v σ) (kAsub T n sc fr o i X)) :
    W (lvX T (n + 1) sc (.Assign [.Subscript o i ap] v p) fr σ) X := by
  show W (bd (lvE T n sc fr v σ) fun v σ => bd (lvE T n sc fr o σ) fun u σ => ob (vSt u) fun n' => bd (lvE T n sc fr i σ) fun k σ => ob (strOfV k) fun k => ob (dictAt σ n') fun kvs => gd (Nat.blt kvs.length 1000) (some ((.next, fr), σ.set n' (.dict (putD kvs k v))))) X
  obtain ⟨u, s1, e1, ov, s2, e2, iv, s3, e3, j, k, kvs, rfl, rfl, h4, h5, h⟩ := h
  exact ⟨_, _, bd_mk e1 (bd_mk (a := V.st j) e2 (ob_mk (a := j) rfl (bd_mk (a := V.d (.str k)) e3 (ob_mk (a := k) rfl (ob_mk (dictAt_mk h4) (gd_mk h5 rfl)))))), h⟩
theorem wx_aattr {o name ap v p} (h : W (lvE T n sc fr v σ) (kAat T n sc fr o name X)) :
    W (lvX T (n + 1) sc (.Assign [.Attribute o name ap] v p) fr σ) X := by
  show W (bd (lvE T n sc fr v σ) fun v σ => bd (lvE T n sc fr o σ) fun u σ => ob (vSt u) fun n => ob (instAt σ n) fun p => gd (T.attr p.1 name && Nat.blt p.2.length 1000) (some ((.next, fr), σ.set n (.inst p.1 (putD p.2 name v))))) X
  obtain ⟨u, s1, e1, ov, s2, e2, j, c, kvs, rfl, h4, h5, h⟩ := h
  exact ⟨_, _, bd_mk e1 (bd_mk (a := V.st j) e2 (ob_mk (a := j) rfl (ob_mk (instAt_mk h4) (gd_mk h5 rfl)))), h⟩
theorem wx_if {t b o p} (h : W (lvT T n sc fr t σ) (kIfX T n sc fr b o X)) : W (lvX T (n + 1) sc (.If t b o p) fr σ) X := by
  show W (bd (lvT T n sc fr t σ) fun c σ => br c (seqS (lvX T n sc) b fr σ) (seqS (lvX T n sc) o fr σ)) X
  exact w_bd (h.mono fun c σ h => w_br h)
theorem wx_for {x xp it b p} (hx : (canSet sc x && !isSetE it) = true) (h : W (lvE T n sc fr it σ) fun v σ₁ => W (forGo v (fun y fr => some (putV fr x y)) (seqS (lvX T n sc) b) turnsMost 0 fr σ₁) X) : W (lvX T (n + 1) sc (.For (.Name x xp) it b [] p) fr σ) X := by
  show W (orr (gd (canSet sc x && !isSetE it) (bd (lvE T n sc fr it σ) fun v σ => forGo v (fun y fr => some (putV fr x y)) (seqS (lvX T n sc) b) turnsMost 0 fr σ)) none) X
  exact w_orl (w_gd hx (w_bd h))
theorem wx_while {t b p} (h : W (whileGo (fun fr σ => lvT T n sc fr t σ) (seqS (lvX T n sc) b) turnsMost fr σ) X) : W (lvX T (n + 1) sc (.While t b [] p) fr σ) X := h
theorem wx_asgT {ts k tp v p} (h : W (asgT (lvE T n sc fr) sc ts v fr σ) X) : W (lvX T (n + 1) sc (.Assign [.Tuple ts k tp] v p) fr σ) X := h
theorem w_goOn {p : Fl × Vars} {k : Vars → Sto → Res (Fl × Vars)} (h : match p with | (.next, fr') => W (k fr' σ) X | (.ret v, fr') => X (.ret v, fr') σ) : W (goOn p k σ) X := by
  obtain ⟨fl, fr'⟩ := p
  cases fl with
  | next => exact h
  | ret v => exact w_now h
theorem wq_nil {f : Stmt → Vars → Sto → Res (Fl × Vars)} (h : X (.next, fr) σ) : W (seqS f [] fr σ) X := ⟨_, _, rfl, h⟩
theorem wq_cons {f : Stmt → Vars → Sto → Res (Fl × Vars)} {s r} (h : W (f s fr σ) (kSeq f r X)) : W (seqS f (s :: r) fr σ) X := by
  show W (bd (f s fr σ) fun p σ => goOn p (seqS f r) σ) X
  exact w_bd (h.mono fun p σ h => w_goOn h)
theorem w_run {a args ps body} (hf : T.fn a = some (ps, body, sc)) (hl : (ps.length == args.length) = true) (h : W (seqS (lvX T n sc) body (ps.zip args) σ) (kRun Q)) : W (lvC T (n + 1) a args σ) Q := by
  show W (ob (T.fn a) fun p => gd (p.1.length == args.length) (bd (seqS (lvX T n p.2.2) p.2.1 (p.1.zip args) σ) fun r σ => some (Fl.casesOn (motive := fun _ => V) r.1 (.d .none) (fun v => v), σ))) Q
  refine w_ob hf (w_gd hl (w_bd (h.mono fun r σ h => w_now ?_)))
  obtain ⟨fl, fr'⟩ := r
  cases fl <;> exact h
theorem kk_bin {r op a} (h : W (lvE T n sc fr r σ) (kBin2 op a Q)) : kBin T n sc fr r op Q a σ := h
theorem kk_bin2 {op a b} (h : W (binop op a b σ) Q) : kBin2 op a Q b σ := h
theorem kk_not {b} (h : Q (.d (.bool !b)) σ) : kNot Q (.d (.bool b)) σ := ⟨b, rfl, h⟩
theorem kk_bool {c} (h : Q (.d (.bool c)) σ) : kBool Q c σ := h
theorem kk_cmp {r op a} (h : W (lvE T n sc fr r σ) (kCmp2 op a B)) : kCmp T n sc fr r op B a σ := h
theorem kk_cmp2 {op a b} (h : W (cmpop op a b σ) B) : kCmp2 op a B b σ := h
theorem kk_if_t {b o c} (hc : c = true) (h : W (lvE T n sc fr b σ) Q) : kIf T n sc fr b o Q c σ := by unfold kIf; rw [if_pos hc]; exact h
theorem kk_if_f {b o c} (hc : c = false) (h : W (lvE T n sc fr o σ) Q) : kIf T n sc fr b o Q c σ := by unfold kIf; rw [hc, if_neg Bool.false_ne_true]; exact h
theorem kk_if {b o c} (h : if c = true then W (lvE T n sc fr b σ) Q else W (lvE T n sc fr o σ) Q) : kIf T n sc fr b o Q c σ := h
theorem kk_and_t {y c} (hc : c = true) (h : W (lvE T n sc fr y σ) Q) : kAnd T n sc fr y Q (.d (.bool c)) σ := ⟨c, rfl, by rw [if_pos hc]; exact h⟩
theorem kk_and_f {y c} (hc : c = false) (h : Q (.d (.bool c)) σ) : kAnd T n sc fr y Q (.d (.bool c)) σ := ⟨c, rfl, by rw [if_neg (by rw [hc]; exact Bool.false_ne_true)]; exact h⟩
theorem kk_or_t {y c} (hc : c = true) (h : Q (.d (.bool c)) σ) : kOr T n sc fr y Q (.d (.bool c)) σ := ⟨c, rfl, by rw [if_pos hc]; exact h⟩
theorem kk_or_f {y c} (hc : c = false) (h : W (lvE T n sc fr y σ) Q) : kOr T n sc fr y Q (.d (.bool c)) σ := ⟨c, rfl, by rw [if_neg (by rw [hc]; exact Bool.false_ne_true)]; exact h⟩
theorem kk_tup {vs ds} (h1 : datas vs = some ds) (h2 : small ds = true) (h : Q (.d (.tuple ds)) σ) : kTup Q vs σ := ⟨ds, h1, h2, h⟩
theorem kk_lst {vs ds} (h1 : datas vs = some ds) (h2 : small ds = true) (h : Q (.d (.list ds)) σ) : kLst Q vs σ := ⟨ds, h1, h2, h⟩
theorem kk_sub {i a} (h : W (lvE T n sc fr i σ) (kSub2 a Q)) : kSub T n sc fr i Q a σ := h
theorem kk_sub2 {a b} (h : ∃ v, subscr a b σ = some v ∧ Q v σ) : kSub2 a Q b σ := h
theorem kk_attr {name ov v} (h1 : getAttrO T ov name σ = some v) (h : Q v σ) : kAttr T name Q ov σ := ⟨v, h1, h⟩
theorem kk_call {args g} (h : W (seqE (lvE T n sc fr) args σ) (kCall2 T n g Q)) : kCall T n sc fr args Q (.val g) σ := ⟨g, rfl, h⟩
theorem kk_call2 {g vs} (h : W (callV T (level T n) g vs σ) Q) : kCall2 T n g Q vs σ := h
theorem kk_meth {name args i c kvs f} (h1 : σ[i]? = some (.inst c kvs)) (h2 : T.meth c name = some f) (h3 : kvs.lookup name = none) (h4 : (T.fn f).isSome = true) (h : W (seqE (lvE T n sc fr) args σ) (kMeth2 T n f i Q)) : kMeth T n sc fr name args Q (.st i) σ := ⟨i, c, kvs, f, rfl, h1, h2, h3, h4, h⟩
theorem kk_meth2 {f i vs} (h : W (lvC T n f (.st i :: vs) σ) Q) : kMeth2 T n f i Q vs σ := h
theorem kk_app {args i xs} (h1 : σ[i]? = some (.lst xs)) (h : W (seqE (lvE T n sc fr) args σ) (kApp2 i Q)) : kApp T n sc fr args Q (.st i) σ := ⟨i, xs, rfl, h1, h⟩
theorem kk_app2 {i v xs'} (h1 : σ[i]? = some (.lst xs')) (h : Nat.blt xs'.length 1000 = true ∧ Q (.d .none) (σ.set i (.lst (xs' ++ [v])))) : kApp2 i Q [v] σ := ⟨v, xs', rfl, h1, h.1, h.2⟩
theorem kk_comp {scope elt gs fr' v} {C : List PyData → Sto → Prop} (h : W (compAll (level T n) scope elt gs fr' v σ []) C) : kComp T n scope elt gs fr' C v σ := h
theorem kk_li {acc} (h : Q (.d (.list acc)) σ) : kLi Q acc σ := h
theorem kk_cons {e r v} (h : W (seqE e r σ) (kCons2 v S)) : kCons e r S v σ := h
theorem kk_cons2 {v vs} (h : S (v :: vs) σ) : kCons2 v S vs σ := h
theorem kk_notT {b} (h : B (!b) σ) : kNotT B b σ := h
theorem kk_all_t {t b r c} (hc : (c == b) = true) (h : W (allT t b r σ) B) : kAll t b r B c σ := by unfold kAll; rw [if_pos hc]; exact h
theorem kk_all_f {t b r c} (hc : (c == b) = false) (h : B (!b) σ) : kAll t b r B c σ := by unfold kAll; rw [if_neg (by rw [hc]; exact Bool.false_ne_true)]; exact h
theorem kk_ch {r op r' op' a} (h : W (lvE T n sc fr r σ) (kCh2 T n sc fr op a r' op' B)) : kCh T n sc fr r op r' op' B a σ := h
theorem kk_ch2 {op a r' op' b} (h : W (cmpop op a b σ) (kCh3 T n sc fr r' op' b B)) : kCh2 T n sc fr op a r' op' B b σ := h
theorem kk_ch3_t {r' op' b c} (hc : c = true) (h : W (lvE T n sc fr r' σ) (kCmp2 op' b B)) : kCh3 T n sc fr r' op' b B c σ := by unfold kCh3; rw [if_pos hc]; exact h
theorem kk_ch3_f {r' op' b c} (hc : c = false) (h : B false σ) : kCh3 T n sc fr r' op' b B c σ := by unfold kCh3; rw [hc, if_neg Bool.false_ne_true]; exact h
theorem kk_truth {b} (h : B b σ) : kTruth B (.d (.bool b)) σ := ⟨b, rfl, h⟩
theorem kk_expr (h : X (.next, fr) σ) : kExpr fr X (.d .none) σ := ⟨.inl rfl, h⟩
theorem kk_expr_i {i} (h : X (.next, fr) σ) : kExpr fr X (.d (.int i)) σ := ⟨.inr ⟨i, rfl⟩, h⟩
theorem kk_ret {u} (h : X (.ret u, fr) σ) : kRet fr X u σ := h
theorem kk_asg {x u} (h : X (.next, putV fr x u) σ) : kAsg fr x X u σ := h
theorem kk_asub {o i u} (h : W (lvE T n sc fr o σ) (kAsub2 T n sc fr i u X)) : kAsub T n sc fr o i X u σ := h
theorem kk_asub2 {i u ov} (h : W (lvE T n sc fr i σ) (kAsub3 fr u ov X)) : kAsub2 T n sc fr i u X ov σ := h
theorem kk_asub3 {u ov iv} (h : ∃ j k kvs, ov = .st j ∧ iv = .d (.str k) ∧ σ[j]? = some (.dict kvs) ∧ Nat.blt kvs.length 1000 = true ∧ X (.next, fr) (σ.set j (.dict (putD kvs k u)))) : kAsub3 fr u ov X iv σ := h
theorem kk_aat {o name u} (h : W (lvE T n sc fr o σ) (kAat2 T fr name u X)) : kAat T n sc fr o name X u σ := h
theorem kk_aat2 {name u ov} (h : ∃ j c kvs, ov = .st j ∧ σ[j]? = some (.inst c kvs) ∧ (T.attr c name && Nat.blt kvs.length 1000) = true ∧ X (.next, fr) (σ.set j (.inst c (putD kvs name u)))) : kAat2 T fr name u X ov σ := h
theorem kk_ifx_t {b o c} (hc : c = true) (h : W (seqS (lvX T n sc) b fr σ) X) : kIfX T n sc fr b o X c σ := by unfold kIfX; rw [if_pos hc]; exact h
theorem kk_ifx_f {b o c} (hc : c = false) (h : W (seqS (lvX T n sc) o fr σ) X) : kIfX T n sc fr b o X c σ := by unfold kIfX; rw [hc, if_neg Bool.false_ne_true]; exact h
theorem kk_ifx {b o c} (h : if c = true then W (seqS (lvX T n sc) b fr σ) X else W (seqS (lvX T n sc) o fr σ) X) : kIfX T n sc fr b o X c σ := h
theorem kk_seq_n {f r} (h : W (seqS f r fr σ) X) : kSeq f r X (.next, fr) σ := h
theorem kk_seq_r {f r v} (h : X (.ret v, fr) σ) : kSeq f r X (.ret v, fr) σ := h
theorem kk_run_n (h : Q (.d .none) σ) : kRun Q (.next, fr) σ := h
theorem kk_run_r {v} (h : Q v σ) : kRun Q (.ret v, fr) σ := h
/-! lookups in a frame -/
theorem lk_put {l : Vars} {x : Str} {v : V} : (putV l x v).lookup x = some v := by rw [lookup_putV', if_pos (beq_self_eq_true x)]
theorem lk_past {l : Vars} {x y : Str} {v : V} {r : Option V} (h : (y == x) = false) (hl : l.lookup y = r) : (putV l x v).lookup y = r := by rw [lookup_putV', if_neg (by rw [h]; exact Bool.false_ne_true)]; exact hl
theorem lk_hit {l : Vars} {x : Str} {v : V} : ((x, v) :: l).lookup x = some v := List.lookup_cons_self
theorem lk_miss {l : Vars} {x y : Str} {v : V} {r : Option V} (h : (y == x) = false) (hl : l.lookup y = r) : ((x, v) :: l).lookup y = r := by rw [List.lookup_cons, h]; exact hl
theorem lk_nil {x : Str} : ([] : Vars).lookup x = none := rfl
/-- the k-th name of a frame is x, and none before it is -/
noncomputable def hitAt (l : Vars) : Nat → Str → Bool := List.rec (motive := fun _ => Nat → Str → Bool) (fun _ _ => false) (fun a _ ih k x => Nat.casesOn (motive := fun _ => Bool) k (x == a.1) fun k => !(x == a.1) && ih k x) l
noncomputable def valAt (l : Vars) : Nat → Option V := List.rec (motive := fun _ => Nat → Option V) (fun _ => none) (fun a _ ih k => Nat.casesOn (motive := fun _ => Option V) k (some a.2) ih) l
theorem lk_at (k : Nat) {fr : Vars} {x : Str} {v : V} (h : hitAt fr k x = true) (e : valAt fr k = some v) : fr.lookup x = some v := by
  induction fr generalizing k with
  | nil => exact nomatch h
  | cons a l ih =>
    obtain ⟨y, u⟩ := a
    cases k with
    | zero =>
      have h : (x == y) = true := h
      have e : some u = some v := e
      rw [List.lookup_cons, h]; exact e
    | succ k =>
      have h : (!(x == y) && hitAt l k x) = true := h
      have h := Bool.and_eq_true_iff.mp h
      have h0 : (x == y) = false := by simpa using h.1
      rw [List.lookup_cons, h0]; exact ih k h.2 e
theorem w_if_t {c : Bool} {p q : Prop} (hc : c = true) (h : p) : if c = true then p else q := by rw [if_pos hc]; exact h
theorem w_if_f {c : Bool} {p q : Prop} (hc : c = false) (h : q) : if c = true then p else q := by rw [hc, if_neg Bool.false_ne_true]; exact h
theorem p_add {i j : Int} (h : Q (.d (.int (i + j))) σ) : W (binop .Add (.d (.int i)) (.d (.int j)) σ) Q := ⟨_, _, rfl, h⟩
theorem p_sub {i j : Int} (h : Q (.d (.int (i - j))) σ) : W (binop .Sub (.d (.int i)) (.d (.int j)) σ) Q := ⟨_, _, rfl, h⟩
theorem mid_mk {i : Int} (h1 : -1000000000000 < i) (h2 : i < 1000000000000) : mid i = true := by
  unfold mid
  rw [decide_eq_true (show -(2 ^ 40) < i by lia), decide_eq_true (show i < 2 ^ 40 by lia)]
  rfl
theorem p_mul {i j : Int} (h1 : -1000000000000 < i) (h2 : i < 1000000000000) (h3 : -1000000000000 < j) (h4 : j < 1000000000000) (h : Q (.d (.int (i * j))) σ) : W (binop .Mult (.d (.int i)) (.d (.int j)) σ) Q := by
  show W (orr (gd (mid i && mid j) (some (.d (.int (i * j)), σ))) _) Q
  exact w_orl (w_gd (by rw [mid_mk h1 h2, mid_mk h3 h4]; rfl) (w_now h))
theorem p_mod {i j : Int} (h1 : 0 < j) (h2 : j < 1000000000000) (h : Q (.d (.int (i % j))) σ) : W (binop .Mod (.d (.int i)) (.d (.int j)) σ) Q := by
  show W (gd (decide (0 < j) && mid j) (some (.d (.int (i % j)), σ))) Q
  exact w_gd (by rw [decide_eq_true h1, mid_mk (by lia) h2]; rfl) (w_now h)
theorem p_lt {i j : Int} (h : B (decide (i < j)) σ) : W (cmpop .Lt (.d (.int i)) (.d (.int j)) σ) B := ⟨_, _, rfl, h⟩
theorem p_le {i j : Int} (h : B (decide (i ≤ j)) σ) : W (cmpop .LtE (.d (.int i)) (.d (.int j)) σ) B := ⟨_, _, rfl, h⟩
theorem p_gt {i j : Int} (h : B (decide (i > j)) σ) : W (cmpop .Gt (.d (.int i)) (.d (.int j)) σ) B := ⟨_, _, rfl, h⟩
theorem eqv_int (i j : Int) : PyData.eqv (.int i) (.int j) = decide (i = j) := by
  show (i == j) = _
  by_cases h : i = j
  · subst h; simp
  · simp [h]
theorem shaped_int (i : Int) : shapedD (.int i) = true := rfl
theorem p_eq_d {x y : PyData} (hs : (shapedD x && shapedD y) = true) (h : B (PyData.eqv x y) σ) : W (cmpop .Eq (.d x) (.d y) σ) B := by
  show W (ob (gd (shapedD x && shapedD y) (some (PyData.eqv x y))) fun c => some (c, σ)) B
  exact w_ob (gd_mk hs rfl) (w_now h)
theorem p_ne_d {x y : PyData} (hs : (shapedD x && shapedD y) = true) (h : B (!PyData.eqv x y) σ) : W (cmpop .NotEq (.d x) (.d y) σ) B := by
  show W (ob (ob (gd (shapedD x && shapedD y) (some (PyData.eqv x y))) fun c => some !c) fun c => some (c, σ)) B
  exact w_ob (ob_mk (gd_mk hs rfl) rfl) (w_now h)
theorem p_eq {i j : Int} (h : B (decide (i = j)) σ) : W (cmpop .Eq (.d (.int i)) (.d (.int j)) σ) B := p_eq_d rfl (by rw [eqv_int]; exact h)
theorem p_ne {i j : Int} (h : B (!decide (i = j)) σ) : W (cmpop .NotEq (.d (.int i)) (.d (.int j)) σ) B := p_ne_d rfl (by rw [eqv_int]; exact h)
end

/-! more rules -/
noncomputable def walks (v : V) (xs : List V) : Prop := ∀ (i : Nat) (σ : Sto), itemAt σ v i = some xs[i]?
theorem walks_list {ds : List PyData} : walks (.d (.list ds)) (ds.map .d) := fun i σ => congrArg some (List.getElem?_map ..).symm
theorem walks_tuple {ds : List PyData} : walks (.d (.tuple ds)) (ds.map .d) := fun i σ => congrArg some (List.getElem?_map ..).symm
theorem numsUp_succ {m : Nat} {a : Int} : numsUp a (m + 1) = a :: numsUp (a + 1) m := rfl
theorem numsUp_len (m : Nat) (a : Int) : (numsUp a m).length = m := by
  induction m generalizing a with
  | zero => rfl
  | succ m ih => exact congrArg (· + 1) (ih (a + 1))
theorem numsUp_get (m : Nat) (a : Int) (i : Nat) : (numsUp a m)[i]? = if i < m then some (a + i) else none := by
  induction m generalizing a i with
  | zero => exact (if_neg (Nat.not_lt_zero _)).symm
  | succ m ih =>
    show (a :: numsUp (a + 1) m)[i]? = _
    cases i with
    | zero => rw [if_pos (Nat.succ_pos _), Int.natCast_zero, Int.add_zero]; rfl
    | succ i =>
      rw [List.getElem?_cons_succ, ih]
      by_cases h : i < m
      · rw [if_pos h, if_pos (Nat.succ_lt_succ h)]; congr 1; push_cast; lia
      · rw [if_neg h, if_neg (fun q => h (Nat.lt_of_succ_lt_succ q))]
theorem walks_rng {a b : Int} : walks (.rng a b) ((numsUp a (b - a).toNat).map fun i => .d (.int i)) := fun i σ => by
  show br (decide (a + (i : Int) < b)) (some (some (V.d (.int (a + i))))) (some none) = _
  rw [List.getElem?_map, numsUp_get]
  by_cases h : a + i < b
  · rw [decide_eq_true h, if_pos (by lia)]; rfl
  · rw [decide_eq_false h, if_neg (by lia)]; rfl

noncomputable def forL (bind : V → Vars → Option Vars) (body : Vars → Sto → Res (Fl × Vars)) (xs : List V) : Vars → Sto → Res (Fl × Vars) :=
  List.rec (motive := fun _ => Vars → Sto → Res (Fl × Vars)) (fun fr σ => some ((.next, fr), σ)) (fun x _ ih fr σ => ob (bind x fr) fun fr => bd (body fr σ) fun p σ => goOn p ih σ) xs
noncomputable def compL (turn : V → Sto → List PyData → Res (List PyData)) (xs : List V) : Sto → List PyData → Res (List PyData) :=
  List.rec (motive := fun _ => Sto → List PyData → Res (List PyData)) (fun σ acc => some (acc, σ)) (fun x _ ih σ acc => bd (turn x σ acc) fun acc σ => ih σ acc) xs

section
variable {T : Tab} {n : Nat} {sc : Scope} {fr fr' : Vars} {σ : Sto} {Q : V → Sto → Prop} {B : Bool → Sto → Prop} {X : Fl × Vars → Sto → Prop} {S : List V → Sto → Prop} {C : List PyData → Sto → Prop}
theorem wg_inv' {v : V} {bind : V → Vars → Option Vars} {xs : List V} {body : Vars → Sto → Res (Fl × Vars)} (I : List V → Vars → Sto → Prop) (hv : ∀ r fr σ i, I r fr σ → itemAt σ v i = some xs[i]?) (hl : xs.length < 100) (h0 : I xs fr σ)
    (hs : ∀ y r fr σ, I (y :: r) fr σ → ∃ fr₁, bind y fr = some fr₁ ∧ W (body fr₁ σ) fun p σ₁ => match p with | (.next, fr') => I r fr' σ₁ | (.ret v, fr') => X (.ret v, fr') σ₁) (he : ∀ fr σ, I [] fr σ → X (.next, fr) σ) : W (forGo v bind body turnsMost 0 fr σ) X := by
  have key : ∀ (m i : Nat) (fr : Vars) (σ : Sto), xs.length < m + i → i ≤ xs.length → I (xs.drop i) fr σ → W (forGo v bind body m i fr σ) X := by
    intro m
    induction m with
    | zero => intro i fr σ h h'; lia
    | succ m ih =>
      intro i fr σ h h' hI
      show W (ob (itemAt σ v i) fun o => Option.rec (motive := fun _ => Res (Fl × Vars)) (some ((.next, fr), σ)) (fun x => ob (bind x fr) fun fr => bd (body fr σ) fun p σ => goOn p (forGo v bind body m (i + 1)) σ) o) X
      refine w_ob (hv _ _ _ i hI) ?_
      by_cases hi : i < xs.length
      · rw [List.getElem?_eq_getElem hi]
        rw [List.drop_eq_getElem_cons hi] at hI
        obtain ⟨fr₁, e0, h2⟩ := hs _ _ _ _ hI
        refine w_ob e0 (w_bd (h2.mono fun p σ h => w_goOn ?_))
        obtain ⟨fl, fr'⟩ := p
        cases fl with
        | next => exact ih (i + 1) fr' _ (by lia) (by lia) h
        | ret u => exact h
      · rw [List.getElem?_eq_none (Nat.le_of_not_lt hi)]
        rw [List.drop_eq_nil_of_le (Nat.le_of_not_lt hi)] at hI
        exact w_now (he _ _ hI)
  exact key turnsMost 0 fr σ (by unfold turnsMost; lia) (by lia) h0
theorem wg_inv {v x} {xs : List V} {body : Vars → Sto → Res (Fl × Vars)} (I : List V → Vars → Sto → Prop) (hv : ∀ r fr σ i, I r fr σ → itemAt σ v i = some xs[i]?) (hl : xs.length < 100) (h0 : I xs fr σ)
    (hs : ∀ y r fr σ, I (y :: r) fr σ → W (body (putV fr x y) σ) fun p σ₁ => match p with | (.next, fr') => I r fr' σ₁ | (.ret v, fr') => X (.ret v, fr') σ₁) (he : ∀ fr σ, I [] fr σ → X (.next, fr) σ) : W (forGo v (fun y fr => some (putV fr x y)) body turnsMost 0 fr σ) X :=
  wg_inv' I hv hl h0 (fun y r fr σ h => ⟨_, rfl, hs y r fr σ h⟩) he
theorem wf_nil {bind body} (h : X (.next, fr) σ) : W (forL bind body [] fr σ) X := ⟨_, _, rfl, h⟩
theorem wl_cons {bind : V → Vars → Option Vars} {y r} {body : Vars → Sto → Res (Fl × Vars)} {fr₁ : Vars} (e : bind y fr = some fr₁) (h : W (body fr₁ σ) fun p σ₁ => match p with | (.next, fr') => W (forL bind body r fr' σ₁) X | (.ret v, fr') => X (.ret v, fr') σ₁) : W (forL bind body (y :: r) fr σ) X := by
  show W (ob (bind y fr) fun fr => bd (body fr σ) fun p σ => goOn p (forL bind body r) σ) X
  exact w_ob e (w_bd (h.mono fun p σ h => w_goOn h))
theorem forGo_forL {v : V} {bind : V → Vars → Option Vars} {body : Vars → Sto → Res (Fl × Vars)} {xs : List V} (hv : walks v xs) (hl : xs.length < 100) (h : W (forL bind body xs fr σ) X) : W (forGo v bind body turnsMost 0 fr σ) X := by
  refine wg_inv' (xs := xs) (fun r fr σ => W (forL bind body r fr σ) X) (fun _ _ σ i _ => hv i σ) hl h (fun y r fr σ h => ?_) (fun fr σ h => ?_)
  · obtain ⟨p, s, e, h⟩ := h
    obtain ⟨fr₁, e1, e⟩ := ob_inv (show (ob (bind y fr) fun fr => bd (body fr σ) fun p σ => goOn p (forL bind body r) σ) = some (p, s) from e)
    obtain ⟨⟨fl, fr'⟩, s1, e2, e⟩ := bd_inv e
    refine ⟨fr₁, e1, (fl, fr'), s1, e2, ?_⟩
    cases fl with
    | next => exact ⟨p, s, e, h⟩
    | ret u => cases e; exact h
  · obtain ⟨p, s, e, h⟩ := h
    cases e
    exact h
theorem wx_forD {x xp it b p} (hx : (canSet sc x && !isSetE it) = true) (h : W (lvE T n sc fr it σ) fun v σ₁ => ∃ xs, walks v xs ∧ xs.length < 100 ∧ W (forL (fun y fr => some (putV fr x y)) (seqS (lvX T n sc) b) xs fr σ₁) X) :
    W (lvX T (n + 1) sc (.For (.Name x xp) it b [] p) fr σ) X :=
  wx_for hx (h.mono fun v σ h => by obtain ⟨xs, hv, hl, h⟩ := h; exact forGo_forL hv hl h)
noncomputable def kForL (x : Str) (body : Vars → Sto → Res (Fl × Vars)) (r : List V) (X : Fl × Vars → Sto → Prop) : Fl × Vars → Sto → Prop := fun p σ₁ => match p with | (.next, fr') => W (forL (fun y fr => some (putV fr x y)) body r fr' σ₁) X | (.ret v, fr') => X (.ret v, fr') σ₁
theorem kk_for_n {x body r} (h : W (forL (fun y fr => some (putV fr x y)) body r fr σ) X) : kForL x body r X (.next, fr) σ := h
theorem kk_for_r {x body r v} (h : X (.ret v, fr) σ) : kForL x body r X (.ret v, fr) σ := h
theorem wf_cons {x y r} {body : Vars → Sto → Res (Fl × Vars)} (h : W (body (putV fr x y) σ) (kForL x body r X)) : W (forL (fun y fr => some (putV fr x y)) body (y :: r) fr σ) X := wl_cons rfl h
theorem wf_inv {x xs} {body : Vars → Sto → Res (Fl × Vars)} (I : List V → Vars → Sto → Prop) (h0 : I xs fr σ)
    (hs : ∀ y r fr σ, I (y :: r) fr σ → W (body (putV fr x y) σ) fun p σ₁ => match p with | (.next, fr') => I r fr' σ₁ | (.ret v, fr') => X (.ret v, fr') σ₁) (he : ∀ fr σ, I [] fr σ → X (.next, fr) σ) : W (forL (fun y fr => some (putV fr x y)) body xs fr σ) X := by
  induction xs generalizing fr σ with
  | nil => exact wf_nil (he _ _ h0)
  | cons y r ih =>
    refine wf_cons ((hs _ _ _ _ h0).mono fun p σ₁ h => ?_)
    obtain ⟨fl, fr'⟩ := p
    cases fl with
    | next => exact ih h
    | ret v => exact h
theorem ww_step {m} {test : Vars → Sto → Res Bool} {body : Vars → Sto → Res (Fl × Vars)} (h : W (test fr σ) fun b σ₁ => if b = true then W (body fr σ₁) (fun p σ₂ => match p with | (.next, fr') => W (whileGo test body m fr' σ₂) X | (.ret v, fr') => X (.ret v, fr') σ₂) else X (.next, fr) σ₁) : W (whileGo test body (m + 1) fr σ) X := by
  show W (bd (test fr σ) fun b σ => br b (bd (body fr σ) fun p σ => goOn p (whileGo test body m) σ) (some ((.next, fr), σ))) X
  refine w_bd (h.mono fun b σ h => w_br ?_)
  cases b with
  | false => exact w_now h
  | true => exact w_bd (W.mono h fun p σ h => w_goOn h)
theorem wx_asgTt {ts k tp vs k' vp p} (hn : namesApart ts [] = true) (hc : (vs.all (constantsAlone 8) || !Nat.blt vs.length 1000) = false) (h : W (seqE (lvE T n sc fr) vs σ) fun us σ₁ => ∃ fr', bindAll sc ts us fr = some fr' ∧ X (.next, fr') σ₁) :
    W (lvX T (n + 1) sc (.Assign [.Tuple ts k tp] (.Tuple vs k' vp) p) fr σ) X := by
  show W (gd (namesApart ts []) (gd (!(vs.all (constantsAlone 8) || !Nat.blt vs.length 1000)) (bd (seqE (lvE T n sc fr) vs σ) fun us σ => ob (bindAll sc ts us fr) fun fr => some ((.next, fr), σ)))) X
  exact w_gd hn (w_gd (by rw [hc]; rfl) (w_bd (h.mono fun us σ h => by obtain ⟨fr', e, h⟩ := h; exact w_ob e (w_now h))))
theorem wx_asgTl {ts k tp elt gs scope vp p} (hn : namesApart ts [] = true) (h : W (lvE T n sc fr (.ListComp elt gs scope vp) σ) fun v σ₁ => ∃ xs fr', v = .d (.list xs) ∧ bindAll sc ts (xs.map .d) fr = some fr' ∧ X (.next, fr') σ₁) :
    W (lvX T (n + 1) sc (.Assign [.Tuple ts k tp] (.ListComp elt gs scope vp) p) fr σ) X := by
  show W (gd (namesApart ts []) (bd (lvE T n sc fr (.ListComp elt gs scope vp) σ) fun u σ => ob (vD u) fun x => ob (orr (dTup x) (dList x)) fun xs => ob (bindAll sc ts (xs.map .d) fr) fun fr => some ((.next, fr), σ))) X
  exact w_gd hn (w_bd (h.mono fun u σ h => by obtain ⟨xs, fr', rfl, e, h⟩ := h; exact w_ob rfl (w_ob rfl (w_ob e (w_now h)))))
theorem wx_zip {x xp y yp k tp f fp p q cp b pp} (hx : (!canSet sc x || !canSet sc y || isStarE p || isStarE q || x == y) = false)
    (h : W (lvE T n sc fr (.Name f fp) σ) fun g σ₁ => g = .val (.type "zip") ∧ W (lvE T n sc fr p σ₁) fun u σ₂ => W (lvE T n sc fr q σ₂) fun v σ₃ => ∃ us vs, u = .d (.list us) ∧ v = .d (.list vs) ∧ (pairUp us vs).length < 100 ∧
      W (forL (zipBind x y) (seqS (lvX T n sc) b) ((pairUp us vs).map .d) fr σ₃) X) :
    W (lvX T (n + 1) sc (.For (.Tuple [.Name x xp, .Name y yp] k tp) (.Call (.Name f fp) [p, q] [] cp) b [] pp) fr σ) X := by
  show W (gd (canSet sc x && canSet sc y && !isStarE p && !isStarE q && !(x == y)) (bd (lvE T n sc fr (.Name f fp) σ) fun z σ => ob (vVal z) fun z => ob (tyOf z) fun c => gd (decide (c = "zip")) (
    bd (lvE T n sc fr p σ) fun u σ => ob (listOf u) fun us => bd (lvE T n sc fr q σ) fun v σ => ob (listOf v) fun vs => forGo (.d (.list (pairUp us vs))) (zipBind x y) (seqS (lvX T n sc) b) turnsMost 0 fr σ))) X
  have hx : (canSet sc x && canSet sc y && !isStarE p && !isStarE q && !(x == y)) = true := by
    have key : ∀ a b c d e : Bool, (!a || !b || c || d || e) = false → (a && b && !c && !d && !e) = true := by decide
    exact key _ _ _ _ _ hx
  refine w_gd hx (w_bd (h.mono fun g σ h => ?_))
  obtain ⟨rfl, h⟩ := h
  refine w_ob rfl (w_ob (a := "zip") rfl (w_gd (decide_eq_true rfl) (w_bd (W.mono h fun u σ h => ?_))))
  obtain ⟨v, s3, e3, us, vs, rfl, rfl, hl, h⟩ := h
  exact w_ob rfl ⟨_, _, bd_mk e3 (ob_mk (a := vs) rfl (forGo_forL walks_list (by rw [List.length_map]; exact hl) h).choose_spec.choose_spec.1), (forGo_forL walks_list (by rw [List.length_map]; exact hl) h).choose_spec.choose_spec.2⟩
theorem wz_cons {x y a b r} {body : Vars → Sto → Res (Fl × Vars)} (h : W (body (putV (putV fr x (.d a)) y (.d b)) σ) fun p σ₁ => match p with | (.next, fr') => W (forL (zipBind x y) body r fr' σ₁) X | (.ret v, fr') => X (.ret v, fr') σ₁) : W (forL (zipBind x y) body (.d (.tuple [a, b]) :: r) fr σ) X := wl_cons rfl h

noncomputable def turn1 (L : Lv) (sc : Scope) (elt : Expr) (x : Str) (ifs : List Expr) (fr : Vars) : V → Sto → List PyData → Res (List PyData) := turnC L sc elt x ifs none (compAll L sc elt []) fr
noncomputable def turn2 (L : Lv) (sc : Scope) (elt : Expr) (x : Str) (ifs : List Expr) (g : Comprehension) (fr : Vars) : V → Sto → List PyData → Res (List PyData) := turnC L sc elt x ifs (some g) (compAll L sc elt [g]) fr
theorem wcg_inv {v turn} {xs : List V} {acc : List PyData} (I : List V → Sto → List PyData → Prop) (hv : ∀ r σ acc i, I r σ acc → itemAt σ v i = some xs[i]?) (hl : xs.length < 100) (h0 : I xs σ acc)
    (hs : ∀ y r σ acc, I (y :: r) σ acc → W (turn y σ acc) fun acc' σ₁ => I r σ₁ acc') (he : ∀ σ acc, I [] σ acc → C acc σ) : W (compGo v turn turnsMost 0 σ acc) C := by
  have key : ∀ (m i : Nat) (σ : Sto) (acc : List PyData), xs.length < m + i → i ≤ xs.length → I (xs.drop i) σ acc → W (compGo v turn m i σ acc) C := by
    intro m
    induction m with
    | zero => intro i σ acc h h'; lia
    | succ m ih =>
      intro i σ acc h h' hI
      show W (ob (itemAt σ v i) fun o => Option.rec (motive := fun _ => Res (List PyData)) (some (acc, σ)) (fun x => bd (turn x σ acc) fun acc σ => compGo v turn m (i + 1) σ acc) o) C
      refine w_ob (hv _ _ _ i hI) ?_
      by_cases hi : i < xs.length
      · rw [List.getElem?_eq_getElem hi]
        rw [List.drop_eq_getElem_cons hi] at hI
        exact w_bd ((hs _ _ _ _ hI).mono fun a σ h => ih (i + 1) _ _ (by lia) (by lia) h)
      · rw [List.getElem?_eq_none (Nat.le_of_not_lt hi)]
        rw [List.drop_eq_nil_of_le (Nat.le_of_not_lt hi)] at hI
        exact w_now (he _ _ hI)
  exact key turnsMost 0 σ acc (by unfold turnsMost; lia) (by lia) h0
theorem compGo_compL {v turn} {xs : List V} {acc : List PyData} (hv : walks v xs) (hl : xs.length < 100) (h : W (compL turn xs σ acc) C) : W (compGo v turn turnsMost 0 σ acc) C := by
  refine wcg_inv (xs := xs) (fun r σ acc => W (compL turn r σ acc) C) (fun _ σ _ i _ => hv i σ) hl h (fun y r σ acc h => ?_) (fun σ acc h => ?_)
  · obtain ⟨p, s, e, h⟩ := h
    obtain ⟨a, s1, e1, e⟩ := bd_inv (show (bd (turn y σ acc) fun acc σ => compL turn r σ acc) = some (p, s) from e)
    exact ⟨a, s1, e1, p, s, e, h⟩
  · obtain ⟨p, s, e, h⟩ := h
    cases e
    exact h
theorem w_clause {elt x xp it ifs gs v acc} {L : Lv} (hc : (!canSet sc x || isSetE it || (fr.lookup x).isSome) = false) (h : W (compGo v (turnC L sc elt x ifs gs.head? (compAll L sc elt gs) fr) turnsMost 0 σ acc) C) : W (compAll L sc elt (⟨.Name x xp, it, ifs, 0⟩ :: gs) fr v σ acc) C := by
  show W (gd (((0 : Int) == 0) && !(!canSet sc x || isSetE it || (fr.lookup x).isSome)) (compGo v (turnC L sc elt x ifs gs.head? (compAll L sc elt gs) fr) turnsMost 0 σ acc)) C
  exact w_gd (by rw [hc]; rfl) h
theorem wc_one {elt x xp it ifs v xs acc} {L : Lv} (hc : (!canSet sc x || isSetE it || (fr.lookup x).isSome) = false) (hv : walks v xs) (hl : xs.length < 100) (h : W (compL (turn1 L sc elt x ifs fr) xs σ acc) C) : W (compAll L sc elt [⟨.Name x xp, it, ifs, 0⟩] fr v σ acc) C :=
  w_clause hc (compGo_compL hv hl h)
theorem wc_two {elt x xp it ifs g v xs acc} {L : Lv} (hc : (!canSet sc x || isSetE it || (fr.lookup x).isSome) = false) (hv : walks v xs) (hl : xs.length < 100) (h : W (compL (turn2 L sc elt x ifs g fr) xs σ acc) C) : W (compAll L sc elt [⟨.Name x xp, it, ifs, 0⟩, g] fr v σ acc) C :=
  w_clause hc (compGo_compL hv hl h)
theorem wc_nil {turn acc} (h : C acc σ) : W (compL turn [] σ acc) C := ⟨_, _, rfl, h⟩
noncomputable def kTurns (turn : V → Sto → List PyData → Res (List PyData)) (r : List V) (C : List PyData → Sto → Prop) : List PyData → Sto → Prop := fun acc' σ₁ => W (compL turn r σ₁ acc') C
theorem kk_turns {turn r acc} (h : W (compL turn r σ acc) C) : kTurns turn r C acc σ := h
theorem wc_cons {turn acc y r} (h : W (turn y σ acc) (kTurns turn r C)) : W (compL turn (y :: r) σ acc) C := by
  show W (bd (turn y σ acc) fun acc σ => compL turn r σ acc) C
  exact w_bd h
theorem wc_inv {turn xs acc} (I : List V → Sto → List PyData → Prop) (h0 : I xs σ acc) (hs : ∀ y r σ acc, I (y :: r) σ acc → W (turn y σ acc) fun acc' σ₁ => I r σ₁ acc') (he : ∀ σ acc, I [] σ acc → C acc σ) : W (compL turn xs σ acc) C := by
  induction xs generalizing σ acc with
  | nil => exact wc_nil (he _ _ h0)
  | cons y r ih => exact wc_cons ((hs _ _ _ _ h0).mono fun acc' σ₁ h => ih h)
noncomputable def kPut (acc : List PyData) (C : List PyData → Sto → Prop) : V → Sto → Prop := fun v σ₂ => ∃ r, v = .d r ∧ small acc = true ∧ C (acc ++ [r]) σ₂
noncomputable def kTurn (T : Tab) (n : Nat) (sc : Scope) (fr : Vars) (elt : Expr) (acc : List PyData) (C : List PyData → Sto → Prop) : Bool → Sto → Prop := fun b σ₁ => if b = true then W (lvE T n sc fr elt σ₁) (kPut acc C) else C acc σ₁
noncomputable def kTurn2 (T : Tab) (n : Nat) (sc : Scope) (fr : Vars) (elt : Expr) (g : Comprehension) (acc : List PyData) (C : List PyData → Sto → Prop) : Bool → Sto → Prop := fun b σ₁ => if b = true then W (lvE T n sc fr g.iter σ₁) (fun u σ₂ => W (compAll (level T n) sc elt [g] fr u σ₂ acc) C) else C acc σ₁
theorem kk_put {acc r} (hs : small acc = true) (h : C (acc ++ [r]) σ) : kPut acc C (.d r) σ := ⟨r, rfl, hs, h⟩
theorem kk_put' {acc r} (h : small acc = true ∧ C (acc ++ [r]) σ) : kPut acc C (.d r) σ := ⟨r, rfl, h⟩
theorem kk_turn_t {elt acc b} (hb : b = true) (h : W (lvE T n sc fr elt σ) (kPut acc C)) : kTurn T n sc fr elt acc C b σ := by unfold kTurn; rw [if_pos hb]; exact h
theorem kk_turn_f {elt acc b} (hb : b = false) (h : C acc σ) : kTurn T n sc fr elt acc C b σ := by unfold kTurn; rw [hb, if_neg Bool.false_ne_true]; exact h
theorem kk_turn {elt acc b} (h : if b = true then W (lvE T n sc fr elt σ) (kPut acc C) else C acc σ) : kTurn T n sc fr elt acc C b σ := h
theorem kk_turn2_t {elt g acc b} (hb : b = true) (h : W (lvE T n sc fr g.iter σ) (fun u σ₂ => W (compAll (level T n) sc elt [g] fr u σ₂ acc) C)) : kTurn2 T n sc fr elt g acc C b σ := by unfold kTurn2; rw [if_pos hb]; exact h
theorem wc_turn {elt x ifs y acc} (h : W (allT (lvT T n sc (putV fr x y)) true ifs σ) (kTurn T n sc (putV fr x y) elt acc C)) : W (turn1 (level T n) sc elt x ifs fr y σ acc) C := by
  show W (bd (allT (lvT T n sc (putV fr x y)) true ifs σ) fun b σ => br b (bd (lvE T n sc (putV fr x y) elt σ) fun u σ => ob (vD u) fun r => gd (small acc) (some (acc ++ [r], σ))) (some (acc, σ))) C
  refine w_bd (h.mono fun b σ h => w_br ?_)
  unfold kTurn at h
  cases b with
  | false => exact w_now h
  | true => exact w_bd (W.mono h fun v σ h => by obtain ⟨r, rfl, hs, h⟩ := h; exact w_ob rfl (w_gd hs (w_now h)))
theorem wc_turn2 {elt x ifs g y acc} (h : W (allT (lvT T n sc (putV fr x y)) true ifs σ) (kTurn2 T n sc (putV fr x y) elt g acc C)) : W (turn2 (level T n) sc elt x ifs g fr y σ acc) C := by
  show W (bd (allT (lvT T n sc (putV fr x y)) true ifs σ) fun b σ => br b (bd (lvE T n sc (putV fr x y) g.iter σ) fun u σ => compAll (level T n) sc elt [g] (putV fr x y) u σ acc) (some (acc, σ))) C
  refine w_bd (h.mono fun b σ h => w_br ?_)
  unfold kTurn2 at h
  cases b with
  | false => exact w_now h
  | true => exact w_bd h
noncomputable def kTo (k : Int) (Q : V → Sto → Prop) : V → Sto → Prop := fun v σ => ∃ xs : List PyData, v = .d (.list xs) ∧ (0 ≤ k ∧ k < 1000) ∧ small xs = true ∧ Q (.d (.list (xs.take k.toNat))) σ
theorem kk_to {k : Int} {xs : List PyData} (h : (0 ≤ k ∧ k < 1000) ∧ small xs = true ∧ Q (.d (.list (xs.take k.toNat))) σ) : kTo k Q (.d (.list xs)) σ := ⟨xs, rfl, h⟩
theorem w_to {o i k' ip sp p} {k : Int} (h : W (lvE T n sc fr o σ) (kTo k Q)) (hi : i = .Constant (.int k) k' ip) : W (lvE T (n + 1) sc fr (.Subscript o (.Slice none (some i) none sp) p) σ) Q := by
  subst hi
  show W (orr (bd (lvE T n sc fr o σ) fun a σ => ob (listOf a) fun xs => gd (decide (0 ≤ k) && decide (k < 1000) && small xs) (some (.d (.list (xs.take k.toNat)), σ))) none) Q
  refine w_orl (w_bd (h.mono fun v σ h => ?_))
  obtain ⟨xs, rfl, hk, hs, h⟩ := h
  exact w_ob rfl (w_gd (by rw [decide_eq_true hk.1, decide_eq_true hk.2, hs]; rfl) (w_now h))
noncomputable def kFrom (k : Int) (Q : V → Sto → Prop) : V → Sto → Prop := fun v σ => ∃ xs : List PyData, v = .d (.tuple xs) ∧ (1 ≤ k ∧ k ≤ xs.length) ∧ small xs = true ∧ Q (.d (.tuple (xs.drop k.toNat))) σ
theorem kk_from {k : Int} {xs : List PyData} (h : (1 ≤ k ∧ k ≤ xs.length) ∧ small xs = true ∧ Q (.d (.tuple (xs.drop k.toNat))) σ) : kFrom k Q (.d (.tuple xs)) σ := ⟨xs, rfl, h⟩
theorem w_from {o i k' ip sp p} {k : Int} (h : W (lvE T n sc fr o σ) (kFrom k Q)) (hi : i = .Constant (.int k) k' ip) : W (lvE T (n + 1) sc fr (.Subscript o (.Slice (some i) none none sp) p) σ) Q := by
  subst hi
  show W (bd (lvE T n sc fr o σ) fun a σ => ob (tupOf a) fun xs => gd (decide (1 ≤ k) && decide (k ≤ xs.length) && small xs) (some (.d (.tuple (xs.drop k.toNat)), σ))) Q
  refine w_bd (h.mono fun v σ h => ?_)
  obtain ⟨xs, rfl, hk, hs, h⟩ := h
  exact w_ob rfl (w_gd (by rw [decide_eq_true hk.1, decide_eq_true hk.2, hs]; rfl) (w_now h))
theorem ga {i c kvs name v} (h : σ[i]? = some (.inst c kvs)) (ha : T.attr c name = true) (hv : kvs.lookup name = some v) (hn : notVal v = true) : getAttrO T (.st i) name σ = some v :=
  ob_mk (a := i) rfl (ob_mk (instAt_mk h) (gd_mk ha (ob_mk hv (gd_mk hn rfl))))
theorem sb_dict {i kvs k v} (h : σ[i]? = some (.dict kvs)) (hv : kvs.lookup k = some v) : subscr (.st i) (.d (.str k)) σ = some v := ob_mk (m := dictAt σ i) (f := fun kvs => kvs.lookup k) (dictAt_mk h) hv
theorem sb_at {a : V} {i : Nat} {v} (hi : i < 1000) (h : subInt a i σ = some v) : subscr a (.d (.int i)) σ = some v := by
  show orr (gd (decide (0 ≤ (i : Int)) && decide ((i : Int) < 1000)) (subInt a i σ)) none = _
  rw [decide_eq_true (Int.natCast_nonneg i), decide_eq_true (show (i : Int) < 1000 by lia), h]
  rfl
theorem sb_lst {j xs} {i : Nat} {v} (h : σ[j]? = some (.lst xs)) (hi : i < 1000) (hv : xs[i]? = some v) : subscr (.st j) (.d (.int i)) σ = some v := sb_at hi (ob_mk (m := lstAt σ j) (f := fun xs => xs[i]?) (lstAt_mk h) hv)
theorem sb_tup {xs : List PyData} {i : Nat} {x} (hi : i < 1000) (hv : xs[i]? = some x) : subscr (.d (.tuple xs)) (.d (.int i)) σ = some (.d x) := sb_at hi (congrArg (Option.map V.d) hv)
theorem sb_tup_0 {x : PyData} {r} : subscr (.d (.tuple (x :: r))) (.d (.int 0)) σ = some (.d x) := rfl
theorem sb_tup_1 {x y : PyData} {r} : subscr (.d (.tuple (x :: y :: r))) (.d (.int 1)) σ = some (.d y) := rfl
theorem sb_tup_2 {x y z : PyData} {r} : subscr (.d (.tuple (x :: y :: z :: r))) (.d (.int 2)) σ = some (.d z) := rfl
theorem sb_list_0 {x : PyData} {r} : subscr (.d (.list (x :: r))) (.d (.int 0)) σ = some (.d x) := rfl
theorem sb_list_1 {x y : PyData} {r} : subscr (.d (.list (x :: y :: r))) (.d (.int 1)) σ = some (.d y) := rfl
theorem sb_list_2 {x y z : PyData} {r} : subscr (.d (.list (x :: y :: z :: r))) (.d (.int 2)) σ = some (.d z) := rfl
theorem sb_list {xs : List PyData} {i : Nat} {x} (hi : i < 1000) (hv : xs[i]? = some x) : subscr (.d (.list xs)) (.d (.int i)) σ = some (.d x) := sb_at hi (congrArg (Option.map V.d) hv)
theorem eqv_str (a b : String) : PyData.eqv (.str (Str.ofString a)) (.str (Str.ofString b)) = (a == b) := ofString_beq a b
theorem eqv_bool (a b : Bool) : PyData.eqv (.bool a) (.bool b) = (a == b) := rfl
theorem strOk_any (a : String) (h : PyData.strOk (Str.ofString a) = true) : shapedD (.str (Str.ofString a)) = true := by
  simp only [shapedD, PySem.SeqAt.shaped, PyData.canLay0, h, PyData.depth]; rfl
theorem p_eq_str {a b : String} (ha : PyData.strOk (Str.ofString a) = true) (hb : PyData.strOk (Str.ofString b) = true) (h : B (a == b) σ) : W (cmpop .Eq (.d (.str (Str.ofString a))) (.d (.str (Str.ofString b))) σ) B :=
  p_eq_d (by rw [strOk_any a ha, strOk_any b hb]; rfl) (by rw [eqv_str]; exact h)
theorem p_ne_str {a b : String} (ha : PyData.strOk (Str.ofString a) = true) (hb : PyData.strOk (Str.ofString b) = true) (h : B (!(a == b)) σ) : W (cmpop .NotEq (.d (.str (Str.ofString a))) (.d (.str (Str.ofString b))) σ) B :=
  p_ne_d (by rw [strOk_any a ha, strOk_any b hb]; rfl) (by rw [eqv_str]; exact h)
theorem p_eq_bool {a b : Bool} (h : B (a == b) σ) : W (cmpop .Eq (.d (.bool a)) (.d (.bool b)) σ) B := ⟨_, _, rfl, h⟩
theorem p_in_of {x : PyData} {b : V} {c : Bool} (e : inSeq (.d x) b σ = some c) (h : B c σ) : W (cmpop .In (.d x) b σ) B := by
  show W (ob (orr (inSeq (.d x) b σ) (inDict x b σ)) fun c => some (c, σ)) B
  rw [e]
  exact w_now h
theorem p_nin_of {x : PyData} {b : V} {c : Bool} (e : inSeq (.d x) b σ = some c) (h : B (!c) σ) : W (cmpop .NotIn (.d x) b σ) B := by
  show W (ob (ob (inSeq (.d x) b σ) fun c => some !c) fun c => some (c, σ)) B
  rw [e]
  exact w_now h
theorem in_tup {x : PyData} {ds} (hs : (shapedD (.tuple ds) && shapedD x) = true) : inSeq (.d x) (.d (.tuple ds)) σ = some (ds.any fun y => PyData.eqv y x) := by
  show orr (memT x ds) (inLst x (.d (.tuple ds)) σ) = _
  rw [show memT x ds = _ from gd_mk hs rfl]; rfl
theorem in_list {x : PyData} {ds} (hs : (shapedD (.list ds) && shapedD x) = true) : inSeq (.d x) (.d (.list ds)) σ = some (ds.any fun y => PyData.eqv y x) := by
  show orr (orr (memD x ds) none) (inLst x (.d (.list ds)) σ) = _
  rw [show memD x ds = _ from gd_mk hs rfl]; rfl
theorem in_st {x : PyData} {i xs ds} (e : σ[i]? = some (.lst xs)) (hd : datas xs = some ds) (hs : (shapedD (.list ds) && shapedD x) = true) : inSeq (.d x) (.st i) σ = some (ds.any fun y => PyData.eqv y x) :=
  orr_r (m := none) rfl (ob_mk (m := lstAt σ i) (f := fun xs => ob (datas xs) (memD x)) (lstAt_mk e) (ob_mk hd (gd_mk hs rfl)))
theorem p_in_tup {x : PyData} {ds} (hs : (shapedD (.tuple ds) && shapedD x) = true) (h : B (ds.any fun y => PyData.eqv y x) σ) : W (cmpop .In (.d x) (.d (.tuple ds)) σ) B := p_in_of (in_tup hs) h
theorem p_nin_tup {x : PyData} {ds} (hs : (shapedD (.tuple ds) && shapedD x) = true) (h : B (!ds.any fun y => PyData.eqv y x) σ) : W (cmpop .NotIn (.d x) (.d (.tuple ds)) σ) B := p_nin_of (in_tup hs) h
theorem p_in_list {x : PyData} {ds} (hs : (shapedD (.list ds) && shapedD x) = true) (h : B (ds.any fun y => PyData.eqv y x) σ) : W (cmpop .In (.d x) (.d (.list ds)) σ) B := p_in_of (in_list hs) h
theorem p_nin_list {x : PyData} {ds} (hs : (shapedD (.list ds) && shapedD x) = true) (h : B (!ds.any fun y => PyData.eqv y x) σ) : W (cmpop .NotIn (.d x) (.d (.list ds)) σ) B := p_nin_of (in_list hs) h
theorem p_nin_st {x : PyData} {i xs ds} (e : σ[i]? = some (.lst xs)) (hd : datas xs = some ds) (hs : (shapedD (.list ds) && shapedD x) = true) (h : B (!ds.any fun y => PyData.eqv y x) σ) : W (cmpop .NotIn (.d x) (.st i) σ) B := p_nin_of (in_st e hd hs) h
theorem p_isnot {a b : Bool} (h : B (a != b) σ) : W (cmpop .IsNot (.d (.bool a)) (.d (.bool b)) σ) B := ⟨_, _, rfl, h⟩
theorem p_addT {xs ys : List PyData} (hs : (small xs && small ys) = true) (h : Q (.d (.tuple (xs ++ ys))) σ) : W (binop .Add (.d (.tuple xs)) (.d (.tuple ys)) σ) Q := by
  show W (orr (gd (small xs && small ys) (some (.d (.tuple (xs ++ ys)), σ))) _) Q
  exact w_orl (w_gd hs (w_now h))
theorem bLst_mk {a b : V} {xs ys : List PyData} (ha : itemsD σ a = some (true, xs)) (hb : itemsD σ b = some (true, ys)) (hs : (small xs && small ys) = true) (h : Q (.d (.list (xs ++ ys))) σ) : W (bLst a b σ) Q :=
  w_ob ha (w_ob hb (w_gd (by rw [hs]; rfl) (w_now h)))
theorem p_addLL {xs ys : List PyData} (hs : (small xs && small ys) = true) (h : Q (.d (.list (xs ++ ys))) σ) : W (binop .Add (.d (.list xs)) (.d (.list ys)) σ) Q :=
  w_orr (m := none) rfl (w_orr (m := none) rfl (bLst_mk rfl rfl hs h))
theorem item_st {j : Nat} {xs : List V} {i : Nat} (e : σ[j]? = some (.lst xs)) : itemAt σ (.st j) i = some xs[i]? := ob_mk (m := lstAt σ j) (f := fun xs => some xs[i]?) (lstAt_mk e) rfl
theorem items_st {i vs} {xs : List PyData} (e : σ[i]? = some (.lst vs)) (hd : datas vs = some xs) : itemsD σ (.st i) = some (true, xs) := ob_mk (m := lstAt σ i) (f := fun xs => ob (datas xs) fun ds => some (true, ds)) (lstAt_mk e) (ob_mk hd rfl)
theorem p_addSL {i vs} {xs ys : List PyData} (e : σ[i]? = some (.lst vs)) (hd : datas vs = some xs) (hs : (small xs && small ys) = true) (h : Q (.d (.list (xs ++ ys))) σ) : W (binop .Add (.st i) (.d (.list ys)) σ) Q :=
  w_orr (m := none) rfl (w_orr (m := none) rfl (bLst_mk (items_st e hd) rfl hs h))
theorem p_addLS {i vs} {xs ys : List PyData} (e : σ[i]? = some (.lst vs)) (hd : datas vs = some ys) (hs : (small xs && small ys) = true) (h : Q (.d (.list (xs ++ ys))) σ) : W (binop .Add (.d (.list xs)) (.st i) σ) Q :=
  w_orr (m := none) rfl (w_orr (m := none) rfl (bLst_mk rfl (items_st e hd) hs h))
theorem w_blt {id : String} {vs} (h : W (callId id vs σ) Q) : W (callBlt (.builtin id) vs σ) Q := w_orl h
theorem w_ty {c : String} {vs} (h : W (callTy c vs σ) Q) : W (callBlt (.type c) vs σ) Q := w_orr (m := none) rfl h
theorem b_len {v : V} {k : Nat} (e : lenOf v σ = some k) (hs : Nat.blt k 1000 = true) (h : Q (.d (.int k)) σ) : W (callBlt (.builtin "len") [v] σ) Q :=
  w_blt (w_orr (by kernel_rfl) (w_orl (w_gd (by kernel_rfl) (w_ob (a := v) rfl (w_ob (ob_mk e (gd_mk hs rfl)) (w_now h))))))
theorem b_len_l {xs : List PyData} (hs : small xs = true) (h : Q (.d (.int xs.length)) σ) : W (callBlt (.builtin "len") [.d (.list xs)] σ) Q := b_len rfl hs h
theorem b_len_t {xs : List PyData} (hs : small xs = true) (h : Q (.d (.int xs.length)) σ) : W (callBlt (.builtin "len") [.d (.tuple xs)] σ) Q := b_len rfl hs h
theorem b_abs {i : Int} (h : Q (.d (.int i.natAbs)) σ) : W (callBlt (.builtin "abs") [.d (.int i)] σ) Q := ⟨_, _, rfl, h⟩
theorem b_tuple {v : V} {xs : List PyData} (e : itemsD σ v = some (true, xs)) (hs : small xs = true) (h : Q (.d (.tuple xs)) σ) : W (callBlt (.type "tuple") [v] σ) Q :=
  w_ty (w_orr (by kernel_rfl) (w_orl (w_gd (by kernel_rfl) (w_ob (a := v) rfl (w_ob e (w_gd (by rw [hs]; rfl) (w_now h)))))))
theorem b_tuple_l {xs : List PyData} (hs : small xs = true) (h : Q (.d (.tuple xs)) σ) : W (callBlt (.type "tuple") [.d (.list xs)] σ) Q := b_tuple rfl hs h
theorem b_tuple_s {i vs} {xs : List PyData} (e : σ[i]? = some (.lst vs)) (hd : datas vs = some xs) (hs : small xs = true) (h : Q (.d (.tuple xs)) σ) : W (callBlt (.type "tuple") [.st i] σ) Q := b_tuple (items_st e hd) hs h
theorem b_rng {vs} {a b : Int} (e : rngOf vs = some (a, b)) (ha : mid a = true) (hb : mid b = true) (h : Q (.rng a b) σ) : W (callBlt (.type "range") vs σ) Q :=
  w_ty (w_orl (w_gd (by kernel_rfl) (w_ob e (w_gd (by rw [ha, hb]; rfl) (w_now h)))))
theorem b_range1 {b : Int} (hb : -1000000000000 < b ∧ b < 1000000000000) (h : Q (.rng 0 b) σ) : W (callBlt (.type "range") [.d (.int b)] σ) Q := b_rng rfl (by kernel_rfl) (mid_mk hb.1 hb.2) h
theorem b_range2 {a b : Int} (ha : -1000000000000 < a ∧ a < 1000000000000) (hb : -1000000000000 < b ∧ b < 1000000000000) (h : Q (.rng a b) σ) : W (callBlt (.type "range") [.d (.int a), .d (.int b)] σ) Q := b_rng rfl (mid_mk ha.1 ha.2) (mid_mk hb.1 hb.2) h
theorem b_list_rng {a b : Int} (ha : -1000000000000 < a ∧ a < 1000000000000) (hb : -1000000000000 < b ∧ b < 1000000000000) (hl : b - a < 1000) (h : Q (.d (.list ((numsUp a (b - a).toNat).map .int))) σ) : W (callBlt (.type "list") [.rng a b] σ) Q :=
  w_ty (w_orr (by kernel_rfl) (w_orr (by kernel_rfl) (w_orl (w_gd (by kernel_rfl) (w_ob (a := .rng a b) rfl (w_ob (a := (a, b)) rfl (w_gd (by rw [decide_eq_true hl, mid_mk ha.1 ha.2, mid_mk hb.1 hb.2]; rfl) (w_now h))))))))
theorem b_dict2 {k k' : Str} {v v' : PyData} (hk : (k == k') = false) (h : Q (.st σ.length) (σ ++ [.dict [(k, .d v), (k', .d v')]])) : W (callBlt (.type "dict") [.d (.list [.tuple [.str k, v], .tuple [.str k', v']])] σ) Q := by
  refine w_ty (w_orr (by kernel_rfl) (w_orr (by kernel_rfl) (w_orr (by kernel_rfl) (w_gd (by kernel_rfl) ?_))))
  show W (gd (!(k == k')) (some (V.st σ.length, σ ++ [.dict [(k, .d v), (k', .d v')]]))) Q
  exact w_gd (by rw [hk]; rfl) (w_now h)
theorem w_if_d {c : Prop} {_ : Decidable c} {p q : Prop} (h1 : c → p) (h2 : ¬ c → q) : if decide c = true then p else q := by
  by_cases h : c
  · rw [decide_eq_true h, if_pos rfl]; exact h1 h
  · rw [decide_eq_false h, if_neg Bool.false_ne_true]; exact h2 h
theorem wx_forI {x xp it b p} (hx : (canSet sc x && !isSetE it) = true) (h : W (lvE T n sc fr it σ) fun v σ₁ => ∃ (xs : List V) (I : List V → Vars → Sto → Prop), (∀ r fr σ i, I r fr σ → itemAt σ v i = some xs[i]?) ∧ xs.length < 100 ∧ I xs fr σ₁ ∧
      (∀ y r fr σ, I (y :: r) fr σ → W (seqS (lvX T n sc) b (putV fr x y) σ) fun p σ₁ => match p with | (.next, fr') => I r fr' σ₁ | (.ret v, fr') => X (.ret v, fr') σ₁) ∧ (∀ fr σ, I [] fr σ → X (.next, fr) σ)) :
    W (lvX T (n + 1) sc (.For (.Name x xp) it b [] p) fr σ) X :=
  wx_for hx (h.mono fun v σ₁ h => by obtain ⟨xs, I, h1, h2, h3, h4, h5⟩ := h; exact wg_inv I h1 h2 h3 h4 h5)
theorem wc_oneI {elt x xp it ifs v} {xs : List V} {acc : List PyData} {L : Lv} (hc : (!canSet sc x || isSetE it || (fr.lookup x).isSome) = false) (I : List V → Sto → List PyData → Prop) (hv : ∀ r σ acc i, I r σ acc → itemAt σ v i = some xs[i]?) (hl : xs.length < 100) (h0 : I xs σ acc)
    (hs : ∀ y r σ acc, I (y :: r) σ acc → W (turn1 L sc elt x ifs fr y σ acc) fun acc' σ₁ => I r σ₁ acc') (he : ∀ σ acc, I [] σ acc → C acc σ) : W (compAll L sc elt [⟨.Name x xp, it, ifs, 0⟩] fr v σ acc) C :=
  w_clause hc (wcg_inv (turn := turn1 L sc elt x ifs fr) I hv hl h0 hs he)
theorem lookup_filter' {fr : Vars} {f : Str → Bool} {x : Str} : (fr.filter fun p => f p.1).lookup x = if f x = true then fr.lookup x else none := lookup_filter
theorem free_beq : (some NameKind.free == some NameKind.free) = true := rfl
theorem local_beq : (some NameKind.local == some NameKind.free) = false := rfl
theorem cell_beq : (some NameKind.cell == some NameKind.free) = false := rfl
theorem lk_free {fr : Vars} {l : List (Str × NameKind)} {x : Str} {r : Option V} (h : (l.lookup x == some NameKind.free) = true) (hl : fr.lookup x = r) : (fr.filter fun p => l.lookup p.1 == some .free).lookup x = r := by
  rw [lookup_filter' (f := fun y => l.lookup y == some .free), if_pos h]; exact hl
theorem le_lit {a b n : Nat} (h : Nat.ble a b = true) : a ≤ n + b := Nat.le_trans (Nat.le_of_ble_eq_true h) (Nat.le_add_left _ _)
theorem lookup_free {fr : Vars} {l : List (Str × NameKind)} {x : Str} : (fr.filter fun p => l.lookup p.1 == some .free).lookup x = if (l.lookup x == some .free) = true then fr.lookup x else none := lookup_filter' (f := fun y => l.lookup y == some .free)
end
/-! several steps in one -/
section
variable {T : Tab} {n : Nat} {sc : Scope} {fr : Vars} {σ : Sto} {Q : V → Sto → Prop} {B : Bool → Sto → Prop} {X : Fl × Vars → Sto → Prop} {S : List V → Sto → Prop}
section
variable {e : Expr → Sto → Res V} {v u t : V}
theorem kk_end1 (h : S [v] σ) : kCons e [] S v σ := kk_cons (ws_nil h)
theorem kk_end2 (h : S [u, v] σ) : kCons e [] (kCons2 u S) v σ := kk_cons (ws_nil h)
theorem kk_end3 (h : S [t, u, v] σ) : kCons e [] (kCons2 u (kCons2 t S)) v σ := kk_cons (ws_nil h)
theorem kk_more {x r} (hs : isStarE x = false) (h : W (e x σ) (kCons e r (kCons2 v S))) : kCons e (x :: r) S v σ := kk_cons (ws_cons hs h)
end
section
variable {v u t : V} {x : Str} {p : Pos} {r : List Expr}
theorem ws_var (hv : fr.lookup x = some v) (hk : isVar sc x = true) (h : W (seqE (lvE T (n + 1) sc fr) r σ) (kCons2 v S)) : W (seqE (lvE T (n + 1) sc fr) (.Name x p :: r) σ) S := ws_cons rfl (w_var hv hk (kk_cons h))
theorem ws_var1 (hv : fr.lookup x = some v) (hk : isVar sc x = true) (h : S [v] σ) : W (seqE (lvE T (n + 1) sc fr) [.Name x p] σ) S := ws_var hv hk (ws_nil h)
theorem ws_var2 (hv : fr.lookup x = some v) (hk : isVar sc x = true) (h : S [u, v] σ) : W (seqE (lvE T (n + 1) sc fr) [.Name x p] σ) (kCons2 u S) := ws_var hv hk (ws_nil h)
theorem ws_var3 (hv : fr.lookup x = some v) (hk : isVar sc x = true) (h : S [t, u, v] σ) : W (seqE (lvE T (n + 1) sc fr) [.Name x p] σ) (kCons2 u (kCons2 t S)) := ws_var hv hk (ws_nil h)
theorem kk_var (hv : fr.lookup x = some v) (hk : isVar sc x = true) (h : W (seqE (lvE T (n + 1) sc fr) r σ) (kCons2 v (kCons2 u S))) : kCons (lvE T (n + 1) sc fr) (.Name x p :: r) S u σ := kk_cons (ws_var hv hk h)
end
section
variable {u t : V} {x y z : Str} {k k' k'' : Nat} {p p' p'' pt : Pos} {kt : Nat} {r : List Expr}
theorem ws_str (h : W (seqE (lvE T (n + 1) sc fr) r σ) (kCons2 (.d (.str x)) S)) : W (seqE (lvE T (n + 1) sc fr) (.Constant (.str x) k p :: r) σ) S := ws_cons rfl (w_str (kk_cons h))
theorem ws_str1 (h : S [.d (.str x)] σ) : W (seqE (lvE T (n + 1) sc fr) [.Constant (.str x) k p] σ) S := ws_str (ws_nil h)
theorem ws_str2 (h : S [u, .d (.str x)] σ) : W (seqE (lvE T (n + 1) sc fr) [.Constant (.str x) k p] σ) (kCons2 u S) := ws_str (ws_nil h)
theorem ws_str3 (h : S [t, u, .d (.str x)] σ) : W (seqE (lvE T (n + 1) sc fr) [.Constant (.str x) k p] σ) (kCons2 u (kCons2 t S)) := ws_str (ws_nil h)
theorem w_strs2 (h : Q (.d (.tuple [.str x, .str y])) σ) : W (lvE T (n + 2) sc fr (.Tuple [.Constant (.str x) k p, .Constant (.str y) k' p'] kt pt) σ) Q := w_tuple (ws_str (ws_str2 (kk_tup rfl rfl h)))
theorem w_strs3 (h : Q (.d (.tuple [.str x, .str y, .str z])) σ) : W (lvE T (n + 2) sc fr (.Tuple [.Constant (.str x) k p, .Constant (.str y) k' p', .Constant (.str z) k'' p''] kt pt) σ) Q := w_tuple (ws_str (ws_str (ws_str3 (kk_tup rfl rfl h))))
end
section
variable {u : V} {i : Int} {k : Nat} {p : Pos} {r : List Expr}
theorem ws_int (h : W (seqE (lvE T (n + 1) sc fr) r σ) (kCons2 (.d (.int i)) S)) : W (seqE (lvE T (n + 1) sc fr) (.Constant (.int i) k p :: r) σ) S := ws_cons rfl (w_int (kk_cons h))
theorem ws_int1 (h : S [.d (.int i)] σ) : W (seqE (lvE T (n + 1) sc fr) [.Constant (.int i) k p] σ) S := ws_int (ws_nil h)
theorem ws_int2 (h : S [u, .d (.int i)] σ) : W (seqE (lvE T (n + 1) sc fr) [.Constant (.int i) k p] σ) (kCons2 u S) := ws_int (ws_nil h)
end
section
variable {f : Stmt → Vars → Sto → Res (Fl × Vars)} {s : Stmt} {r : List Stmt}
theorem kk_next (h : W (f s fr σ) (kSeq f r X)) : kSeq f (s :: r) X (.next, fr) σ := kk_seq_n (wq_cons h)
theorem kk_skip {b : List Stmt} {c : Bool} (hc : c = false) (h : W (seqS f r fr σ) X) : kIfX T n sc fr b [] (kSeq f r X) c σ := kk_ifx_f hc (wq_nil h)
theorem kk_skipn {b : List Stmt} {c : Bool} (hc : c = false) (h : W (f s fr σ) (kSeq f r X)) : kIfX T n sc fr b [] (kSeq f (s :: r) X) c σ := kk_skip hc (wq_cons h)
theorem kk_done (h : kSeq f r X (.next, fr) σ) : W (seqS f [] fr σ) (kSeq f r X) := wq_nil h
theorem wq_ret {v : Expr} {p : Pos} {r : List Stmt} (h : W (lvE T n sc fr v σ) (kRet fr (kSeq (lvX T (n + 1) sc) r X))) : W (seqS (lvX T (n + 1) sc) (.Return (some v) p :: r) fr σ) X := wq_cons (wx_ret h)
end
section
variable {f g h' : Stmt → Vars → Sto → Res (Fl × Vars)} {r r' r'' : List Stmt} {u : V}
theorem kk_ret1 (h : Q u σ) : kRet fr (kSeq f r (kRun Q)) u σ := h
theorem kk_ret2 (h : Q u σ) : kRet fr (kSeq f r (kSeq g r' (kRun Q))) u σ := h
theorem kk_ret3 (h : Q u σ) : kRet fr (kSeq f r (kSeq g r' (kSeq h' r'' (kRun Q)))) u σ := h
end
section
variable {x : Str} {p q q' p' : Pos} {k : Nat} {v : V}
theorem wt_var {op r} (hs : isSetE r = false) (hv : fr.lookup x = some v) (hk : isVar sc x = true) (h : W (lvE T (n + 1) sc fr r σ) (kCmp2 op v B)) : W (lvT T (n + 2) sc fr (.Compare (.Name x p) [op] [r] q) σ) B := wt_cmp hs (w_var hv hk h)
theorem w_eqs {a b : String} (ha : PyData.strOk (Str.ofString a) = true) (hb : PyData.strOk (Str.ofString b) = true) (h : B (a == b) σ) : W (lvE T (n + 1) sc fr (.Constant (.str (Str.ofString b)) k p) σ) (kCmp2 .Eq (.d (.str (Str.ofString a))) B) := w_str (kk_cmp2 (p_eq_str ha hb h))
theorem wt_eqs {a b : String} (hv : fr.lookup x = some (.d (.str (Str.ofString a)))) (hk : isVar sc x = true) (ha : PyData.strOk (Str.ofString a) = true) (hb : PyData.strOk (Str.ofString b) = true) (h : B (a == b) σ) :
    W (lvT T (n + 2) sc fr (.Compare (.Name x p) [.Eq] [.Constant (.str (Str.ofString b)) k q] q') σ) B := wt_var rfl hv hk (w_eqs ha hb h)
theorem wi_eqs {a b : String} {bd o r} (hv : fr.lookup x = some (.d (.str (Str.ofString a)))) (hk : isVar sc x = true) (ha : PyData.strOk (Str.ofString a) = true) (hb : PyData.strOk (Str.ofString b) = true) (h : kIfX T (n + 2) sc fr bd o (kSeq (lvX T (n + 3) sc) r X) (a == b) σ) :
    W (seqS (lvX T (n + 3) sc) (.If (.Compare (.Name x p) [.Eq] [.Constant (.str (Str.ofString b)) k q] q') bd o p' :: r) fr σ) X := wq_cons (wx_if (wt_eqs hv hk ha hb h))
theorem ki_eqs {a b : String} {bd o r f} (hv : fr.lookup x = some (.d (.str (Str.ofString a)))) (hk : isVar sc x = true) (ha : PyData.strOk (Str.ofString a) = true) (hb : PyData.strOk (Str.ofString b) = true) (h : kIfX T (n + 2) sc fr bd o (kSeq f r X) (a == b) σ) :
    W (lvX T (n + 3) sc (.If (.Compare (.Name x p) [.Eq] [.Constant (.str (Str.ofString b)) k q] q') bd o p') fr σ) (kSeq f r X) := wx_if (wt_eqs hv hk ha hb h)
theorem w_glb {args px g} (hn : Nat.blt args.length 10 = true) (hv : T.glob x = some (.val g)) (hk : (sc.names.lookup x == some .globalImplicit) = true) (h : W (seqE (lvE T (n + 1) sc fr) args σ) (kCall2 T (n + 1) g Q)) : W (lvE T (n + 2) sc fr (.Call (.Name x px) args [] p) σ) Q := w_call hn (w_glob hv hk (kk_call h))
theorem w_subv {i} (hi : (match i with | .Slice .. => false | _ => true) = true) (hv : fr.lookup x = some v) (hk : isVar sc x = true) (h : W (lvE T (n + 1) sc fr i σ) (kSub2 v Q)) : W (lvE T (n + 2) sc fr (.Subscript (.Name x p) i q) σ) Q := w_sub hi (w_var hv hk (kk_sub h))
theorem w_subi {i : Int} (hv : fr.lookup x = some v) (hk : isVar sc x = true) (h : ∃ w, subscr v (.d (.int i)) σ = some w ∧ Q w σ) : W (lvE T (n + 2) sc fr (.Subscript (.Name x p) (.Constant (.int i) k q') q) σ) Q := w_subv rfl hv hk (w_int (kk_sub2 h))
theorem w_subs {i : Str} (hv : fr.lookup x = some v) (hk : isVar sc x = true) (h : ∃ w, subscr v (.d (.str i)) σ = some w ∧ Q w σ) : W (lvE T (n + 2) sc fr (.Subscript (.Name x p) (.Constant (.str i) k q') q) σ) Q := w_subv rfl hv hk (w_str (kk_sub2 h))
theorem w_methv {name ap args} (hc : (ap.endLine == p'.line && Nat.blt args.length 10 && baseOk (.Name x p)) = true) (hv : fr.lookup x = some v) (hk : isVar sc x = true) (h : kMeth T (n + 1) sc fr name args Q v σ) : W (lvE T (n + 2) sc fr (.Call (.Attribute (.Name x p) name ap) args [] p') σ) Q := w_meth hc (w_var hv hk h)
theorem w_attrv {name} (hv : fr.lookup x = some v) (hk : isVar sc x = true) (h : kAttr T name Q v σ) : W (lvE T (n + 2) sc fr (.Attribute (.Name x p) name q) σ) Q := w_attr rfl (w_var hv hk h)
end
end
end Mine
set_option maxHeartbeats 1000000
namespace Mine
open PySem
theorem next_run {N : Nat} (hN : 15 ≤ N) {σ : Sto} {r : Nat} {ns : List Int} {k : Nat} {m : Int} {Q : V → Sto → Prop} (hr : σ[r]? = some (reelO ns k)) (hk : k < 1000000) (hm : 0 < m ∧ m < 1000000) (hn : ns.length < 100)
    (h : Q (.d (.int (cellOfReel ns k % m))) (σ.set r (reelO ns (k + 1)))) : W (lvC theTab N 299 [.st r, .d (.int m)] σ) Q := by
  obtain ⟨n, rfl⟩ : ∃ n, N = n + 15 := ⟨N - 15, by lia⟩
  obtain ⟨b, hb⟩ : ∃ b, b = bodyOf 299 := ⟨_, rfl⟩
  obtain ⟨s, hs⟩ : ∃ b, b = scOf 299 := ⟨_, rfl⟩
  obtain ⟨p, hp⟩ : ∃ b, b = psOf 299 := ⟨_, rfl⟩
  have hf := fn_of 299 (by kernel_rfl)
  rw [← hb, ← hs, ← hp] at hf
  conv at hb => rhs; whnf
  conv at hs => rhs; whnf
  conv at hp => rhs; whnf
  subst hb hs hp
  simp only [List.map_cons, List.map_nil] at hf
  refine w_run hf (by kernel_rfl) ?_
  clear hf
  simp only [List.zip_cons_cons, List.zip_nil_right]
  have hr2 := getElem?_set_self' (o' := reelO ns (k + 1)) hr
  have hsm : small (ns.map PyData.int) = true := small_lt (by rw [List.length_map]; lia)
  have g3 : putD [(Str.ofString "cells", .d (.list (ns.map .int))), (Str.ofString "at", .d (.int k))] (Str.ofString "at") (V.d (.int ((k : Int) + 1))) = [(Str.ofString "cells", .d (.list (ns.map .int))), (Str.ofString "at", .d (.int ((k + 1 : Nat) : Int)))] := by
    simp only [putD, List.any_cons, List.map_cons, ofString_beq, List.any_nil, List.map_nil, String.reduceBEq, beq_self_eq_true]; rfl
  with_reducible
    refine wq_cons ?_
    refine wx_asg (by kernel_rfl!) ?_
    refine wv_plain (by kernel_rfl!) ?_
    refine w_subs (lk_at 0 (by kernel_rfl!) (by with_unfolding_all rfl)) (by kernel_rfl!) ?_
    refine ⟨_, sb_dict (by assumption) (lk_at 1 (by kernel_rfl!) (by with_unfolding_all rfl)), ?_⟩
    refine kk_asg ?_
    refine kk_next ?_
    refine wx_asub ?_
    refine w_bin ?_
    refine w_var (lk_at 2 (by kernel_rfl!) (by with_unfolding_all rfl)) (by kernel_rfl!) ?_
    refine kk_bin ?_
    refine w_int ?_
    refine kk_bin2 ?_
    refine p_add ?_
    refine kk_asub ?_
    refine w_var (lk_at 0 (by kernel_rfl!) (by with_unfolding_all rfl)) (by kernel_rfl!) ?_
    refine kk_asub2 ?_
    refine w_str ?_
    refine kk_asub3 ?_
  dsimp only
  refine ⟨r, Str.ofString "at", _, rfl, rfl, hr, rfl, ?_⟩
  rw [g3]
  with_reducible
    refine kk_seq_n ?_
    refine wq_ret ?_
    refine w_bin ?_
    refine w_if ?_
    refine wt_var (by kernel_rfl!) (lk_at 2 (by kernel_rfl!) (by with_unfolding_all rfl)) (by kernel_rfl!) ?_
    refine w_glb (by kernel_rfl!) glob_len (by kernel_rfl!) ?_
    refine ws_cons (by kernel_rfl!) ?_
    refine w_subs (lk_at 0 (by kernel_rfl!) (by with_unfolding_all rfl)) (by kernel_rfl!) ?_
    refine ⟨_, sb_dict (by assumption) (lk_at 0 (by kernel_rfl!) (by with_unfolding_all rfl)), ?_⟩
    refine kk_end1 ?_
    refine kk_call2 ?_
    refine cv_blt ?_
    refine b_len_l (by first | assumption | kernel_rfl!) ?_
    refine kk_cmp2 ?_
    refine p_lt ?_
    refine kk_if ?_
  refine w_if_d (fun hlt => ?_) (fun hlt => ?_)
  · with_reducible
      refine w_sub (by kernel_rfl!) ?_
      refine w_subs (lk_at 0 (by kernel_rfl!) (by with_unfolding_all rfl)) (by kernel_rfl!) ?_
      refine ⟨_, sb_dict (by assumption) (lk_at 0 (by kernel_rfl!) (by with_unfolding_all rfl)), ?_⟩
      refine kk_sub ?_
      refine w_var (lk_at 2 (by kernel_rfl!) (by with_unfolding_all rfl)) (by kernel_rfl!) ?_
      refine kk_sub2 ?_
    dsimp only
    rw [List.length_map] at hlt
    have hlt : k < ns.length := by lia
    refine ⟨.d (.int (cellOfReel ns k)), sb_list (by lia) ?_, ?_⟩
    · simp only [List.getElem?_map, cellOfReel, List.getElem?_eq_getElem hlt, Option.map_some]
    · with_reducible
        refine kk_bin ?_
        refine w_var (lk_at 1 (by kernel_rfl!) (by with_unfolding_all rfl)) (by kernel_rfl!) ?_
        refine kk_bin2 ?_
        refine p_mod (by lia) (by lia) ?_
        refine kk_ret1 ?_
      exact h
  · rw [List.length_map] at hlt
    refine W.mono (Q := fun v s => v = .d (.int (cellOfReel ns k)) ∧ s = σ.set r (reelO ns (k + 1))) ?_ ?_
    · have e : cellOfReel ns k = 7 * k * k + 4 * k + 1 := by
        unfold cellOfReel
        rw [List.getElem?_eq_none_iff.mpr (by lia)]
      rw [e]
      clear g3 hr2 hr h
      with_reducible
        refine w_bin ?_
        refine w_bin ?_
        refine w_bin ?_
        refine w_bin ?_
        refine w_int ?_
        refine kk_bin ?_
        refine w_var (lk_at 2 (by kernel_rfl!) (by with_unfolding_all rfl)) (by kernel_rfl!) ?_
        refine kk_bin2 ?_
        refine p_mul (by lia) (by lia) (by lia) (by lia) ?_
        refine kk_bin ?_
        refine w_var (lk_at 2 (by kernel_rfl!) (by with_unfolding_all rfl)) (by kernel_rfl!) ?_
        refine kk_bin2 ?_
        refine p_mul (by lia) (by lia) (by lia) (by lia) ?_
        refine kk_bin ?_
        refine w_bin ?_
        refine w_int ?_
        refine kk_bin ?_
        refine w_var (lk_at 2 (by kernel_rfl!) (by with_unfolding_all rfl)) (by kernel_rfl!) ?_
        refine kk_bin2 ?_
        refine p_mul (by lia) (by lia) (by lia) (by lia) ?_
        refine kk_bin2 ?_
        refine p_add ?_
        refine kk_bin ?_
        refine w_int ?_
        refine kk_bin2 ?_
        refine p_add ?_
      refine ⟨rfl, ?_⟩
      dsimp only
    · rintro a s ⟨rfl, rfl⟩
      with_reducible
        refine kk_bin ?_
        refine w_var (lk_at 1 (by kernel_rfl!) (by with_unfolding_all rfl)) (by kernel_rfl!) ?_
        refine kk_bin2 ?_
        refine p_mod (by lia) (by lia) ?_
        refine kk_ret1 ?_
      exact h
noncomputable def relD (i : Int) : PyData := .tuple [.str (Str.ofString "rel"), .int i]
noncomputable def setD (i : Int) (late : Bool) : PyData := if late then .tuple [.str (Str.ofString "later"), relD i] else relD i
theorem set_run {N : Nat} (hN : 22 ≤ N) {σ : Sto} {r : Nat} {ns : List Int} {k : Nat} {Q : V → Sto → Prop} (hr : σ[r]? = some (reelO ns k)) (hk : k + 1 < 1000000) (hn : ns.length < 100)
    (h : ∀ late, Q (.d (setD (cellOfReel ns k % 3) late)) (σ.set r (reelO ns (k + 2)))) : W (lvC theTab N 306 [.st r] σ) Q := by
  obtain ⟨n, rfl⟩ : ∃ n, N = n + 22 := ⟨N - 22, by lia⟩
  obtain ⟨b, hb⟩ : ∃ b, b = bodyOf 306 := ⟨_, rfl⟩
  obtain ⟨s, hs⟩ : ∃ b, b = scOf 306 := ⟨_, rfl⟩
  obtain ⟨p, hp⟩ : ∃ b, b = psOf 306 := ⟨_, rfl⟩
  have hf := fn_of 306 (by kernel_rfl)
  rw [← hb, ← hs, ← hp] at hf
  conv at hb => rhs; whnf
  conv at hs => rhs; whnf
  conv at hp => rhs; whnf
  subst hb hs hp
  simp only [List.map_cons, List.map_nil] at hf
  refine w_run hf (by kernel_rfl) ?_
  clear hf
  simp only [List.zip_cons_cons, List.zip_nil_right]
  have hr2 := getElem?_set_self' (o' := reelO ns (k + 1)) hr
  with_reducible
    refine wq_cons ?_
    refine wx_asg (by kernel_rfl!) ?_
    refine wv_plain (by kernel_rfl!) ?_
    refine w_tuple ?_
    refine ws_str ?_
    refine ws_cons (by kernel_rfl!) ?_
    refine w_glb (by kernel_rfl!) glob__law_next (by kernel_rfl!) ?_
    refine ws_var (lk_at 0 (by kernel_rfl!) (by with_unfolding_all rfl)) (by kernel_rfl!) ?_
    refine ws_int2 ?_
    refine kk_call2 ?_
  dsimp only
  refine cv_fun noinit_299 isfn_299 (next_run (by lia) hr (by lia) (by lia) hn ?_)
  with_reducible
    refine kk_end2 ?_
    refine kk_tup (by with_unfolding_all rfl) (by kernel_rfl!) ?_
    refine kk_asg ?_
    refine kk_seq_n ?_
    refine wq_ret ?_
    refine w_if ?_
    refine wt_cmp (by kernel_rfl!) ?_
    refine w_glb (by kernel_rfl!) glob__law_next (by kernel_rfl!) ?_
    refine ws_var (lk_at 0 (by kernel_rfl!) (by with_unfolding_all rfl)) (by kernel_rfl!) ?_
    refine ws_int2 ?_
    refine kk_call2 ?_
  dsimp only
  refine cv_fun noinit_299 isfn_299 (next_run (by lia) hr2 (by lia) (by lia) hn ?_)
  with_reducible
    refine kk_cmp ?_
    refine w_int ?_
    refine kk_cmp2 ?_
    refine p_eq ?_
    refine kk_if ?_
  rw [List.set_set]
  refine w_if_d (fun e => ?_) (fun e => ?_)
  · with_reducible
      refine w_tuple ?_
      refine ws_str ?_
      refine ws_var2 (lk_at 1 (by kernel_rfl!) (by with_unfolding_all rfl)) (by kernel_rfl!) ?_
      refine kk_tup (by with_unfolding_all rfl) (by kernel_rfl!) ?_
      refine kk_ret1 ?_
    exact h true
  · with_reducible
      refine w_var (lk_at 1 (by kernel_rfl!) (by with_unfolding_all rfl)) (by kernel_rfl!) ?_
      refine kk_ret1 ?_
    dsimp only
    exact h false
end Mine
set_option maxHeartbeats 1000000
namespace Mine
open PySem
/-- the drawn formulas -/
inductive Fm where
  | atom (no : Bool) (i : Int) (l : Bool)
  | inn (i : Int) (l : Bool) (j : Int) (m : Bool)
  | neg (f : Fm)
  | bin (or : Bool) (f g : Fm)
  | aft (f : Fm)
  | glob (ev : Bool) (f : Fm)
  | unt (u : Bool) (f g : Fm)
noncomputable def sD (s : String) : PyData := .str (Str.ofString s)
noncomputable def Fm.node : Fm → PyData
  | .atom no i l => .tuple [if no then sD "no" else sD "some", setD i l]
  | .inn i l j m => .tuple [sD "in", setD i l, setD j m]
  | .neg f => .tuple [sD "not", f.node]
  | .bin or f g => .tuple [if or then sD "or" else sD "and", .tuple [f.node, g.node]]
  | .aft f => .tuple [sD "after", f.node]
  | .glob ev f => .tuple [if ev then sD "eventually" else sD "always", f.node]
  | .unt u f g => .tuple [if u then sD "until" else sD "releases", f.node, g.node]
noncomputable def in3 (i : Int) : Prop := i = 0 ∨ i = 1 ∨ i = 2
noncomputable def Fm.ok : Fm → Prop
  | .atom _ i _ => in3 i
  | .inn i _ j _ => in3 i ∧ in3 j
  | .neg f | .aft f | .glob _ f => f.ok
  | .bin _ f g => f.ok ∧ g.ok
  | .unt u f g => u = true ∧ f.ok ∧ g.ok
noncomputable def Fm.cost : Fm → Nat
  | .atom .. => 3
  | .inn .. => 5
  | .neg f | .aft f => 1 + f.cost
  | .glob _ f => 1 + 3 * f.cost
  | .bin _ f g => 1 + f.cost + g.cost
  | .unt _ f g => 1 + 3 * (g.cost + 3 * f.cost)
noncomputable def Fm.dp : Fm → Nat
  | .atom .. | .inn .. => 0
  | .neg f | .aft f | .glob _ f => f.dp + 1
  | .bin _ f g | .unt _ f g => max f.dp g.dp + 1
theorem in3_mod (x : Int) : in3 (x % 3) := by unfold in3; lia

theorem claim0_run {N : Nat} (hN : 32 ≤ N) {σ : Sto} {r : Nat} {ns : List Int} {k : Nat} {Q : V → Sto → Prop} (hr : σ[r]? = some (reelO ns k)) (hk : k + 10 < 1000000) (hn : ns.length < 100)
    (h : ∀ f k', Fm.ok f → f.cost ≤ 5 → f.dp = 0 → k' ≤ k + 5 → Q (.d (Fm.node f)) (σ.set r (reelO ns k'))) : W (lvC theTab N 313 [.st r, .d (.int 0)] σ) Q := by
  obtain ⟨n, rfl⟩ : ∃ n, N = n + 32 := ⟨N - 32, by lia⟩
  obtain ⟨b, hb⟩ : ∃ b, b = bodyOf 313 := ⟨_, rfl⟩
  obtain ⟨s, hs⟩ : ∃ b, b = scOf 313 := ⟨_, rfl⟩
  obtain ⟨p, hp⟩ : ∃ b, b = psOf 313 := ⟨_, rfl⟩
  have hf := fn_of 313 (by kernel_rfl)
  rw [← hb, ← hs, ← hp] at hf
  conv at hb => rhs; whnf
  conv at hs => rhs; whnf
  conv at hp => rhs; whnf
  subst hb hs hp
  simp only [List.map_cons, List.map_nil] at hf
  refine w_run hf (by kernel_rfl) ?_
  clear hf
  simp only [List.zip_cons_cons, List.zip_nil_right]
  have hr2 := fun o' => getElem?_set_self' (o' := o') hr
  with_reducible
    refine wq_cons ?_
    refine wx_asg (by kernel_rfl!) ?_
    refine wv_plain (by kernel_rfl!) ?_
    refine w_glb (by kernel_rfl!) glob__law_next (by kernel_rfl!) ?_
    refine ws_var (lk_at 0 (by kernel_rfl!) (by with_unfolding_all rfl)) (by kernel_rfl!) ?_
    refine ws_cons (by kernel_rfl!) ?_
    refine w_if ?_
    refine wt_var (by kernel_rfl!) (lk_at 1 (by kernel_rfl!) (by with_unfolding_all rfl)) (by kernel_rfl!) ?_
    refine w_int ?_
    refine kk_cmp2 ?_
    refine p_gt ?_
    refine kk_if_f (by first | assumption | kernel_rfl!) ?_
    refine w_int ?_
    refine kk_end2 ?_
    refine kk_call2 ?_
  dsimp only
  refine cv_fun noinit_299 isfn_299 (next_run (by lia) hr (by lia) (by lia) hn ?_)
  obtain ⟨w, hw⟩ : ∃ w, w = cellOfReel ns k % 3 := ⟨_, rfl⟩
  rw [← hw]
  have hw : w = 0 ∨ w = 1 ∨ w = 2 := by lia
  rcases hw with rfl | rfl | rfl
  · with_reducible
      refine kk_asg ?_
      refine kk_next ?_
      refine wx_if ?_
      refine wt_var (by kernel_rfl!) (lk_at 2 (by kernel_rfl!) (by with_unfolding_all rfl)) (by kernel_rfl!) ?_
      refine w_int ?_
      refine kk_cmp2 ?_
      refine p_lt ?_
      refine kk_ifx_t (by first | assumption | kernel_rfl!) ?_
      refine wq_ret ?_
      refine w_tuple ?_
      refine ws_cons (by kernel_rfl!) ?_
      refine w_sub (by kernel_rfl!) ?_
      refine w_strs2 ?_
      refine kk_sub ?_
      refine w_var (lk_at 2 (by kernel_rfl!) (by with_unfolding_all rfl)) (by kernel_rfl!) ?_
      refine kk_sub2 ?_
      refine ⟨_, sb_tup_0, ?_⟩
      refine kk_more (by kernel_rfl!) ?_
      refine w_glb (by kernel_rfl!) glob__law_set (by kernel_rfl!) ?_
      refine ws_var1 (lk_at 0 (by kernel_rfl!) (by with_unfolding_all rfl)) (by kernel_rfl!) ?_
      refine kk_call2 ?_
    dsimp only
    refine cv_fun noinit_306 isfn_306 (set_run (by lia) (hr2 _) (by lia) hn fun late => ?_)
    with_reducible
      refine kk_end2 ?_
      refine kk_tup (by with_unfolding_all rfl) (by kernel_rfl!) ?_
      refine kk_ret2 ?_
    rw [List.set_set]
    exact h (.atom false _ late) _ (in3_mod _) (show 3 ≤ 5 by decide) rfl (by lia)
  · with_reducible
      refine kk_asg ?_
      refine kk_next ?_
      refine wx_if ?_
      refine wt_var (by kernel_rfl!) (lk_at 2 (by kernel_rfl!) (by with_unfolding_all rfl)) (by kernel_rfl!) ?_
      refine w_int ?_
      refine kk_cmp2 ?_
      refine p_lt ?_
      refine kk_ifx_t (by first | assumption | kernel_rfl!) ?_
      refine wq_ret ?_
      refine w_tuple ?_
      refine ws_cons (by kernel_rfl!) ?_
      refine w_sub (by kernel_rfl!) ?_
      refine w_strs2 ?_
      refine kk_sub ?_
      refine w_var (lk_at 2 (by kernel_rfl!) (by with_unfolding_all rfl)) (by kernel_rfl!) ?_
      refine kk_sub2 ?_
      refine ⟨_, sb_tup_1, ?_⟩
      refine kk_more (by kernel_rfl!) ?_
      refine w_glb (by kernel_rfl!) glob__law_set (by kernel_rfl!) ?_
      refine ws_var1 (lk_at 0 (by kernel_rfl!) (by with_unfolding_all rfl)) (by kernel_rfl!) ?_
      refine kk_call2 ?_
    dsimp only
    refine cv_fun noinit_306 isfn_306 (set_run (by lia) (hr2 _) (by lia) hn fun late => ?_)
    with_reducible
      refine kk_end2 ?_
      refine kk_tup (by with_unfolding_all rfl) (by kernel_rfl!) ?_
      refine kk_ret2 ?_
    rw [List.set_set]
    exact h (.atom true _ late) _ (in3_mod _) (show 3 ≤ 5 by decide) rfl (by lia)
  · with_reducible
      refine kk_asg ?_
      refine kk_next ?_
      refine wx_if ?_
      refine wt_var (by kernel_rfl!) (lk_at 2 (by kernel_rfl!) (by with_unfolding_all rfl)) (by kernel_rfl!) ?_
      refine w_int ?_
      refine kk_cmp2 ?_
      refine p_lt ?_
      refine kk_skipn (by first | assumption | kernel_rfl!) ?_
      refine wx_if ?_
      refine wt_var (by kernel_rfl!) (lk_at 2 (by kernel_rfl!) (by with_unfolding_all rfl)) (by kernel_rfl!) ?_
      refine w_int ?_
      refine kk_cmp2 ?_
      refine p_eq ?_
      refine kk_ifx_t (by first | assumption | kernel_rfl!) ?_
      refine wq_ret ?_
      refine w_tuple ?_
      refine ws_str ?_
      refine ws_cons (by kernel_rfl!) ?_
      refine w_glb (by kernel_rfl!) glob__law_set (by kernel_rfl!) ?_
      refine ws_var1 (lk_at 0 (by kernel_rfl!) (by with_unfolding_all rfl)) (by kernel_rfl!) ?_
      refine kk_call2 ?_
    dsimp only
    refine cv_fun noinit_306 isfn_306 (set_run (by lia) (hr2 _) (by lia) hn fun late => ?_)
    with_reducible
      refine kk_more (by kernel_rfl!) ?_
      refine w_glb (by kernel_rfl!) glob__law_set (by kernel_rfl!) ?_
      refine ws_var1 (lk_at 0 (by kernel_rfl!) (by with_unfolding_all rfl)) (by kernel_rfl!) ?_
      refine kk_call2 ?_
    dsimp only
    rw [List.set_set]
    refine cv_fun noinit_306 isfn_306 (set_run (by lia) (hr2 _) (by lia) hn fun late' => ?_)
    with_reducible
      refine kk_end3 ?_
      refine kk_tup (by with_unfolding_all rfl) (by kernel_rfl!) ?_
      refine kk_ret2 ?_
    rw [List.set_set]
    exact h (.inn _ late _ late') _ ⟨in3_mod _, in3_mod _⟩ (show 5 ≤ 5 by decide) rfl (by lia)

theorem claim1_run {N : Nat} (hN : 50 ≤ N) {σ : Sto} {r : Nat} {ns : List Int} {k : Nat} {Q : V → Sto → Prop} (hr : σ[r]? = some (reelO ns k)) (hk : k + 30 < 1000000) (hn : ns.length < 100)
    (h : ∀ f k', Fm.ok f → f.cost ≤ 61 → f.dp ≤ 1 → k' ≤ k + 11 → Q (.d (Fm.node f)) (σ.set r (reelO ns k'))) : W (lvC theTab N 313 [.st r, .d (.int 1)] σ) Q := by
  obtain ⟨n, rfl⟩ : ∃ n, N = n + 50 := ⟨N - 50, by lia⟩
  obtain ⟨b, hb⟩ : ∃ b, b = bodyOf 313 := ⟨_, rfl⟩
  obtain ⟨s, hs⟩ : ∃ b, b = scOf 313 := ⟨_, rfl⟩
  obtain ⟨p, hp⟩ : ∃ b, b = psOf 313 := ⟨_, rfl⟩
  have hf := fn_of 313 (by kernel_rfl)
  rw [← hb, ← hs, ← hp] at hf
  conv at hb => rhs; whnf
  conv at hs => rhs; whnf
  conv at hp => rhs; whnf
  subst hb hs hp
  simp only [List.map_cons, List.map_nil] at hf
  refine w_run hf (by kernel_rfl) ?_
  clear hf
  simp only [List.zip_cons_cons, List.zip_nil_right]
  have hr2 := fun o' => getElem?_set_self' (o' := o') hr
  with_reducible
    refine wq_cons ?_
    refine wx_asg (by kernel_rfl!) ?_
    refine wv_plain (by kernel_rfl!) ?_
    refine w_glb (by kernel_rfl!) glob__law_next (by kernel_rfl!) ?_
    refine ws_var (lk_at 0 (by kernel_rfl!) (by with_unfolding_all rfl)) (by kernel_rfl!) ?_
    refine ws_cons (by kernel_rfl!) ?_
    refine w_if ?_
    refine wt_var (by kernel_rfl!) (lk_at 1 (by kernel_rfl!) (by with_unfolding_all rfl)) (by kernel_rfl!) ?_
    refine w_int ?_
    refine kk_cmp2 ?_
    refine p_gt ?_
    refine kk_if_t (by first | assumption | kernel_rfl!) ?_
    refine w_int ?_
    refine kk_end2 ?_
    refine kk_call2 ?_
  dsimp only
  refine cv_fun noinit_299 isfn_299 (next_run (by lia) hr (by lia) (by lia) hn ?_)
  obtain ⟨w, hw⟩ : ∃ w, w = cellOfReel ns k % 10 := ⟨_, rfl⟩
  rw [← hw]
  have hw : w = 0 ∨ w = 1 ∨ w = 2 ∨ w = 3 ∨ w = 4 ∨ w = 5 ∨ w = 6 ∨ w = 7 ∨ w = 8 ∨ w = 9 := by lia
  rcases hw with rfl | rfl | rfl | rfl | rfl | rfl | rfl | rfl | rfl | rfl
  · with_reducible
      refine kk_asg ?_
      refine kk_next ?_
      refine wx_if ?_
      refine wt_var (by kernel_rfl!) (lk_at 2 (by kernel_rfl!) (by with_unfolding_all rfl)) (by kernel_rfl!) ?_
      refine w_int ?_
      refine kk_cmp2 ?_
      refine p_lt ?_
      refine kk_ifx_t (by first | assumption | kernel_rfl!) ?_
      refine wq_ret ?_
      refine w_tuple ?_
      refine ws_cons (by kernel_rfl!) ?_
      refine w_sub (by kernel_rfl!) ?_
      refine w_strs2 ?_
      refine kk_sub ?_
      refine w_var (lk_at 2 (by kernel_rfl!) (by with_unfolding_all rfl)) (by kernel_rfl!) ?_
      refine kk_sub2 ?_
      refine ⟨_, sb_tup_0, ?_⟩
      refine kk_more (by kernel_rfl!) ?_
      refine w_glb (by kernel_rfl!) glob__law_set (by kernel_rfl!) ?_
      refine ws_var1 (lk_at 0 (by kernel_rfl!) (by with_unfolding_all rfl)) (by kernel_rfl!) ?_
      refine kk_call2 ?_
    dsimp only
    refine cv_fun noinit_306 isfn_306 (set_run (by lia) (hr2 _) (by lia) hn fun late => ?_)
    with_reducible
      refine kk_end2 ?_
      refine kk_tup (by with_unfolding_all rfl) (by kernel_rfl!) ?_
      refine kk_ret2 ?_
    rw [List.set_set]
    exact h (.atom false _ late) _ (in3_mod _) (show 3 ≤ 61 by decide) (show 0 ≤ 1 by decide) (by lia)
  · with_reducible
      refine kk_asg ?_
      refine kk_next ?_
      refine wx_if ?_
      refine wt_var (by kernel_rfl!) (lk_at 2 (by kernel_rfl!) (by with_unfolding_all rfl)) (by kernel_rfl!) ?_
      refine w_int ?_
      refine kk_cmp2 ?_
      refine p_lt ?_
      refine kk_ifx_t (by first | assumption | kernel_rfl!) ?_
      refine wq_ret ?_
      refine w_tuple ?_
      refine ws_cons (by kernel_rfl!) ?_
      refine w_sub (by kernel_rfl!) ?_
      refine w_strs2 ?_
      refine kk_sub ?_
      refine w_var (lk_at 2 (by kernel_rfl!) (by with_unfolding_all rfl)) (by kernel_rfl!) ?_
      refine kk_sub2 ?_
      refine ⟨_, sb_tup_1, ?_⟩
      refine kk_more (by kernel_rfl!) ?_
      refine w_glb (by kernel_rfl!) glob__law_set (by kernel_rfl!) ?_
      refine ws_var1 (lk_at 0 (by kernel_rfl!) (by with_unfolding_all rfl)) (by kernel_rfl!) ?_
      refine kk_call2 ?_
    dsimp only
    refine cv_fun noinit_306 isfn_306 (set_run (by lia) (hr2 _) (by lia) hn fun late => ?_)
    with_reducible
      refine kk_end2 ?_
      refine kk_tup (by with_unfolding_all rfl) (by kernel_rfl!) ?_
      refine kk_ret2 ?_
    rw [List.set_set]
    exact h (.atom true _ late) _ (in3_mod _) (show 3 ≤ 61 by decide) (show 0 ≤ 1 by decide) (by lia)
  · with_reducible
      refine kk_asg ?_
      refine kk_next ?_
      refine wx_if ?_
      refine wt_var (by kernel_rfl!) (lk_at 2 (by kernel_rfl!) (by with_unfolding_all rfl)) (by kernel_rfl!) ?_
      refine w_int ?_
      refine kk_cmp2 ?_
      refine p_lt ?_
      refine kk_skipn (by first | assumption | kernel_rfl!) ?_
      refine wx_if ?_
      refine wt_var (by kernel_rfl!) (lk_at 2 (by kernel_rfl!) (by with_unfolding_all rfl)) (by kernel_rfl!) ?_
      refine w_int ?_
      refine kk_cmp2 ?_
      refine p_eq ?_
      refine kk_ifx_t (by first | assumption | kernel_rfl!) ?_
      refine wq_ret ?_
      refine w_tuple ?_
      refine ws_str ?_
      refine ws_cons (by kernel_rfl!) ?_
      refine w_glb (by kernel_rfl!) glob__law_set (by kernel_rfl!) ?_
      refine ws_var1 (lk_at 0 (by kernel_rfl!) (by with_unfolding_all rfl)) (by kernel_rfl!) ?_
      refine kk_call2 ?_
    dsimp only
    refine cv_fun noinit_306 isfn_306 (set_run (by lia) (hr2 _) (by lia) hn fun late => ?_)
    with_reducible
      refine kk_more (by kernel_rfl!) ?_
      refine w_glb (by kernel_rfl!) glob__law_set (by kernel_rfl!) ?_
      refine ws_var1 (lk_at 0 (by kernel_rfl!) (by with_unfolding_all rfl)) (by kernel_rfl!) ?_
      refine kk_call2 ?_
    dsimp only
    rw [List.set_set]
    refine cv_fun noinit_306 isfn_306 (set_run (by lia) (hr2 _) (by lia) hn fun late' => ?_)
    with_reducible
      refine kk_end3 ?_
      refine kk_tup (by with_unfolding_all rfl) (by kernel_rfl!) ?_
      refine kk_ret2 ?_
    rw [List.set_set]
    exact h (.inn _ late _ late') _ ⟨in3_mod _, in3_mod _⟩ (show 5 ≤ 61 by decide) (show 0 ≤ 1 by decide) (by lia)
  · with_reducible
      refine kk_asg ?_
      refine kk_next ?_
      refine wx_if ?_
      refine wt_var (by kernel_rfl!) (lk_at 2 (by kernel_rfl!) (by with_unfolding_all rfl)) (by kernel_rfl!) ?_
      refine w_int ?_
      refine kk_cmp2 ?_
      refine p_lt ?_
      refine kk_skipn (by first | assumption | kernel_rfl!) ?_
      refine wx_if ?_
      refine wt_var (by kernel_rfl!) (lk_at 2 (by kernel_rfl!) (by with_unfolding_all rfl)) (by kernel_rfl!) ?_
      refine w_int ?_
      refine kk_cmp2 ?_
      refine p_eq ?_
      refine kk_skipn (by first | assumption | kernel_rfl!) ?_
      refine wx_if ?_
      refine wt_var (by kernel_rfl!) (lk_at 2 (by kernel_rfl!) (by with_unfolding_all rfl)) (by kernel_rfl!) ?_
      refine w_int ?_
      refine kk_cmp2 ?_
      refine p_eq ?_
      refine kk_ifx_t (by first | assumption | kernel_rfl!) ?_
      refine wq_ret ?_
      refine w_tuple ?_
      refine ws_str ?_
      refine ws_cons (by kernel_rfl!) ?_
      refine w_glb (by kernel_rfl!) glob__law_claim (by kernel_rfl!) ?_
      refine ws_var (lk_at 0 (by kernel_rfl!) (by with_unfolding_all rfl)) (by kernel_rfl!) ?_
      refine ws_cons (by kernel_rfl!) ?_
      refine w_bin ?_
      refine w_var (lk_at 1 (by kernel_rfl!) (by with_unfolding_all rfl)) (by kernel_rfl!) ?_
      refine kk_bin ?_
      refine w_int ?_
      refine kk_bin2 ?_
      refine p_sub ?_
      refine kk_end2 ?_
      refine kk_call2 ?_
    dsimp only
    refine cv_fun noinit_313 isfn_313 (claim0_run (by lia) (hr2 _) (by lia) hn fun f k' o c d l => ?_)
    with_reducible
      refine kk_end2 ?_
      refine kk_tup (by with_unfolding_all rfl) (by kernel_rfl!) ?_
      refine kk_ret2 ?_
    rw [List.set_set]
    exact h (.neg f) _ o (by simp only [Fm.cost]; lia) (by simp only [Fm.dp]; lia) (by lia)
  · with_reducible
      refine kk_asg ?_
      refine kk_next ?_
      refine wx_if ?_
      refine wt_var (by kernel_rfl!) (lk_at 2 (by kernel_rfl!) (by with_unfolding_all rfl)) (by kernel_rfl!) ?_
      refine w_int ?_
      refine kk_cmp2 ?_
      refine p_lt ?_
      refine kk_skipn (by first | assumption | kernel_rfl!) ?_
      refine wx_if ?_
      refine wt_var (by kernel_rfl!) (lk_at 2 (by kernel_rfl!) (by with_unfolding_all rfl)) (by kernel_rfl!) ?_
      refine w_int ?_
      refine kk_cmp2 ?_
      refine p_eq ?_
      refine kk_skipn (by first | assumption | kernel_rfl!) ?_
      refine wx_if ?_
      refine wt_var (by kernel_rfl!) (lk_at 2 (by kernel_rfl!) (by with_unfolding_all rfl)) (by kernel_rfl!) ?_
      refine w_int ?_
      refine kk_cmp2 ?_
      refine p_eq ?_
      refine kk_skipn (by first | assumption | kernel_rfl!) ?_
      refine wx_if ?_
      refine wt_var (by kernel_rfl!) (lk_at 2 (by kernel_rfl!) (by with_unfolding_all rfl)) (by kernel_rfl!) ?_
      refine w_int ?_
      refine kk_cmp2 ?_
      refine p_lt ?_
      refine kk_ifx_t (by first | assumption | kernel_rfl!) ?_
      refine wq_ret ?_
      refine w_tuple ?_
      refine ws_cons (by kernel_rfl!) ?_
      refine w_sub (by kernel_rfl!) ?_
      refine w_strs2 ?_
      refine kk_sub ?_
      refine w_bin ?_
      refine w_var (lk_at 2 (by kernel_rfl!) (by with_unfolding_all rfl)) (by kernel_rfl!) ?_
      refine kk_bin ?_
      refine w_int ?_
      refine kk_bin2 ?_
      refine p_sub ?_
      refine kk_sub2 ?_
      refine ⟨_, sb_tup_0, ?_⟩
      refine kk_more (by kernel_rfl!) ?_
      refine w_tuple ?_
      refine ws_cons (by kernel_rfl!) ?_
      refine w_glb (by kernel_rfl!) glob__law_claim (by kernel_rfl!) ?_
      refine ws_var (lk_at 0 (by kernel_rfl!) (by with_unfolding_all rfl)) (by kernel_rfl!) ?_
      refine ws_cons (by kernel_rfl!) ?_
      refine w_bin ?_
      refine w_var (lk_at 1 (by kernel_rfl!) (by with_unfolding_all rfl)) (by kernel_rfl!) ?_
      refine kk_bin ?_
      refine w_int ?_
      refine kk_bin2 ?_
      refine p_sub ?_
      refine kk_end2 ?_
      refine kk_call2 ?_
    dsimp only
    refine cv_fun noinit_313 isfn_313 (claim0_run (by lia) (hr2 _) (by lia) hn fun f k' o c d l => ?_)
    with_reducible
      refine kk_more (by kernel_rfl!) ?_
      refine w_glb (by kernel_rfl!) glob__law_claim (by kernel_rfl!) ?_
      refine ws_var (lk_at 0 (by kernel_rfl!) (by with_unfolding_all rfl)) (by kernel_rfl!) ?_
      refine ws_cons (by kernel_rfl!) ?_
      refine w_bin ?_
      refine w_var (lk_at 1 (by kernel_rfl!) (by with_unfolding_all rfl)) (by kernel_rfl!) ?_
      refine kk_bin ?_
      refine w_int ?_
      refine kk_bin2 ?_
      refine p_sub ?_
      refine kk_end2 ?_
      refine kk_call2 ?_
    dsimp only
    rw [List.set_set]
    refine cv_fun noinit_313 isfn_313 (claim0_run (by lia) (hr2 _) (by lia) hn fun g k'' o' c' d' l' => ?_)
    with_reducible
      refine kk_end2 ?_
      refine kk_tup (by with_unfolding_all rfl) (by kernel_rfl!) ?_
      refine kk_end2 ?_
      refine kk_tup (by with_unfolding_all rfl) (by kernel_rfl!) ?_
      refine kk_ret2 ?_
    rw [List.set_set]
    exact h (.bin false f g) _ ⟨o, o'⟩ (by simp only [Fm.cost]; lia) (by simp only [Fm.dp]; lia) (by lia)
  · with_reducible
      refine kk_asg ?_
      refine kk_next ?_
      refine wx_if ?_
      refine wt_var (by kernel_rfl!) (lk_at 2 (by kernel_rfl!) (by with_unfolding_all rfl)) (by kernel_rfl!) ?_
      refine w_int ?_
      refine kk_cmp2 ?_
      refine p_lt ?_
      refine kk_skipn (by first | assumption | kernel_rfl!) ?_
      refine wx_if ?_
      refine wt_var (by kernel_rfl!) (lk_at 2 (by kernel_rfl!) (by with_unfolding_all rfl)) (by kernel_rfl!) ?_
      refine w_int ?_
      refine kk_cmp2 ?_
      refine p_eq ?_
      refine kk_skipn (by first | assumption | kernel_rfl!) ?_
      refine wx_if ?_
      refine wt_var (by kernel_rfl!) (lk_at 2 (by kernel_rfl!) (by with_unfolding_all rfl)) (by kernel_rfl!) ?_
      refine w_int ?_
      refine kk_cmp2 ?_
      refine p_eq ?_
      refine kk_skipn (by first | assumption | kernel_rfl!) ?_
      refine wx_if ?_
      refine wt_var (by kernel_rfl!) (lk_at 2 (by kernel_rfl!) (by with_unfolding_all rfl)) (by kernel_rfl!) ?_
      refine w_int ?_
      refine kk_cmp2 ?_
      refine p_lt ?_
      refine kk_ifx_t (by first | assumption | kernel_rfl!) ?_
      refine wq_ret ?_
      refine w_tuple ?_
      refine ws_cons (by kernel_rfl!) ?_
      refine w_sub (by kernel_rfl!) ?_
      refine w_strs2 ?_
      refine kk_sub ?_
      refine w_bin ?_
      refine w_var (lk_at 2 (by kernel_rfl!) (by with_unfolding_all rfl)) (by kernel_rfl!) ?_
      refine kk_bin ?_
      refine w_int ?_
      refine kk_bin2 ?_
      refine p_sub ?_
      refine kk_sub2 ?_
      refine ⟨_, sb_tup_1, ?_⟩
      refine kk_more (by kernel_rfl!) ?_
      refine w_tuple ?_
      refine ws_cons (by kernel_rfl!) ?_
      refine w_glb (by kernel_rfl!) glob__law_claim (by kernel_rfl!) ?_
      refine ws_var (lk_at 0 (by kernel_rfl!) (by with_unfolding_all rfl)) (by kernel_rfl!) ?_
      refine ws_cons (by kernel_rfl!) ?_
      refine w_bin ?_
      refine w_var (lk_at 1 (by kernel_rfl!) (by with_unfolding_all rfl)) (by kernel_rfl!) ?_
      refine kk_bin ?_
      refine w_int ?_
      refine kk_bin2 ?_
      refine p_sub ?_
      refine kk_end2 ?_
      refine kk_call2 ?_
    dsimp only
    refine cv_fun noinit_313 isfn_313 (claim0_run (by lia) (hr2 _) (by lia) hn fun f k' o c d l => ?_)
    with_reducible
      refine kk_more (by kernel_rfl!) ?_
      refine w_glb (by kernel_rfl!) glob__law_claim (by kernel_rfl!) ?_
      refine ws_var (lk_at 0 (by kernel_rfl!) (by with_unfolding_all rfl)) (by kernel_rfl!) ?_
      refine ws_cons (by kernel_rfl!) ?_
      refine w_bin ?_
      refine w_var (lk_at 1 (by kernel_rfl!) (by with_unfolding_all rfl)) (by kernel_rfl!) ?_
      refine kk_bin ?_
      refine w_int ?_
      refine kk_bin2 ?_
      refine p_sub ?_
      refine kk_end2 ?_
      refine kk_call2 ?_
    dsimp only
    rw [List.set_set]
    refine cv_fun noinit_313 isfn_313 (claim0_run (by lia) (hr2 _) (by lia) hn fun g k'' o' c' d' l' => ?_)
    with_reducible
      refine kk_end2 ?_
      refine kk_tup (by with_unfolding_all rfl) (by kernel_rfl!) ?_
      refine kk_end2 ?_
      refine kk_tup (by with_unfolding_all rfl) (by kernel_rfl!) ?_
      refine kk_ret2 ?_
    rw [List.set_set]
    exact h (.bin true f g) _ ⟨o, o'⟩ (by simp only [Fm.cost]; lia) (by simp only [Fm.dp]; lia) (by lia)
  · with_reducible
      refine kk_asg ?_
      refine kk_next ?_
      refine wx_if ?_
      refine wt_var (by kernel_rfl!) (lk_at 2 (by kernel_rfl!) (by with_unfolding_all rfl)) (by kernel_rfl!) ?_
      refine w_int ?_
      refine kk_cmp2 ?_
      refine p_lt ?_
      refine kk_skipn (by first | assumption | kernel_rfl!) ?_
      refine wx_if ?_
      refine wt_var (by kernel_rfl!) (lk_at 2 (by kernel_rfl!) (by with_unfolding_all rfl)) (by kernel_rfl!) ?_
      refine w_int ?_
      refine kk_cmp2 ?_
      refine p_eq ?_
      refine kk_skipn (by first | assumption | kernel_rfl!) ?_
      refine wx_if ?_
      refine wt_var (by kernel_rfl!) (lk_at 2 (by kernel_rfl!) (by with_unfolding_all rfl)) (by kernel_rfl!) ?_
      refine w_int ?_
      refine kk_cmp2 ?_
      refine p_eq ?_
      refine kk_skipn (by first | assumption | kernel_rfl!) ?_
      refine wx_if ?_
      refine wt_var (by kernel_rfl!) (lk_at 2 (by kernel_rfl!) (by with_unfolding_all rfl)) (by kernel_rfl!) ?_
      refine w_int ?_
      refine kk_cmp2 ?_
      refine p_lt ?_
      refine kk_skipn (by first | assumption | kernel_rfl!) ?_
      refine wx_if ?_
      refine wt_var (by kernel_rfl!) (lk_at 2 (by kernel_rfl!) (by with_unfolding_all rfl)) (by kernel_rfl!) ?_
      refine w_int ?_
      refine kk_cmp2 ?_
      refine p_lt ?_
      refine kk_ifx_t (by first | assumption | kernel_rfl!) ?_
      refine wq_ret ?_
      refine w_tuple ?_
      refine ws_cons (by kernel_rfl!) ?_
      refine w_sub (by kernel_rfl!) ?_
      refine w_strs3 ?_
      refine kk_sub ?_
      refine w_bin ?_
      refine w_var (lk_at 2 (by kernel_rfl!) (by with_unfolding_all rfl)) (by kernel_rfl!) ?_
      refine kk_bin ?_
      refine w_int ?_
      refine kk_bin2 ?_
      refine p_sub ?_
      refine kk_sub2 ?_
      refine ⟨_, sb_tup_0, ?_⟩
      refine kk_more (by kernel_rfl!) ?_
      refine w_glb (by kernel_rfl!) glob__law_claim (by kernel_rfl!) ?_
      refine ws_var (lk_at 0 (by kernel_rfl!) (by with_unfolding_all rfl)) (by kernel_rfl!) ?_
      refine ws_cons (by kernel_rfl!) ?_
      refine w_bin ?_
      refine w_var (lk_at 1 (by kernel_rfl!) (by with_unfolding_all rfl)) (by kernel_rfl!) ?_
      refine kk_bin ?_
      refine w_int ?_
      refine kk_bin2 ?_
      refine p_sub ?_
      refine kk_end2 ?_
      refine kk_call2 ?_
    dsimp only
    refine cv_fun noinit_313 isfn_313 (claim0_run (by lia) (hr2 _) (by lia) hn fun f k' o c d l => ?_)
    with_reducible
      refine kk_end2 ?_
      refine kk_tup (by with_unfolding_all rfl) (by kernel_rfl!) ?_
      refine kk_ret2 ?_
    rw [List.set_set]
    exact h (.aft f) _ o (by simp only [Fm.cost]; lia) (by simp only [Fm.dp]; lia) (by lia)
  · with_reducible
      refine kk_asg ?_
      refine kk_next ?_
      refine wx_if ?_
      refine wt_var (by kernel_rfl!) (lk_at 2 (by kernel_rfl!) (by with_unfolding_all rfl)) (by kernel_rfl!) ?_
      refine w_int ?_
      refine kk_cmp2 ?_
      refine p_lt ?_
      refine kk_skipn (by first | assumption | kernel_rfl!) ?_
      refine wx_if ?_
      refine wt_var (by kernel_rfl!) (lk_at 2 (by kernel_rfl!) (by with_unfolding_all rfl)) (by kernel_rfl!) ?_
      refine w_int ?_
      refine kk_cmp2 ?_
      refine p_eq ?_
      refine kk_skipn (by first | assumption | kernel_rfl!) ?_
      refine wx_if ?_
      refine wt_var (by kernel_rfl!) (lk_at 2 (by kernel_rfl!) (by with_unfolding_all rfl)) (by kernel_rfl!) ?_
      refine w_int ?_
      refine kk_cmp2 ?_
      refine p_eq ?_
      refine kk_skipn (by first | assumption | kernel_rfl!) ?_
      refine wx_if ?_
      refine wt_var (by kernel_rfl!) (lk_at 2 (by kernel_rfl!) (by with_unfolding_all rfl)) (by kernel_rfl!) ?_
      refine w_int ?_
      refine kk_cmp2 ?_
      refine p_lt ?_
      refine kk_skipn (by first | assumption | kernel_rfl!) ?_
      refine wx_if ?_
      refine wt_var (by kernel_rfl!) (lk_at 2 (by kernel_rfl!) (by with_unfolding_all rfl)) (by kernel_rfl!) ?_
      refine w_int ?_
      refine kk_cmp2 ?_
      refine p_lt ?_
      refine kk_ifx_t (by first | assumption | kernel_rfl!) ?_
      refine wq_ret ?_
      refine w_tuple ?_
      refine ws_cons (by kernel_rfl!) ?_
      refine w_sub (by kernel_rfl!) ?_
      refine w_strs3 ?_
      refine kk_sub ?_
      refine w_bin ?_
      refine w_var (lk_at 2 (by kernel_rfl!) (by with_unfolding_all rfl)) (by kernel_rfl!) ?_
      refine kk_bin ?_
      refine w_int ?_
      refine kk_bin2 ?_
      refine p_sub ?_
      refine kk_sub2 ?_
      refine ⟨_, sb_tup_1, ?_⟩
      refine kk_more (by kernel_rfl!) ?_
      refine w_glb (by kernel_rfl!) glob__law_claim (by kernel_rfl!) ?_
      refine ws_var (lk_at 0 (by kernel_rfl!) (by with_unfolding_all rfl)) (by kernel_rfl!) ?_
      refine ws_cons (by kernel_rfl!) ?_
      refine w_bin ?_
      refine w_var (lk_at 1 (by kernel_rfl!) (by with_unfolding_all rfl)) (by kernel_rfl!) ?_
      refine kk_bin ?_
      refine w_int ?_
      refine kk_bin2 ?_
      refine p_sub ?_
      refine kk_end2 ?_
      refine kk_call2 ?_
    dsimp only
    refine cv_fun noinit_313 isfn_313 (claim0_run (by lia) (hr2 _) (by lia) hn fun f k' o c d l => ?_)
    with_reducible
      refine kk_end2 ?_
      refine kk_tup (by with_unfolding_all rfl) (by kernel_rfl!) ?_
      refine kk_ret2 ?_
    rw [List.set_set]
    exact h (.glob false f) _ o (by simp only [Fm.cost]; lia) (by simp only [Fm.dp]; lia) (by lia)
  · with_reducible
      refine kk_asg ?_
      refine kk_next ?_
      refine wx_if ?_
      refine wt_var (by kernel_rfl!) (lk_at 2 (by kernel_rfl!) (by with_unfolding_all rfl)) (by kernel_rfl!) ?_
      refine w_int ?_
      refine kk_cmp2 ?_
      refine p_lt ?_
      refine kk_skipn (by first | assumption | kernel_rfl!) ?_
      refine wx_if ?_
      refine wt_var (by kernel_rfl!) (lk_at 2 (by kernel_rfl!) (by with_unfolding_all rfl)) (by kernel_rfl!) ?_
      refine w_int ?_
      refine kk_cmp2 ?_
      refine p_eq ?_
      refine kk_skipn (by first | assumption | kernel_rfl!) ?_
      refine wx_if ?_
      refine wt_var (by kernel_rfl!) (lk_at 2 (by kernel_rfl!) (by with_unfolding_all rfl)) (by kernel_rfl!) ?_
      refine w_int ?_
      refine kk_cmp2 ?_
      refine p_eq ?_
      refine kk_skipn (by first | assumption | kernel_rfl!) ?_
      refine wx_if ?_
      refine wt_var (by kernel_rfl!) (lk_at 2 (by kernel_rfl!) (by with_unfolding_all rfl)) (by kernel_rfl!) ?_
      refine w_int ?_
      refine kk_cmp2 ?_
      refine p_lt ?_
      refine kk_skipn (by first | assumption | kernel_rfl!) ?_
      refine wx_if ?_
      refine wt_var (by kernel_rfl!) (lk_at 2 (by kernel_rfl!) (by with_unfolding_all rfl)) (by kernel_rfl!) ?_
      refine w_int ?_
      refine kk_cmp2 ?_
      refine p_lt ?_
      refine kk_ifx_t (by first | assumption | kernel_rfl!) ?_
      refine wq_ret ?_
      refine w_tuple ?_
      refine ws_cons (by kernel_rfl!) ?_
      refine w_sub (by kernel_rfl!) ?_
      refine w_strs3 ?_
      refine kk_sub ?_
      refine w_bin ?_
      refine w_var (lk_at 2 (by kernel_rfl!) (by with_unfolding_all rfl)) (by kernel_rfl!) ?_
      refine kk_bin ?_
      refine w_int ?_
      refine kk_bin2 ?_
      refine p_sub ?_
      refine kk_sub2 ?_
      refine ⟨_, sb_tup_2, ?_⟩
      refine kk_more (by kernel_rfl!) ?_
      refine w_glb (by kernel_rfl!) glob__law_claim (by kernel_rfl!) ?_
      refine ws_var (lk_at 0 (by kernel_rfl!) (by with_unfolding_all rfl)) (by kernel_rfl!) ?_
      refine ws_cons (by kernel_rfl!) ?_
      refine w_bin ?_
      refine w_var (lk_at 1 (by kernel_rfl!) (by with_unfolding_all rfl)) (by kernel_rfl!) ?_
      refine kk_bin ?_
      refine w_int ?_
      refine kk_bin2 ?_
      refine p_sub ?_
      refine kk_end2 ?_
      refine kk_call2 ?_
    dsimp only
    refine cv_fun noinit_313 isfn_313 (claim0_run (by lia) (hr2 _) (by lia) hn fun f k' o c d l => ?_)
    with_reducible
      refine kk_end2 ?_
      refine kk_tup (by with_unfolding_all rfl) (by kernel_rfl!) ?_
      refine kk_ret2 ?_
    rw [List.set_set]
    exact h (.glob true f) _ o (by simp only [Fm.cost]; lia) (by simp only [Fm.dp]; lia) (by lia)
  · with_reducible
      refine kk_asg ?_
      refine kk_next ?_
      refine wx_if ?_
      refine wt_var (by kernel_rfl!) (lk_at 2 (by kernel_rfl!) (by with_unfolding_all rfl)) (by kernel_rfl!) ?_
      refine w_int ?_
      refine kk_cmp2 ?_
      refine p_lt ?_
      refine kk_skipn (by first | assumption | kernel_rfl!) ?_
      refine wx_if ?_
      refine wt_var (by kernel_rfl!) (lk_at 2 (by kernel_rfl!) (by with_unfolding_all rfl)) (by kernel_rfl!) ?_
      refine w_int ?_
      refine kk_cmp2 ?_
      refine p_eq ?_
      refine kk_skipn (by first | assumption | kernel_rfl!) ?_
      refine wx_if ?_
      refine wt_var (by kernel_rfl!) (lk_at 2 (by kernel_rfl!) (by with_unfolding_all rfl)) (by kernel_rfl!) ?_
      refine w_int ?_
      refine kk_cmp2 ?_
      refine p_eq ?_
      refine kk_skipn (by first | assumption | kernel_rfl!) ?_
      refine wx_if ?_
      refine wt_var (by kernel_rfl!) (lk_at 2 (by kernel_rfl!) (by with_unfolding_all rfl)) (by kernel_rfl!) ?_
      refine w_int ?_
      refine kk_cmp2 ?_
      refine p_lt ?_
      refine kk_skipn (by first | assumption | kernel_rfl!) ?_
      refine wx_if ?_
      refine wt_var (by kernel_rfl!) (lk_at 2 (by kernel_rfl!) (by with_unfolding_all rfl)) (by kernel_rfl!) ?_
      refine w_int ?_
      refine kk_cmp2 ?_
      refine p_lt ?_
      refine kk_skip (by first | assumption | kernel_rfl!) ?_
      refine wq_ret ?_
      refine w_tuple ?_
      refine ws_str ?_
      refine ws_cons (by kernel_rfl!) ?_
      refine w_glb (by kernel_rfl!) glob__law_claim (by kernel_rfl!) ?_
      refine ws_var (lk_at 0 (by kernel_rfl!) (by with_unfolding_all rfl)) (by kernel_rfl!) ?_
      refine ws_cons (by kernel_rfl!) ?_
      refine w_bin ?_
      refine w_var (lk_at 1 (by kernel_rfl!) (by with_unfolding_all rfl)) (by kernel_rfl!) ?_
      refine kk_bin ?_
      refine w_int ?_
      refine kk_bin2 ?_
      refine p_sub ?_
      refine kk_end2 ?_
      refine kk_call2 ?_
    dsimp only
    refine cv_fun noinit_313 isfn_313 (claim0_run (by lia) (hr2 _) (by lia) hn fun f k' o c d l => ?_)
    with_reducible
      refine kk_more (by kernel_rfl!) ?_
      refine w_glb (by kernel_rfl!) glob__law_claim (by kernel_rfl!) ?_
      refine ws_var (lk_at 0 (by kernel_rfl!) (by with_unfolding_all rfl)) (by kernel_rfl!) ?_
      refine ws_cons (by kernel_rfl!) ?_
      refine w_bin ?_
      refine w_var (lk_at 1 (by kernel_rfl!) (by with_unfolding_all rfl)) (by kernel_rfl!) ?_
      refine kk_bin ?_
      refine w_int ?_
      refine kk_bin2 ?_
      refine p_sub ?_
      refine kk_end2 ?_
      refine kk_call2 ?_
    dsimp only
    rw [List.set_set]
    refine cv_fun noinit_313 isfn_313 (claim0_run (by lia) (hr2 _) (by lia) hn fun g k'' o' c' d' l' => ?_)
    with_reducible
      refine kk_end3 ?_
      refine kk_tup (by with_unfolding_all rfl) (by kernel_rfl!) ?_
      refine kk_ret1 ?_
    rw [List.set_set]
    exact h (.unt true f g) _ ⟨rfl, o, o'⟩ (by simp only [Fm.cost]; lia) (by simp only [Fm.dp]; lia) (by lia)
end Mine
set_option maxHeartbeats 1000000
namespace Mine
open PySem
/-- the world: states, the one led back to, what varies; where the unroller, its places and its bounds stand -/
structure Wd where
  many : Nat
  back : Nat
  v0 : Bool
  v1 : Bool
  v2 : Bool
  ro : Nat
  pl : Nat
  bo : Nat
structure Wd.ok (W : Wd) : Prop where
  m : W.many = 2 ∨ W.many = 3
  b : W.back < W.many
  ne : W.ro ≠ W.pl
noncomputable def Wd.vary (W : Wd) (i : Int) : Bool := if i = 0 then W.v0 else if i = 1 then W.v1 else W.v2
noncomputable def Wd.base (W : Wd) (i : Int) : Nat := if i = 0 then 0 else if i = 1 then (if W.v0 then W.many else 1) else (if W.v0 then W.many else 1) + (if W.v1 then W.many else 1)
noncomputable def Wd.place (W : Wd) (i : Int) (k : Nat) : Nat := W.base i + if W.vary i then k else 0
noncomputable def Wd.row (W : Wd) (i : Int) : V := .d (.tuple ((List.range W.many).map fun k => .int (W.place i k)))
noncomputable abbrev Wd.places (W : Wd) : O := .lst [W.row 0, W.row 1, W.row 2]
noncomputable def Wd.after (W : Wd) (k : Nat) : Nat := if k + 1 < W.many then k + 1 else W.back
noncomputable def Wd.line (W : Wd) (k : Nat) : List Nat := List.range' k (W.many - k) ++ List.range' W.back (k - W.back)
noncomputable abbrev Wd.roller (W : Wd) (m : Nat) : O := .inst 288 [(Str.ofString "steps", .d (.int W.many)), (Str.ofString "loop", .d (.int W.back)), (Str.ofString "many", .d (.int m)), (Str.ofString "bounds", .st W.bo), (Str.ofString "places", .st W.pl)]
structure St (W : Wd) (σ : Sto) (m : Nat) : Prop where
  ro : σ[W.ro]? = some (W.roller m)
  pl : σ[W.pl]? = some W.places
noncomputable def Ex (r : Nat) (σ σ' : Sto) : Prop := σ.length ≤ σ'.length ∧ ∀ i, i ≠ r → i < σ.length → σ'[i]? = σ[i]?
theorem Ex.refl {r σ} : Ex r σ σ := ⟨Nat.le_refl _, fun _ _ _ => rfl⟩
theorem Ex.trans {r σ σ' σ''} (a : Ex r σ σ') (b : Ex r σ' σ'') : Ex r σ σ'' := ⟨Nat.le_trans a.1 b.1, fun i h h' => (b.2 i h (Nat.lt_of_lt_of_le h' a.1)).trans (a.2 i h h')⟩
theorem Ex.at {r σ σ'} (a : Ex r σ σ') {i o} (h : i ≠ r) (e : σ[i]? = some o) : σ'[i]? = some o := by rw [a.2 i h (List.getElem?_eq_some_iff.mp e).1]; exact e
theorem Ex.set {r σ o} : Ex r σ (σ.set r o) := ⟨by rw [List.length_set]; exact Nat.le_refl _, fun i h _ => by rw [List.getElem?_set_ne (Ne.symm h)]⟩
theorem Ex.push {r σ l} : Ex r σ (σ ++ l) := ⟨by rw [List.length_append]; lia, fun i _ h => List.getElem?_append_left h⟩
theorem Wd.ok.aft {W : Wd} (h : W.ok) (k : Nat) : W.after k < W.many := by
  unfold Wd.after
  split
  · assumption
  · exact h.b
theorem St.push {W : Wd} {σ m} (h : St W σ m) {l} : St W (σ ++ l) m := ⟨getElem?_append_some h.ro, getElem?_append_some h.pl⟩
theorem St.set {W : Wd} (o : W.ok) {σ m} (h : St W σ m) (m' : Nat) : St W (σ.set W.ro (W.roller m')) m' := ⟨getElem?_set_self' h.ro, by rw [List.getElem?_set_ne o.ne]; exact h.pl⟩
theorem St.ex {W : Wd} {σ σ' m} (h : St W σ m) {i o} (hi : i ≠ W.ro) (hi' : i ≠ W.pl) (e : σ' = σ.set i o) : St W σ' m := by
  subst e
  exact ⟨by rw [List.getElem?_set_ne hi]; exact h.ro, by rw [List.getElem?_set_ne hi']; exact h.pl⟩

variable {W : Wd} {Q : V → Sto → Prop} {σ : Sto} {m : Nat}
theorem rel_run {N : Nat} (hN : 10 ≤ N) (ok : W.ok) (hs : St W σ m) {i : Int} (hi : in3 i) {k : Nat} (hk : k < W.many) (h : Q (.d (.int (W.place i k))) σ) : Mine.W (lvC theTab N 245 [.st W.ro, .d (.int i), .d (.int k)] σ) Q := by
  obtain ⟨n, rfl⟩ : ∃ n, N = n + 10 := ⟨N - 10, by lia⟩
  have h1 := hs.ro
  have h2 := hs.pl
  have hm := ok.m
  obtain ⟨b, hb⟩ : ∃ b, b = bodyOf 245 := ⟨_, rfl⟩
  obtain ⟨s, hs⟩ : ∃ b, b = scOf 245 := ⟨_, rfl⟩
  obtain ⟨p, hp⟩ : ∃ b, b = psOf 245 := ⟨_, rfl⟩
  have hf := fn_of 245 (by kernel_rfl)
  rw [← hb, ← hs, ← hp] at hf
  conv at hb => rhs; whnf
  conv at hs => rhs; whnf
  conv at hp => rhs; whnf
  subst hb hs hp
  simp only [List.map_cons, List.map_nil] at hf
  refine w_run hf (by kernel_rfl) ?_
  clear hf
  simp only [List.zip_cons_cons, List.zip_nil_right]
  with_reducible
    refine wq_ret ?_
    refine w_sub (by kernel_rfl!) ?_
    refine w_sub (by kernel_rfl!) ?_
    refine w_attrv (lk_at 0 (by kernel_rfl!) (by with_unfolding_all rfl)) (by kernel_rfl!) ?_
    refine kk_attr (ga (by assumption) attr_288_places (lk_at 4 (by kernel_rfl!) (by with_unfolding_all rfl)) (by with_unfolding_all rfl)) ?_
    refine kk_sub ?_
    refine w_var (lk_at 1 (by kernel_rfl!) (by with_unfolding_all rfl)) (by kernel_rfl!) ?_
    refine kk_sub2 ?_
  dsimp only
  refine ⟨W.row i, ?_, ?_⟩
  · rcases hi with rfl | rfl | rfl
    · exact sb_lst (i := 0) h2 (by decide) rfl
    · exact sb_lst (i := 1) h2 (by decide) rfl
    · exact sb_lst (i := 2) h2 (by decide) rfl
  with_reducible
    refine kk_sub ?_
    refine w_var (lk_at 2 (by kernel_rfl!) (by with_unfolding_all rfl)) (by kernel_rfl!) ?_
    refine kk_sub2 ?_
  dsimp only
  refine ⟨_, sb_tup (x := .int (W.place i k)) (by lia) ?_, h⟩
  rw [List.getElem?_map, List.getElem?_range hk]
  rfl
theorem after_run {N : Nat} (hN : 12 ≤ N) (ok : W.ok) (hs : St W σ m) {k : Nat} (hk : k < W.many) (h : Q (.d (.int (W.after k))) σ) : Mine.W (lvC theTab N 259 [.st W.ro, .d (.int k)] σ) Q := by
  obtain ⟨n, rfl⟩ : ∃ n, N = n + 12 := ⟨N - 12, by lia⟩
  have h1 := hs.ro
  have h2 := hs.pl
  have hm := ok.m
  unfold Wd.after at h
  obtain ⟨b, hb⟩ : ∃ b, b = bodyOf 259 := ⟨_, rfl⟩
  obtain ⟨s, hs⟩ : ∃ b, b = scOf 259 := ⟨_, rfl⟩
  obtain ⟨p, hp⟩ : ∃ b, b = psOf 259 := ⟨_, rfl⟩
  have hf := fn_of 259 (by kernel_rfl)
  rw [← hb, ← hs, ← hp] at hf
  conv at hb => rhs; whnf
  conv at hs => rhs; whnf
  conv at hp => rhs; whnf
  subst hb hs hp
  simp only [List.map_cons, List.map_nil] at hf
  refine w_run hf (by kernel_rfl) ?_
  clear hf
  simp only [List.zip_cons_cons, List.zip_nil_right]
  with_reducible
    refine wq_ret ?_
    refine w_if ?_
    refine wt_cmp (by kernel_rfl!) ?_
    refine w_bin ?_
    refine w_var (lk_at 1 (by kernel_rfl!) (by with_unfolding_all rfl)) (by kernel_rfl!) ?_
    refine kk_bin ?_
    refine w_int ?_
    refine kk_bin2 ?_
    refine p_add ?_
    refine kk_cmp ?_
    refine w_attrv (lk_at 0 (by kernel_rfl!) (by with_unfolding_all rfl)) (by kernel_rfl!) ?_
    refine kk_attr (ga (by assumption) attr_288_steps (lk_at 0 (by kernel_rfl!) (by with_unfolding_all rfl)) (by with_unfolding_all rfl)) ?_
    refine kk_cmp2 ?_
    refine p_lt ?_
    refine kk_if ?_
  refine w_if_d (fun e => ?_) (fun e => ?_)
  · rw [if_pos (by lia)] at h
    with_reducible
      refine w_bin ?_
      refine w_var (lk_at 1 (by kernel_rfl!) (by with_unfolding_all rfl)) (by kernel_rfl!) ?_
      refine kk_bin ?_
      refine w_int ?_
      refine kk_bin2 ?_
      refine p_add ?_
      refine kk_ret1 ?_
    exact h
  · rw [if_neg (by lia)] at h
    with_reducible
      refine w_attrv (lk_at 0 (by kernel_rfl!) (by with_unfolding_all rfl)) (by kernel_rfl!) ?_
      refine kk_attr (ga (by assumption) attr_288_loop (lk_at 1 (by kernel_rfl!) (by with_unfolding_all rfl)) (by with_unfolding_all rfl)) ?_
      refine kk_ret1 ?_
    dsimp only
    exact h
theorem spend_run {N : Nat} (hN : 12 ≤ N) (ok : W.ok) (hs : St W σ m) {c : Nat} (hc : m + c ≤ 200000) (h : ∀ σ', St W σ' (m + c) → Ex W.ro σ σ' → Q (.d .none) σ') : Mine.W (lvC theTab N 273 [.st W.ro, .d (.int c)] σ) Q := by
  obtain ⟨n, rfl⟩ : ∃ n, N = n + 12 := ⟨N - 12, by lia⟩
  have h1 := hs.ro
  have h2 := hs.pl
  have hm := ok.m
  have hs' := hs.set ok (m + c)
  have h3 := hs'.ro
  obtain ⟨b, hb⟩ : ∃ b, b = bodyOf 273 := ⟨_, rfl⟩
  obtain ⟨s, hs⟩ : ∃ b, b = scOf 273 := ⟨_, rfl⟩
  obtain ⟨p, hp⟩ : ∃ b, b = psOf 273 := ⟨_, rfl⟩
  have hf := fn_of 273 (by kernel_rfl)
  rw [← hb, ← hs, ← hp] at hf
  conv at hb => rhs; whnf
  conv at hs => rhs; whnf
  conv at hp => rhs; whnf
  subst hb hs hp
  simp only [List.map_cons, List.map_nil] at hf
  refine w_run hf (by kernel_rfl) ?_
  clear hf
  simp only [List.zip_cons_cons, List.zip_nil_right]
  with_reducible
    refine wq_cons ?_
    refine wx_aattr ?_
    refine w_bin ?_
    refine w_attrv (lk_at 0 (by kernel_rfl!) (by with_unfolding_all rfl)) (by kernel_rfl!) ?_
    refine kk_attr (ga (by assumption) attr_288_many (lk_at 2 (by kernel_rfl!) (by with_unfolding_all rfl)) (by with_unfolding_all rfl)) ?_
    refine kk_bin ?_
    refine w_var (lk_at 1 (by kernel_rfl!) (by with_unfolding_all rfl)) (by kernel_rfl!) ?_
    refine kk_bin2 ?_
    refine p_add ?_
    refine kk_aat ?_
    refine w_var (lk_at 0 (by kernel_rfl!) (by with_unfolding_all rfl)) (by kernel_rfl!) ?_
    refine kk_aat2 ?_
  dsimp only
  refine ⟨_, _, _, rfl, h1, by kernel_rfl!, ?_⟩
  have g : putD [(Str.ofString "steps", V.d (.int W.many)), (Str.ofString "loop", .d (.int W.back)), (Str.ofString "many", .d (.int m)), (Str.ofString "bounds", .st W.bo), (Str.ofString "places", .st W.pl)] (Str.ofString "many") (V.d (.int ((m : Int) + (c : Int)))) = [(Str.ofString "steps", .d (.int W.many)), (Str.ofString "loop", .d (.int W.back)), (Str.ofString "many", .d (.int ((m + c : Nat) : Int))), (Str.ofString "bounds", .st W.bo), (Str.ofString "places", .st W.pl)] := by
    simp only [putD, List.any_cons, List.map_cons, ofString_beq, List.any_nil, List.map_nil, String.reduceBEq, beq_self_eq_true]; rfl
  rw [g]
  with_reducible
    refine kk_next ?_
    refine wx_if ?_
    refine wt_cmp (by kernel_rfl!) ?_
    refine w_attrv (lk_at 0 (by kernel_rfl!) (by with_unfolding_all rfl)) (by kernel_rfl!) ?_
    refine kk_attr (ga (by assumption) attr_288_many (lk_at 2 (by kernel_rfl!) (by with_unfolding_all rfl)) (by with_unfolding_all rfl)) ?_
    refine kk_cmp ?_
    refine w_glob glob_MOST (by kernel_rfl!) ?_
    refine kk_cmp2 ?_
    refine p_gt ?_
    refine kk_ifx ?_
  refine w_if_d (fun e => ?_) (fun e => ?_)
  · exfalso; lia
  · with_reducible
      refine wq_nil ?_
      refine kk_seq_n ?_
      refine wq_nil ?_
      refine kk_run_n ?_
    exact h _ hs' Ex.set
theorem numsUp_cast : ∀ (m a : Nat), (numsUp (a : Int) m).map PyData.int = (List.range' a m).map fun j : Nat => PyData.int j
  | 0, a => rfl
  | m + 1, a => by
    rw [numsUp_succ, List.range'_succ, List.map_cons, List.map_cons]
    have := numsUp_cast m (a + 1)
    rw [← this]
    rfl
theorem line_run {N : Nat} (hN : 12 ≤ N) (ok : W.ok) (hs : St W σ m) {k : Nat} (hk : k < W.many) (h : Q (.d (.list ((W.line k).map fun j : Nat => .int j))) σ) : Mine.W (lvC theTab N 266 [.st W.ro, .d (.int k)] σ) Q := by
  obtain ⟨n, rfl⟩ : ∃ n, N = n + 12 := ⟨N - 12, by lia⟩
  have h1 := hs.ro
  have h2 := hs.pl
  have hm := ok.m
  have hb := ok.b
  obtain ⟨b, hb⟩ : ∃ b, b = bodyOf 266 := ⟨_, rfl⟩
  obtain ⟨s, hs⟩ : ∃ b, b = scOf 266 := ⟨_, rfl⟩
  obtain ⟨p, hp⟩ : ∃ b, b = psOf 266 := ⟨_, rfl⟩
  have hf := fn_of 266 (by kernel_rfl)
  rw [← hb, ← hs, ← hp] at hf
  conv at hb => rhs; whnf
  conv at hs => rhs; whnf
  conv at hp => rhs; whnf
  subst hb hs hp
  simp only [List.map_cons, List.map_nil] at hf
  refine w_run hf (by kernel_rfl) ?_
  clear hf
  simp only [List.zip_cons_cons, List.zip_nil_right]
  with_reducible
    refine wq_ret ?_
    refine w_bin ?_
    refine w_glb (by kernel_rfl!) glob_list (by kernel_rfl!) ?_
    refine ws_cons (by kernel_rfl!) ?_
    refine w_glb (by kernel_rfl!) glob_range (by kernel_rfl!) ?_
    refine ws_var (lk_at 1 (by kernel_rfl!) (by with_unfolding_all rfl)) (by kernel_rfl!) ?_
    refine ws_cons (by kernel_rfl!) ?_
    refine w_attrv (lk_at 0 (by kernel_rfl!) (by with_unfolding_all rfl)) (by kernel_rfl!) ?_
    refine kk_attr (ga (by assumption) attr_288_steps (lk_at 0 (by kernel_rfl!) (by with_unfolding_all rfl)) (by with_unfolding_all rfl)) ?_
    refine kk_end2 ?_
    refine kk_call2 ?_
    refine cv_type ?_
    refine b_range2 (by lia) (by lia) ?_
    refine kk_end1 ?_
    refine kk_call2 ?_
    refine cv_type ?_
    refine b_list_rng (by lia) (by lia) (by lia) ?_
    refine kk_bin ?_
    refine w_glb (by kernel_rfl!) glob_list (by kernel_rfl!) ?_
    refine ws_cons (by kernel_rfl!) ?_
    refine w_glb (by kernel_rfl!) glob_range (by kernel_rfl!) ?_
    refine ws_cons (by kernel_rfl!) ?_
    refine w_attrv (lk_at 0 (by kernel_rfl!) (by with_unfolding_all rfl)) (by kernel_rfl!) ?_
    refine kk_attr (ga (by assumption) attr_288_loop (lk_at 1 (by kernel_rfl!) (by with_unfolding_all rfl)) (by with_unfolding_all rfl)) ?_
    refine kk_cons ?_
    refine ws_var2 (lk_at 1 (by kernel_rfl!) (by with_unfolding_all rfl)) (by kernel_rfl!) ?_
    refine kk_call2 ?_
    refine cv_type ?_
    refine b_range2 (by lia) (by lia) ?_
    refine kk_end1 ?_
    refine kk_call2 ?_
    refine cv_type ?_
    refine b_list_rng (by lia) (by lia) (by lia) ?_
    refine kk_bin2 ?_
  have e1 : ((W.many : Int) - (k : Int)).toNat = W.many - k := by lia
  have e2 : ((k : Int) - (W.back : Int)).toNat = k - W.back := by lia
  rw [e1, e2, numsUp_cast, numsUp_cast]
  refine p_addLL ?_ ?_
  · simp [small, Nat.blt]
    lia
  · rw [← List.map_append]
    exact h
end Mine
set_option maxHeartbeats 1000000
namespace Mine
open PySem
noncomputable def Told (W : Wd) (nd : PyData) (g : Nat → PyData) (c N : Nat) : Prop := ∀ (n : Nat) (σ : Sto) (m k : Nat) (Q : V → Sto → Prop), N ≤ n → St W σ m → k < W.many → m + c ≤ 200000 →
  (∀ σ' m', St W σ' m' → Ex W.ro σ σ' → m ≤ m' → m' ≤ m + c → Q (.d (g k)) σ') → Mine.W (lvC theTab n 278 [.st W.ro, .d nd, .d (.int k)] σ) Q
variable {W : Wd}
theorem told_rel (ok : W.ok) {i : Int} (hi : in3 i) : Told W (relD i) (fun k => relD (W.place i k)) 1 40 := by
  intro n σ m k Q hN hs hk hm h
  obtain ⟨n, rfl⟩ : ∃ n', n = n' + 40 := ⟨n - 40, by lia⟩
  unfold relD at h ⊢
  obtain ⟨b, hb⟩ : ∃ b, b = bodyOf 278 := ⟨_, rfl⟩
  obtain ⟨s, hs⟩ : ∃ b, b = scOf 278 := ⟨_, rfl⟩
  obtain ⟨p, hp⟩ : ∃ b, b = psOf 278 := ⟨_, rfl⟩
  have hf := fn_of 278 (by kernel_rfl)
  rw [← hb, ← hs, ← hp] at hf
  conv at hb => rhs; whnf
  conv at hs => rhs; whnf
  conv at hp => rhs; whnf
  subst hb hs hp
  simp only [List.map_cons, List.map_nil] at hf
  refine w_run hf (by kernel_rfl) ?_
  clear hf
  simp only [List.zip_cons_cons, List.zip_nil_right]
  have h1 := hs.ro
  with_reducible
    refine wq_cons ?_
    refine wx_expr (by kernel_rfl!) ?_
    refine w_methv (by kernel_rfl!) (lk_at 0 (by kernel_rfl!) (by with_unfolding_all rfl)) (by kernel_rfl!) ?_
    refine kk_meth (by assumption) meth_288_spend (lk_miss (by kernel_rfl!) (lk_miss (by kernel_rfl!) (lk_miss (by kernel_rfl!) (lk_miss (by kernel_rfl!) (lk_miss (by kernel_rfl!) lk_nil))))) isfn_273 ?_
    refine ws_int1 ?_
    refine kk_meth2 ?_
  refine spend_run (c := 1) (by lia) ok hs hm fun σ₁ hs₁ x₁ => ?_
  clear h1
  have h1 := hs₁.ro
  with_reducible
    refine kk_expr ?_
    refine kk_next ?_
    refine wx_asg (by kernel_rfl!) ?_
    refine wv_plain (by kernel_rfl!) ?_
    refine w_subi (lk_at 1 (by kernel_rfl!) (by with_unfolding_all rfl)) (by kernel_rfl!) ?_
    refine ⟨_, sb_tup_0, ?_⟩
    refine kk_asg ?_
    refine kk_seq_n ?_
    refine wi_eqs (lk_at 3 (by kernel_rfl!) (by with_unfolding_all rfl)) (by kernel_rfl!) (by kernel_rfl!) (by kernel_rfl!) ?_
    refine kk_ifx_t (by first | assumption | kernel_rfl!) ?_
    refine wq_ret ?_
    refine w_tuple ?_
    refine ws_str ?_
    refine ws_cons (by kernel_rfl!) ?_
    refine w_methv (by kernel_rfl!) (lk_at 0 (by kernel_rfl!) (by with_unfolding_all rfl)) (by kernel_rfl!) ?_
    refine kk_meth (by assumption) meth_288_relation_at (lk_miss (by kernel_rfl!) (lk_miss (by kernel_rfl!) (lk_miss (by kernel_rfl!) (lk_miss (by kernel_rfl!) (lk_miss (by kernel_rfl!) lk_nil))))) isfn_245 ?_
    refine ws_cons (by kernel_rfl!) ?_
    refine w_subi (lk_at 1 (by kernel_rfl!) (by with_unfolding_all rfl)) (by kernel_rfl!) ?_
    refine ⟨_, sb_tup_1, ?_⟩
    refine kk_cons ?_
    refine ws_var2 (lk_at 2 (by kernel_rfl!) (by with_unfolding_all rfl)) (by kernel_rfl!) ?_
    refine kk_meth2 ?_
  dsimp only
  refine rel_run (by lia) ok hs₁ hi hk ?_
  with_reducible
    refine kk_end2 ?_
    refine kk_tup (by with_unfolding_all rfl) (by kernel_rfl!) ?_
    refine kk_ret2 ?_
  exact h _ _ hs₁ x₁ (by lia) (by lia)
theorem told_later (ok : W.ok) {nd g c N} (hf : Told W nd g c N) : Told W (.tuple [sD "later", nd]) (fun k => g (W.after k)) (c + 1) (N + 40) := by
  intro n σ m k Q hN hs hk hm h
  obtain ⟨n, rfl⟩ : ∃ n', n = n' + 40 := ⟨n - 40, by lia⟩
  unfold sD
  obtain ⟨b, hb⟩ : ∃ b, b = bodyOf 278 := ⟨_, rfl⟩
  obtain ⟨s, hs⟩ : ∃ b, b = scOf 278 := ⟨_, rfl⟩
  obtain ⟨p, hp⟩ : ∃ b, b = psOf 278 := ⟨_, rfl⟩
  have hf := fn_of 278 (by kernel_rfl)
  rw [← hb, ← hs, ← hp] at hf
  conv at hb => rhs; whnf
  conv at hs => rhs; whnf
  conv at hp => rhs; whnf
  subst hb hs hp
  simp only [List.map_cons, List.map_nil] at hf
  refine w_run hf (by kernel_rfl) ?_
  clear hf
  simp only [List.zip_cons_cons, List.zip_nil_right]
  have h1 := hs.ro
  with_reducible
    refine wq_cons ?_
    refine wx_expr (by kernel_rfl!) ?_
    refine w_methv (by kernel_rfl!) (lk_at 0 (by kernel_rfl!) (by with_unfolding_all rfl)) (by kernel_rfl!) ?_
    refine kk_meth (by assumption) meth_288_spend (lk_miss (by kernel_rfl!) (lk_miss (by kernel_rfl!) (lk_miss (by kernel_rfl!) (lk_miss (by kernel_rfl!) (lk_miss (by kernel_rfl!) lk_nil))))) isfn_273 ?_
    refine ws_int1 ?_
    refine kk_meth2 ?_
  refine spend_run (c := 1) (by lia) ok hs (by lia) fun σ₁ hs₁ x₁ => ?_
  clear h1
  have h1 := hs₁.ro
  with_reducible
    refine kk_expr ?_
    refine kk_next ?_
    refine wx_asg (by kernel_rfl!) ?_
    refine wv_plain (by kernel_rfl!) ?_
    refine w_subi (lk_at 1 (by kernel_rfl!) (by with_unfolding_all rfl)) (by kernel_rfl!) ?_
    refine ⟨_, sb_tup_0, ?_⟩
    refine kk_asg ?_
    refine kk_seq_n ?_
    refine wi_eqs (lk_at 3 (by kernel_rfl!) (by with_unfolding_all rfl)) (by kernel_rfl!) (by kernel_rfl!) (by kernel_rfl!) ?_
    refine kk_skipn (by first | assumption | kernel_rfl!) ?_
    refine wx_if ?_
    refine wt_var (by kernel_rfl!) (lk_at 3 (by kernel_rfl!) (by with_unfolding_all rfl)) (by kernel_rfl!) ?_
    refine w_tuple ?_
    refine ws_str ?_
    refine ws_str ?_
    refine ws_str ?_
    refine ws_str3 ?_
    refine kk_cons2 ?_
    refine kk_tup (by with_unfolding_all rfl) (by kernel_rfl!) ?_
    refine kk_cmp2 ?_
    refine p_in_tup (by kernel_rfl!) ?_
    refine kk_skipn (by first | assumption | kernel_rfl!) ?_
    refine wx_if ?_
    refine wt_var (by kernel_rfl!) (lk_at 3 (by kernel_rfl!) (by with_unfolding_all rfl)) (by kernel_rfl!) ?_
    refine w_strs2 ?_
    refine kk_cmp2 ?_
    refine p_in_tup (by kernel_rfl!) ?_
    refine kk_ifx_t (by first | assumption | kernel_rfl!) ?_
    refine wq_ret ?_
    refine w_methv (by kernel_rfl!) (lk_at 0 (by kernel_rfl!) (by with_unfolding_all rfl)) (by kernel_rfl!) ?_
    refine kk_meth (by assumption) meth_288_told (lk_miss (by kernel_rfl!) (lk_miss (by kernel_rfl!) (lk_miss (by kernel_rfl!) (lk_miss (by kernel_rfl!) (lk_miss (by kernel_rfl!) lk_nil))))) isfn_278 ?_
    refine ws_cons (by kernel_rfl!) ?_
    refine w_subi (lk_at 1 (by kernel_rfl!) (by with_unfolding_all rfl)) (by kernel_rfl!) ?_
    refine ⟨_, sb_tup_1, ?_⟩
    refine kk_more (by kernel_rfl!) ?_
    refine w_methv (by kernel_rfl!) (lk_at 0 (by kernel_rfl!) (by with_unfolding_all rfl)) (by kernel_rfl!) ?_
    refine kk_meth (by assumption) meth_288_after (lk_miss (by kernel_rfl!) (lk_miss (by kernel_rfl!) (lk_miss (by kernel_rfl!) (lk_miss (by kernel_rfl!) (lk_miss (by kernel_rfl!) lk_nil))))) isfn_259 ?_
    refine ws_var1 (lk_at 2 (by kernel_rfl!) (by with_unfolding_all rfl)) (by kernel_rfl!) ?_
    refine kk_meth2 ?_
  dsimp only
  refine after_run (by lia) ok hs₁ hk ?_
  with_reducible
    refine kk_end2 ?_
    refine kk_meth2 ?_
  refine hf _ _ _ _ _ (by lia) hs₁ (ok.aft k) (by lia) fun σ₂ m₂ hs₂ x₂ l₁ l₂ => ?_
  with_reducible
    refine kk_ret2 ?_
  exact h _ _ hs₂ (x₁.trans x₂) (by lia) (by lia)
theorem told_aft (ok : W.ok) {nd g c N} (hf : Told W nd g c N) : Told W (.tuple [sD "after", nd]) (fun k => g (W.after k)) (c + 1) (N + 40) := by
  intro n σ m k Q hN hs hk hm h
  obtain ⟨n, rfl⟩ : ∃ n', n = n' + 40 := ⟨n - 40, by lia⟩
  unfold sD
  obtain ⟨b, hb⟩ : ∃ b, b = bodyOf 278 := ⟨_, rfl⟩
  obtain ⟨s, hs⟩ : ∃ b, b = scOf 278 := ⟨_, rfl⟩
  obtain ⟨p, hp⟩ : ∃ b, b = psOf 278 := ⟨_, rfl⟩
  have hf := fn_of 278 (by kernel_rfl)
  rw [← hb, ← hs, ← hp] at hf
  conv at hb => rhs; whnf
  conv at hs => rhs; whnf
  conv at hp => rhs; whnf
  subst hb hs hp
  simp only [List.map_cons, List.map_nil] at hf
  refine w_run hf (by kernel_rfl) ?_
  clear hf
  simp only [List.zip_cons_cons, List.zip_nil_right]
  have h1 := hs.ro
  with_reducible
    refine wq_cons ?_
    refine wx_expr (by kernel_rfl!) ?_
    refine w_methv (by kernel_rfl!) (lk_at 0 (by kernel_rfl!) (by with_unfolding_all rfl)) (by kernel_rfl!) ?_
    refine kk_meth (by assumption) meth_288_spend (lk_miss (by kernel_rfl!) (lk_miss (by kernel_rfl!) (lk_miss (by kernel_rfl!) (lk_miss (by kernel_rfl!) (lk_miss (by kernel_rfl!) lk_nil))))) isfn_273 ?_
    refine ws_int1 ?_
    refine kk_meth2 ?_
  refine spend_run (c := 1) (by lia) ok hs (by lia) fun σ₁ hs₁ x₁ => ?_
  clear h1
  have h1 := hs₁.ro
  with_reducible
    refine kk_expr ?_
    refine kk_next ?_
    refine wx_asg (by kernel_rfl!) ?_
    refine wv_plain (by kernel_rfl!) ?_
    refine w_subi (lk_at 1 (by kernel_rfl!) (by with_unfolding_all rfl)) (by kernel_rfl!) ?_
    refine ⟨_, sb_tup_0, ?_⟩
    refine kk_asg ?_
    refine kk_seq_n ?_
    refine wi_eqs (lk_at 3 (by kernel_rfl!) (by with_unfolding_all rfl)) (by kernel_rfl!) (by kernel_rfl!) (by kernel_rfl!) ?_
    refine kk_skipn (by first | assumption | kernel_rfl!) ?_
    refine wx_if ?_
    refine wt_var (by kernel_rfl!) (lk_at 3 (by kernel_rfl!) (by with_unfolding_all rfl)) (by kernel_rfl!) ?_
    refine w_tuple ?_
    refine ws_str ?_
    refine ws_str ?_
    refine ws_str ?_
    refine ws_str3 ?_
    refine kk_cons2 ?_
    refine kk_tup (by with_unfolding_all rfl) (by kernel_rfl!) ?_
    refine kk_cmp2 ?_
    refine p_in_tup (by kernel_rfl!) ?_
    refine kk_skipn (by first | assumption | kernel_rfl!) ?_
    refine wx_if ?_
    refine wt_var (by kernel_rfl!) (lk_at 3 (by kernel_rfl!) (by with_unfolding_all rfl)) (by kernel_rfl!) ?_
    refine w_strs2 ?_
    refine kk_cmp2 ?_
    refine p_in_tup (by kernel_rfl!) ?_
    refine kk_ifx_t (by first | assumption | kernel_rfl!) ?_
    refine wq_ret ?_
    refine w_methv (by kernel_rfl!) (lk_at 0 (by kernel_rfl!) (by with_unfolding_all rfl)) (by kernel_rfl!) ?_
    refine kk_meth (by assumption) meth_288_told (lk_miss (by kernel_rfl!) (lk_miss (by kernel_rfl!) (lk_miss (by kernel_rfl!) (lk_miss (by kernel_rfl!) (lk_miss (by kernel_rfl!) lk_nil))))) isfn_278 ?_
    refine ws_cons (by kernel_rfl!) ?_
    refine w_subi (lk_at 1 (by kernel_rfl!) (by with_unfolding_all rfl)) (by kernel_rfl!) ?_
    refine ⟨_, sb_tup_1, ?_⟩
    refine kk_more (by kernel_rfl!) ?_
    refine w_methv (by kernel_rfl!) (lk_at 0 (by kernel_rfl!) (by with_unfolding_all rfl)) (by kernel_rfl!) ?_
    refine kk_meth (by assumption) meth_288_after (lk_miss (by kernel_rfl!) (lk_miss (by kernel_rfl!) (lk_miss (by kernel_rfl!) (lk_miss (by kernel_rfl!) (lk_miss (by kernel_rfl!) lk_nil))))) isfn_259 ?_
    refine ws_var1 (lk_at 2 (by kernel_rfl!) (by with_unfolding_all rfl)) (by kernel_rfl!) ?_
    refine kk_meth2 ?_
  dsimp only
  refine after_run (by lia) ok hs₁ hk ?_
  with_reducible
    refine kk_end2 ?_
    refine kk_meth2 ?_
  refine hf _ _ _ _ _ (by lia) hs₁ (ok.aft k) (by lia) fun σ₂ m₂ hs₂ x₂ l₁ l₂ => ?_
  with_reducible
    refine kk_ret2 ?_
  exact h _ _ hs₂ (x₁.trans x₂) (by lia) (by lia)
theorem told_one (ok : W.ok) {nd g c N op} (hop : op = "not" ∨ op = "some" ∨ op = "no") (hf : Told W nd g c N) : Told W (.tuple [sD op, nd]) (fun k => .tuple [sD op, g k]) (c + 1) (N + 40) := by
  intro n σ m k Q hN hs hk hm h
  obtain ⟨n, rfl⟩ : ∃ n', n = n' + 40 := ⟨n - 40, by lia⟩
  unfold sD at h ⊢
  rcases hop with rfl | rfl | rfl
  all_goals
    obtain ⟨b, hb⟩ : ∃ b, b = bodyOf 278 := ⟨_, rfl⟩
    obtain ⟨s, hs⟩ : ∃ b, b = scOf 278 := ⟨_, rfl⟩
    obtain ⟨p, hp⟩ : ∃ b, b = psOf 278 := ⟨_, rfl⟩
    have hf := fn_of 278 (by kernel_rfl)
    rw [← hb, ← hs, ← hp] at hf
    conv at hb => rhs; whnf
    conv at hs => rhs; whnf
    conv at hp => rhs; whnf
    subst hb hs hp
    simp only [List.map_cons, List.map_nil] at hf
    refine w_run hf (by kernel_rfl) ?_
    clear hf
    simp only [List.zip_cons_cons, List.zip_nil_right]
    have h1 := hs.ro
    with_reducible
      refine wq_cons ?_
      refine wx_expr (by kernel_rfl!) ?_
      refine w_methv (by kernel_rfl!) (lk_at 0 (by kernel_rfl!) (by with_unfolding_all rfl)) (by kernel_rfl!) ?_
      refine kk_meth (by assumption) meth_288_spend (lk_miss (by kernel_rfl!) (lk_miss (by kernel_rfl!) (lk_miss (by kernel_rfl!) (lk_miss (by kernel_rfl!) (lk_miss (by kernel_rfl!) lk_nil))))) isfn_273 ?_
      refine ws_int1 ?_
      refine kk_meth2 ?_
    refine spend_run (c := 1) (by lia) ok hs (by lia) fun σ₁ hs₁ x₁ => ?_
    clear h1
    have h1 := hs₁.ro
    with_reducible
      refine kk_expr ?_
      refine kk_next ?_
      refine wx_asg (by kernel_rfl!) ?_
      refine wv_plain (by kernel_rfl!) ?_
      refine w_subi (lk_at 1 (by kernel_rfl!) (by with_unfolding_all rfl)) (by kernel_rfl!) ?_
      refine ⟨_, sb_tup_0, ?_⟩
      refine kk_asg ?_
      refine kk_seq_n ?_
      refine wi_eqs (lk_at 3 (by kernel_rfl!) (by with_unfolding_all rfl)) (by kernel_rfl!) (by kernel_rfl!) (by kernel_rfl!) ?_
      refine kk_skipn (by first | assumption | kernel_rfl!) ?_
      refine wx_if ?_
      refine wt_var (by kernel_rfl!) (lk_at 3 (by kernel_rfl!) (by with_unfolding_all rfl)) (by kernel_rfl!) ?_
      refine w_tuple ?_
      refine ws_str ?_
      refine ws_str ?_
      refine ws_str ?_
      refine ws_str3 ?_
      refine kk_cons2 ?_
      refine kk_tup (by with_unfolding_all rfl) (by kernel_rfl!) ?_
      refine kk_cmp2 ?_
      refine p_in_tup (by kernel_rfl!) ?_
      refine kk_skipn (by first | assumption | kernel_rfl!) ?_
      refine wx_if ?_
      refine wt_var (by kernel_rfl!) (lk_at 3 (by kernel_rfl!) (by with_unfolding_all rfl)) (by kernel_rfl!) ?_
      refine w_strs2 ?_
      refine kk_cmp2 ?_
      refine p_in_tup (by kernel_rfl!) ?_
      refine kk_skipn (by first | assumption | kernel_rfl!) ?_
      refine wx_if ?_
      refine wt_var (by kernel_rfl!) (lk_at 3 (by kernel_rfl!) (by with_unfolding_all rfl)) (by kernel_rfl!) ?_
      refine w_strs2 ?_
      refine kk_cmp2 ?_
      refine p_in_tup (by kernel_rfl!) ?_
      refine kk_skipn (by first | assumption | kernel_rfl!) ?_
      refine wx_if ?_
      refine wt_var (by kernel_rfl!) (lk_at 3 (by kernel_rfl!) (by with_unfolding_all rfl)) (by kernel_rfl!) ?_
      refine w_strs2 ?_
      refine kk_cmp2 ?_
      refine p_in_tup (by kernel_rfl!) ?_
      refine kk_skipn (by first | assumption | kernel_rfl!) ?_
      refine wx_if ?_
      refine wt_var (by kernel_rfl!) (lk_at 3 (by kernel_rfl!) (by with_unfolding_all rfl)) (by kernel_rfl!) ?_
      refine w_strs2 ?_
      refine kk_cmp2 ?_
      refine p_in_tup (by kernel_rfl!) ?_
      refine kk_skipn (by first | assumption | kernel_rfl!) ?_
      refine wx_if ?_
      refine wt_var (by kernel_rfl!) (lk_at 3 (by kernel_rfl!) (by with_unfolding_all rfl)) (by kernel_rfl!) ?_
      refine w_tuple ?_
      refine ws_str ?_
      refine ws_str ?_
      refine ws_str ?_
      refine ws_str3 ?_
      refine kk_cons2 ?_
      refine kk_tup (by with_unfolding_all rfl) (by kernel_rfl!) ?_
      refine kk_cmp2 ?_
      refine p_in_tup (by kernel_rfl!) ?_
      refine kk_skip (by first | assumption | kernel_rfl!) ?_
      refine wq_ret ?_
      refine w_bin ?_
      refine w_tuple ?_
      refine ws_var1 (lk_at 3 (by kernel_rfl!) (by with_unfolding_all rfl)) (by kernel_rfl!) ?_
      refine kk_tup (by with_unfolding_all rfl) (by kernel_rfl!) ?_
      refine kk_bin ?_
      refine w_glb (by kernel_rfl!) glob_tuple (by kernel_rfl!) ?_
      refine ws_cons (by kernel_rfl!) ?_
      refine w_comp (by kernel_rfl!) ?_
      refine w_from ?_ rfl
      refine w_var (lk_at 1 (by kernel_rfl!) (by with_unfolding_all rfl)) (by kernel_rfl!) ?_
      refine kk_from ?_
    dsimp only
    refine ⟨⟨by decide, by simp⟩, by kernel_rfl!, ?_⟩
    with_reducible
      refine kk_comp ?_
    refine wc_one (by kernel_rfl!) walks_tuple (by simp) ?_
    show Mine.W (compL _ [V.d nd] _ _) _
    with_reducible
      refine wc_cons ?_
      refine wc_turn ?_
      refine wa_nil ?_
      refine kk_turn_t (by kernel_rfl!) ?_
      refine w_methv (by kernel_rfl!) (lk_at 0 (by kernel_rfl!) (by with_unfolding_all rfl)) (by kernel_rfl!) ?_
      refine kk_meth (by assumption) meth_288_told (lk_miss (by kernel_rfl!) (lk_miss (by kernel_rfl!) (lk_miss (by kernel_rfl!) (lk_miss (by kernel_rfl!) (lk_miss (by kernel_rfl!) lk_nil))))) isfn_278 ?_
      refine ws_var (lk_at 2 (by kernel_rfl!) (by with_unfolding_all rfl)) (by kernel_rfl!) ?_
      refine ws_var2 (lk_at 1 (by kernel_rfl!) (by with_unfolding_all rfl)) (by kernel_rfl!) ?_
      refine kk_meth2 ?_
    dsimp only
    refine hf _ _ _ _ _ (by lia) hs₁ hk (by lia) fun σ₂ m₂ hs₂ x₂ l₁ l₂ => ?_
    with_reducible
      refine kk_put (by kernel_rfl!) ?_
      refine kk_turns ?_
      refine wc_nil ?_
      refine kk_li ?_
      refine kk_end1 ?_
      refine kk_call2 ?_
      refine cv_type ?_
      refine b_tuple_l (by first | assumption | kernel_rfl!) ?_
      refine kk_bin2 ?_
      refine p_addT (by first | assumption | kernel_rfl!) ?_
      refine kk_ret1 ?_
    exact h _ _ hs₂ (x₁.trans x₂) (by lia) (by lia)
theorem told_in (ok : W.ok) {nd g c N nd' g' c' N'} (hf : Told W nd g c N) (hf' : Told W nd' g' c' N') : Told W (.tuple [sD "in", nd, nd']) (fun k => .tuple [sD "in", g k, g' k]) (c + c' + 1) (max N N' + 40) := by
  intro n σ m k Q hN hs hk hm h
  obtain ⟨n, rfl⟩ : ∃ n', n = n' + 40 := ⟨n - 40, by lia⟩
  unfold sD at h ⊢
  obtain ⟨b, hb⟩ : ∃ b, b = bodyOf 278 := ⟨_, rfl⟩
  obtain ⟨s, hs⟩ : ∃ b, b = scOf 278 := ⟨_, rfl⟩
  obtain ⟨p, hp⟩ : ∃ b, b = psOf 278 := ⟨_, rfl⟩
  have hf := fn_of 278 (by kernel_rfl)
  rw [← hb, ← hs, ← hp] at hf
  conv at hb => rhs; whnf
  conv at hs => rhs; whnf
  conv at hp => rhs; whnf
  subst hb hs hp
  simp only [List.map_cons, List.map_nil] at hf
  refine w_run hf (by kernel_rfl) ?_
  clear hf
  simp only [List.zip_cons_cons, List.zip_nil_right]
  have h1 := hs.ro
  with_reducible
    refine wq_cons ?_
    refine wx_expr (by kernel_rfl!) ?_
    refine w_methv (by kernel_rfl!) (lk_at 0 (by kernel_rfl!) (by with_unfolding_all rfl)) (by kernel_rfl!) ?_
    refine kk_meth (by assumption) meth_288_spend (lk_miss (by kernel_rfl!) (lk_miss (by kernel_rfl!) (lk_miss (by kernel_rfl!) (lk_miss (by kernel_rfl!) (lk_miss (by kernel_rfl!) lk_nil))))) isfn_273 ?_
    refine ws_int1 ?_
    refine kk_meth2 ?_
  refine spend_run (c := 1) (by lia) ok hs (by lia) fun σ₁ hs₁ x₁ => ?_
  clear h1
  have h1 := hs₁.ro
  with_reducible
    refine kk_expr ?_
    refine kk_next ?_
    refine wx_asg (by kernel_rfl!) ?_
    refine wv_plain (by kernel_rfl!) ?_
    refine w_subi (lk_at 1 (by kernel_rfl!) (by with_unfolding_all rfl)) (by kernel_rfl!) ?_
    refine ⟨_, sb_tup_0, ?_⟩
    refine kk_asg ?_
    refine kk_seq_n ?_
    refine wi_eqs (lk_at 3 (by kernel_rfl!) (by with_unfolding_all rfl)) (by kernel_rfl!) (by kernel_rfl!) (by kernel_rfl!) ?_
    refine kk_skipn (by first | assumption | kernel_rfl!) ?_
    refine wx_if ?_
    refine wt_var (by kernel_rfl!) (lk_at 3 (by kernel_rfl!) (by with_unfolding_all rfl)) (by kernel_rfl!) ?_
    refine w_tuple ?_
    refine ws_str ?_
    refine ws_str ?_
    refine ws_str ?_
    refine ws_str3 ?_
    refine kk_cons2 ?_
    refine kk_tup (by with_unfolding_all rfl) (by kernel_rfl!) ?_
    refine kk_cmp2 ?_
    refine p_in_tup (by kernel_rfl!) ?_
    refine kk_skipn (by first | assumption | kernel_rfl!) ?_
    refine wx_if ?_
    refine wt_var (by kernel_rfl!) (lk_at 3 (by kernel_rfl!) (by with_unfolding_all rfl)) (by kernel_rfl!) ?_
    refine w_strs2 ?_
    refine kk_cmp2 ?_
    refine p_in_tup (by kernel_rfl!) ?_
    refine kk_skipn (by first | assumption | kernel_rfl!) ?_
    refine wx_if ?_
    refine wt_var (by kernel_rfl!) (lk_at 3 (by kernel_rfl!) (by with_unfolding_all rfl)) (by kernel_rfl!) ?_
    refine w_strs2 ?_
    refine kk_cmp2 ?_
    refine p_in_tup (by kernel_rfl!) ?_
    refine kk_skipn (by first | assumption | kernel_rfl!) ?_
    refine wx_if ?_
    refine wt_var (by kernel_rfl!) (lk_at 3 (by kernel_rfl!) (by with_unfolding_all rfl)) (by kernel_rfl!) ?_
    refine w_strs2 ?_
    refine kk_cmp2 ?_
    refine p_in_tup (by kernel_rfl!) ?_
    refine kk_skipn (by first | assumption | kernel_rfl!) ?_
    refine wx_if ?_
    refine wt_var (by kernel_rfl!) (lk_at 3 (by kernel_rfl!) (by with_unfolding_all rfl)) (by kernel_rfl!) ?_
    refine w_strs2 ?_
    refine kk_cmp2 ?_
    refine p_in_tup (by kernel_rfl!) ?_
    refine kk_skipn (by first | assumption | kernel_rfl!) ?_
    refine wx_if ?_
    refine wt_var (by kernel_rfl!) (lk_at 3 (by kernel_rfl!) (by with_unfolding_all rfl)) (by kernel_rfl!) ?_
    refine w_tuple ?_
    refine ws_str ?_
    refine ws_str ?_
    refine ws_str ?_
    refine ws_str3 ?_
    refine kk_cons2 ?_
    refine kk_tup (by with_unfolding_all rfl) (by kernel_rfl!) ?_
    refine kk_cmp2 ?_
    refine p_in_tup (by kernel_rfl!) ?_
    refine kk_skip (by first | assumption | kernel_rfl!) ?_
    refine wq_ret ?_
    refine w_bin ?_
    refine w_tuple ?_
    refine ws_var1 (lk_at 3 (by kernel_rfl!) (by with_unfolding_all rfl)) (by kernel_rfl!) ?_
    refine kk_tup (by with_unfolding_all rfl) (by kernel_rfl!) ?_
    refine kk_bin ?_
    refine w_glb (by kernel_rfl!) glob_tuple (by kernel_rfl!) ?_
    refine ws_cons (by kernel_rfl!) ?_
    refine w_comp (by kernel_rfl!) ?_
    refine w_from ?_ rfl
    refine w_var (lk_at 1 (by kernel_rfl!) (by with_unfolding_all rfl)) (by kernel_rfl!) ?_
    refine kk_from ?_
  dsimp only
  refine ⟨⟨by decide, by simp⟩, by kernel_rfl!, ?_⟩
  with_reducible
    refine kk_comp ?_
  refine wc_one (by kernel_rfl!) walks_tuple (by simp) ?_
  show Mine.W (compL _ [V.d nd, V.d nd'] _ _) _
  with_reducible
    refine wc_cons ?_
    refine wc_turn ?_
    refine wa_nil ?_
    refine kk_turn_t (by kernel_rfl!) ?_
    refine w_methv (by kernel_rfl!) (lk_at 0 (by kernel_rfl!) (by with_unfolding_all rfl)) (by kernel_rfl!) ?_
    refine kk_meth (by assumption) meth_288_told (lk_miss (by kernel_rfl!) (lk_miss (by kernel_rfl!) (lk_miss (by kernel_rfl!) (lk_miss (by kernel_rfl!) (lk_miss (by kernel_rfl!) lk_nil))))) isfn_278 ?_
    refine ws_var (lk_at 2 (by kernel_rfl!) (by with_unfolding_all rfl)) (by kernel_rfl!) ?_
    refine ws_var2 (lk_at 1 (by kernel_rfl!) (by with_unfolding_all rfl)) (by kernel_rfl!) ?_
    refine kk_meth2 ?_
  dsimp only
  refine hf _ _ _ _ _ (by lia) hs₁ hk (by lia) fun σ₂ m₂ hs₂ x₂ l₁ l₂ => ?_
  clear h1
  have h1 := hs₂.ro
  with_reducible
    refine kk_put (by kernel_rfl!) ?_
    refine kk_turns ?_
    refine wc_cons ?_
    refine wc_turn ?_
    refine wa_nil ?_
    refine kk_turn_t (by kernel_rfl!) ?_
    refine w_methv (by kernel_rfl!) (lk_at 0 (by kernel_rfl!) (by with_unfolding_all rfl)) (by kernel_rfl!) ?_
    refine kk_meth (by assumption) meth_288_told (lk_miss (by kernel_rfl!) (lk_miss (by kernel_rfl!) (lk_miss (by kernel_rfl!) (lk_miss (by kernel_rfl!) (lk_miss (by kernel_rfl!) lk_nil))))) isfn_278 ?_
    refine ws_var (lk_at 2 (by kernel_rfl!) (by with_unfolding_all rfl)) (by kernel_rfl!) ?_
    refine ws_var2 (lk_at 1 (by kernel_rfl!) (by with_unfolding_all rfl)) (by kernel_rfl!) ?_
    refine kk_meth2 ?_
  dsimp only
  refine hf' _ _ _ _ _ (by lia) hs₂ hk (by lia) fun σ₃ m₃ hs₃ x₃ l₃ l₄ => ?_
  with_reducible
    refine kk_put (by kernel_rfl!) ?_
    refine kk_turns ?_
    refine wc_nil ?_
    refine kk_li ?_
    refine kk_end1 ?_
    refine kk_call2 ?_
    refine cv_type ?_
    refine b_tuple_l (by first | assumption | kernel_rfl!) ?_
    refine kk_bin2 ?_
    refine p_addT (by first | assumption | kernel_rfl!) ?_
    refine kk_ret1 ?_
  exact h _ _ hs₃ ((x₁.trans x₂).trans x₃) (by lia) (by lia)
theorem told_bin (ok : W.ok) {nd g c N nd' g' c' N' op} (hop : op = "and" ∨ op = "or") (hf : Told W nd g c N) (hf' : Told W nd' g' c' N') : Told W (.tuple [sD op, .tuple [nd, nd']]) (fun k => .tuple [sD op, .tuple [g k, g' k]]) (c + c' + 1) (max N N' + 40) := by
  intro n σ m k Q hN hs hk hm h
  obtain ⟨n, rfl⟩ : ∃ n', n = n' + 40 := ⟨n - 40, by lia⟩
  unfold sD at h ⊢
  rcases hop with rfl | rfl
  all_goals
    obtain ⟨b, hb⟩ : ∃ b, b = bodyOf 278 := ⟨_, rfl⟩
    obtain ⟨s, hs⟩ : ∃ b, b = scOf 278 := ⟨_, rfl⟩
    obtain ⟨p, hp⟩ : ∃ b, b = psOf 278 := ⟨_, rfl⟩
    have hf := fn_of 278 (by kernel_rfl)
    rw [← hb, ← hs, ← hp] at hf
    conv at hb => rhs; whnf
    conv at hs => rhs; whnf
    conv at hp => rhs; whnf
    subst hb hs hp
    simp only [List.map_cons, List.map_nil] at hf
    refine w_run hf (by kernel_rfl) ?_
    clear hf
    simp only [List.zip_cons_cons, List.zip_nil_right]
    have h1 := hs.ro
    with_reducible
      refine wq_cons ?_
      refine wx_expr (by kernel_rfl!) ?_
      refine w_methv (by kernel_rfl!) (lk_at 0 (by kernel_rfl!) (by with_unfolding_all rfl)) (by kernel_rfl!) ?_
      refine kk_meth (by assumption) meth_288_spend (lk_miss (by kernel_rfl!) (lk_miss (by kernel_rfl!) (lk_miss (by kernel_rfl!) (lk_miss (by kernel_rfl!) (lk_miss (by kernel_rfl!) lk_nil))))) isfn_273 ?_
      refine ws_int1 ?_
      refine kk_meth2 ?_
    refine spend_run (c := 1) (by lia) ok hs (by lia) fun σ₁ hs₁ x₁ => ?_
    clear h1
    have h1 := hs₁.ro
    with_reducible
      refine kk_expr ?_
      refine kk_next ?_
      refine wx_asg (by kernel_rfl!) ?_
      refine wv_plain (by kernel_rfl!) ?_
      refine w_subi (lk_at 1 (by kernel_rfl!) (by with_unfolding_all rfl)) (by kernel_rfl!) ?_
      refine ⟨_, sb_tup_0, ?_⟩
      refine kk_asg ?_
      refine kk_seq_n ?_
      refine wi_eqs (lk_at 3 (by kernel_rfl!) (by with_unfolding_all rfl)) (by kernel_rfl!) (by kernel_rfl!) (by kernel_rfl!) ?_
      refine kk_skipn (by first | assumption | kernel_rfl!) ?_
      refine wx_if ?_
      refine wt_var (by kernel_rfl!) (lk_at 3 (by kernel_rfl!) (by with_unfolding_all rfl)) (by kernel_rfl!) ?_
      refine w_tuple ?_
      refine ws_str ?_
      refine ws_str ?_
      refine ws_str ?_
      refine ws_str3 ?_
      refine kk_cons2 ?_
      refine kk_tup (by with_unfolding_all rfl) (by kernel_rfl!) ?_
      refine kk_cmp2 ?_
      refine p_in_tup (by kernel_rfl!) ?_
      refine kk_skipn (by first | assumption | kernel_rfl!) ?_
      refine wx_if ?_
      refine wt_var (by kernel_rfl!) (lk_at 3 (by kernel_rfl!) (by with_unfolding_all rfl)) (by kernel_rfl!) ?_
      refine w_strs2 ?_
      refine kk_cmp2 ?_
      refine p_in_tup (by kernel_rfl!) ?_
      refine kk_skipn (by first | assumption | kernel_rfl!) ?_
      refine wx_if ?_
      refine wt_var (by kernel_rfl!) (lk_at 3 (by kernel_rfl!) (by with_unfolding_all rfl)) (by kernel_rfl!) ?_
      refine w_strs2 ?_
      refine kk_cmp2 ?_
      refine p_in_tup (by kernel_rfl!) ?_
      refine kk_skipn (by first | assumption | kernel_rfl!) ?_
      refine wx_if ?_
      refine wt_var (by kernel_rfl!) (lk_at 3 (by kernel_rfl!) (by with_unfolding_all rfl)) (by kernel_rfl!) ?_
      refine w_strs2 ?_
      refine kk_cmp2 ?_
      refine p_in_tup (by kernel_rfl!) ?_
      refine kk_skipn (by first | assumption | kernel_rfl!) ?_
      refine wx_if ?_
      refine wt_var (by kernel_rfl!) (lk_at 3 (by kernel_rfl!) (by with_unfolding_all rfl)) (by kernel_rfl!) ?_
      refine w_strs2 ?_
      refine kk_cmp2 ?_
      refine p_in_tup (by kernel_rfl!) ?_
      refine kk_ifx_t (by first | assumption | kernel_rfl!) ?_
      refine wq_ret ?_
      refine w_tuple ?_
      refine ws_var (lk_at 3 (by kernel_rfl!) (by with_unfolding_all rfl)) (by kernel_rfl!) ?_
      refine ws_cons (by kernel_rfl!) ?_
      refine w_glb (by kernel_rfl!) glob_tuple (by kernel_rfl!) ?_
      refine ws_cons (by kernel_rfl!) ?_
      refine w_comp (by kernel_rfl!) ?_
      refine w_subi (lk_at 1 (by kernel_rfl!) (by with_unfolding_all rfl)) (by kernel_rfl!) ?_
      refine ⟨_, sb_tup_1, ?_⟩
      refine kk_comp ?_
    dsimp only
    refine wc_one (by kernel_rfl!) walks_tuple (by simp) ?_
    show Mine.W (compL _ [V.d nd, V.d nd'] _ _) _
    with_reducible
      refine wc_cons ?_
      refine wc_turn ?_
      refine wa_nil ?_
      refine kk_turn_t (by kernel_rfl!) ?_
      refine w_methv (by kernel_rfl!) (lk_at 0 (by kernel_rfl!) (by with_unfolding_all rfl)) (by kernel_rfl!) ?_
      refine kk_meth (by assumption) meth_288_told (lk_miss (by kernel_rfl!) (lk_miss (by kernel_rfl!) (lk_miss (by kernel_rfl!) (lk_miss (by kernel_rfl!) (lk_miss (by kernel_rfl!) lk_nil))))) isfn_278 ?_
      refine ws_var (lk_at 2 (by kernel_rfl!) (by with_unfolding_all rfl)) (by kernel_rfl!) ?_
      refine ws_var2 (lk_at 1 (by kernel_rfl!) (by with_unfolding_all rfl)) (by kernel_rfl!) ?_
      refine kk_meth2 ?_
    dsimp only
    refine hf _ _ _ _ _ (by lia) hs₁ hk (by lia) fun σ₂ m₂ hs₂ x₂ l₁ l₂ => ?_
    clear h1
    have h1 := hs₂.ro
    with_reducible
      refine kk_put (by kernel_rfl!) ?_
      refine kk_turns ?_
      refine wc_cons ?_
      refine wc_turn ?_
      refine wa_nil ?_
      refine kk_turn_t (by kernel_rfl!) ?_
      refine w_methv (by kernel_rfl!) (lk_at 0 (by kernel_rfl!) (by with_unfolding_all rfl)) (by kernel_rfl!) ?_
      refine kk_meth (by assumption) meth_288_told (lk_miss (by kernel_rfl!) (lk_miss (by kernel_rfl!) (lk_miss (by kernel_rfl!) (lk_miss (by kernel_rfl!) (lk_miss (by kernel_rfl!) lk_nil))))) isfn_278 ?_
      refine ws_var (lk_at 2 (by kernel_rfl!) (by with_unfolding_all rfl)) (by kernel_rfl!) ?_
      refine ws_var2 (lk_at 1 (by kernel_rfl!) (by with_unfolding_all rfl)) (by kernel_rfl!) ?_
      refine kk_meth2 ?_
    dsimp only
    refine hf' _ _ _ _ _ (by lia) hs₂ hk (by lia) fun σ₃ m₃ hs₃ x₃ l₃ l₄ => ?_
    with_reducible
      refine kk_put (by kernel_rfl!) ?_
      refine kk_turns ?_
      refine wc_nil ?_
      refine kk_li ?_
      refine kk_end1 ?_
      refine kk_call2 ?_
      refine cv_type ?_
      refine b_tuple_l (by first | assumption | kernel_rfl!) ?_
      refine kk_end2 ?_
      refine kk_tup (by with_unfolding_all rfl) (by kernel_rfl!) ?_
      refine kk_ret2 ?_
    exact h _ _ hs₃ ((x₁.trans x₂).trans x₃) (by lia) (by lia)
end Mine
set_option maxHeartbeats 1000000
namespace Mine
open PySem
noncomputable def waysP (u : Bool) (F G : Nat → PyData) : List PyData → List Nat → List PyData
  | _, [] => []
  | ahead, k :: r => (if u then .tuple [sD "and", .tuple (ahead ++ [G k])] else .tuple [sD "or", .tuple (G k :: ahead)]) :: waysP u F G (ahead ++ [F k]) r
noncomputable def untP (u : Bool) (F G : Nat → PyData) (line : List Nat) : PyData := .tuple [if u then sD "or" else sD "and", .tuple (waysP u F G [] line)]
theorem p_addI {Q : V → Sto → Prop} {σ : Sto} {a b : V} {xs ys : List PyData} (ha : itemsD σ a = some (true, xs)) (hb : itemsD σ b = some (true, ys)) (hs : (small xs && small ys) = true) (h : Q (.d (.list (xs ++ ys))) σ) : Mine.W (binop .Add a b σ) Q := by
  have no : ∀ {v : V} {zs : List PyData}, itemsD σ v = some (true, zs) → intOf v = none ∧ tupOf v = none := fun {v zs} e => by
    rcases orr_inv e with e | e
    · obtain ⟨_, e1, _⟩ := ob_inv e; rw [listOf_inv e1]; exact ⟨rfl, rfl⟩
    · rcases orr_inv e with e | e
      · obtain ⟨_, _, e1⟩ := ob_inv e; cases e1
      · obtain ⟨_, e1, _⟩ := ob_inv e; rw [vSt_inv e1]; exact ⟨rfl, rfl⟩
  refine w_orr (m := bInt (· + ·) a b σ) ?_ (w_orr (m := bTup a b σ) ?_ (bLst_mk ha hb hs h))
  · unfold bInt; rw [(no ha).1]; rfl
  · unfold bTup; rw [(no ha).2]; rfl
theorem Ex.setNew {r σ σ' a o} (h : Ex r σ σ') (ha : σ.length ≤ a) : Ex r σ (σ'.set a o) := ⟨by rw [List.length_set]; exact h.1, fun i hi hl => by rw [List.getElem?_set_ne (by lia)]; exact h.2 i hi hl⟩
variable {W : Wd}
theorem Wd.ok.line (ok : W.ok) {k : Nat} (hk : k < W.many) : (W.line k).length ≤ 3 ∧ ∀ j ∈ W.line k, j < W.many := by
  have := ok.m
  have := ok.b
  unfold Wd.line
  refine ⟨by simp; lia, fun j hj => ?_⟩
  rcases List.mem_append.mp hj with h | h
  · have := List.mem_range'_1.mp h; lia
  · have := List.mem_range'_1.mp h; lia
theorem small_of {xs : List PyData} (h : xs.length < 1000) : small xs = true := small_lt h
theorem told_glob (ok : W.ok) {nd g c N} (ev : Bool) (hf : Told W nd g c N) : Told W (.tuple [if ev then sD "eventually" else sD "always", nd]) (fun k => .tuple [if ev then sD "or" else sD "and", .tuple ((W.line k).map g)]) (1 + 3 * c) (N + 40) := by
  intro n σ m k Q hN hs hk hm h
  obtain ⟨n, rfl⟩ : ∃ n', n = n' + 40 := ⟨n - 40, by lia⟩
  have hl := ok.line hk
  unfold sD at h ⊢
  cases ev
  · simp only [if_true, Bool.false_eq_true, if_false] at h ⊢
    obtain ⟨b, hb⟩ : ∃ b, b = bodyOf 278 := ⟨_, rfl⟩
    obtain ⟨s, hs⟩ : ∃ b, b = scOf 278 := ⟨_, rfl⟩
    obtain ⟨p, hp⟩ : ∃ b, b = psOf 278 := ⟨_, rfl⟩
    have hf := fn_of 278 (by kernel_rfl)
    rw [← hb, ← hs, ← hp] at hf
    conv at hb => rhs; whnf
    conv at hs => rhs; whnf
    conv at hp => rhs; whnf
    subst hb hs hp
    simp only [List.map_cons, List.map_nil] at hf
    refine w_run hf (by kernel_rfl) ?_
    clear hf
    simp only [List.zip_cons_cons, List.zip_nil_right]
    have h1 := hs.ro
    with_reducible
      refine wq_cons ?_
      refine wx_expr (by kernel_rfl!) ?_
      refine w_methv (by kernel_rfl!) (lk_at 0 (by kernel_rfl!) (by with_unfolding_all rfl)) (by kernel_rfl!) ?_
      refine kk_meth (by assumption) meth_288_spend (lk_miss (by kernel_rfl!) (lk_miss (by kernel_rfl!) (lk_miss (by kernel_rfl!) (lk_miss (by kernel_rfl!) (lk_miss (by kernel_rfl!) lk_nil))))) isfn_273 ?_
      refine ws_int1 ?_
      refine kk_meth2 ?_
    refine spend_run (c := 1) (by lia) ok hs (by lia) fun σ₁ hs₁ x₁ => ?_
    clear h1
    have h1 := hs₁.ro
    with_reducible
      refine kk_expr ?_
      refine kk_next ?_
      refine wx_asg (by kernel_rfl!) ?_
      refine wv_plain (by kernel_rfl!) ?_
      refine w_subi (lk_at 1 (by kernel_rfl!) (by with_unfolding_all rfl)) (by kernel_rfl!) ?_
      refine ⟨_, sb_tup_0, ?_⟩
      refine kk_asg ?_
      refine kk_seq_n ?_
      refine wi_eqs (lk_at 3 (by kernel_rfl!) (by with_unfolding_all rfl)) (by kernel_rfl!) (by kernel_rfl!) (by kernel_rfl!) ?_
      refine kk_skipn (by first | assumption | kernel_rfl!) ?_
      refine wx_if ?_
      refine wt_var (by kernel_rfl!) (lk_at 3 (by kernel_rfl!) (by with_unfolding_all rfl)) (by kernel_rfl!) ?_
      refine w_tuple ?_
      refine ws_str ?_
      refine ws_str ?_
      refine ws_str ?_
      refine ws_str3 ?_
      refine kk_cons2 ?_
      refine kk_tup (by with_unfolding_all rfl) (by kernel_rfl!) ?_
      refine kk_cmp2 ?_
      refine p_in_tup (by kernel_rfl!) ?_
      refine kk_skipn (by first | assumption | kernel_rfl!) ?_
      refine wx_if ?_
      refine wt_var (by kernel_rfl!) (lk_at 3 (by kernel_rfl!) (by with_unfolding_all rfl)) (by kernel_rfl!) ?_
      refine w_strs2 ?_
      refine kk_cmp2 ?_
      refine p_in_tup (by kernel_rfl!) ?_
      refine kk_skipn (by first | assumption | kernel_rfl!) ?_
      refine wx_if ?_
      refine wt_var (by kernel_rfl!) (lk_at 3 (by kernel_rfl!) (by with_unfolding_all rfl)) (by kernel_rfl!) ?_
      refine w_strs2 ?_
      refine kk_cmp2 ?_
      refine p_in_tup (by kernel_rfl!) ?_
      refine kk_ifx_t (by first | assumption | kernel_rfl!) ?_
      refine wq_ret ?_
      refine w_tuple ?_
      refine ws_cons (by kernel_rfl!) ?_
      refine w_if ?_
      refine wt_eqs (lk_at 3 (by kernel_rfl!) (by with_unfolding_all rfl)) (by kernel_rfl!) (by kernel_rfl!) (by kernel_rfl!) ?_
      refine kk_if_t (by first | assumption | kernel_rfl!) ?_
      refine w_str ?_
      refine kk_more (by kernel_rfl!) ?_
      refine w_glb (by kernel_rfl!) glob_tuple (by kernel_rfl!) ?_
      refine ws_cons (by kernel_rfl!) ?_
      refine w_comp (by kernel_rfl!) ?_
      refine w_methv (by kernel_rfl!) (lk_at 0 (by kernel_rfl!) (by with_unfolding_all rfl)) (by kernel_rfl!) ?_
      refine kk_meth (by assumption) meth_288_line_from (lk_miss (by kernel_rfl!) (lk_miss (by kernel_rfl!) (lk_miss (by kernel_rfl!) (lk_miss (by kernel_rfl!) (lk_miss (by kernel_rfl!) lk_nil))))) isfn_266 ?_
      refine ws_var1 (lk_at 2 (by kernel_rfl!) (by with_unfolding_all rfl)) (by kernel_rfl!) ?_
      refine kk_meth2 ?_
    dsimp only
    refine line_run (by lia) ok hs₁ hk ?_
    refine wc_oneI (xs := (W.line k).map fun j : Nat => V.d (.int j)) (by kernel_rfl!) (fun r σ' acc => ∃ done rest m', W.line k = done ++ rest ∧ r = rest.map (fun j : Nat => V.d (.int j)) ∧ acc = done.map g ∧ St W σ' m' ∧ Ex W.ro σ₁ σ' ∧ m + 1 ≤ m' ∧ m' ≤ m + 1 + done.length * c) ?_ ?_ ?_ ?_ ?_
    · intro r σ' acc i _
      have := walks_list (ds := (W.line k).map fun j : Nat => PyData.int j) i σ'
      rw [this, List.map_map]
      rfl
    · rw [List.length_map]; lia
    · exact ⟨[], W.line k, m + 1, rfl, rfl, rfl, hs₁, .refl, by lia, by lia⟩
    · rintro y r σ' acc ⟨done, rest, m', e1, e2, e3, hs', x', l1, l2⟩
      cases rest with
      | nil => cases e2
      | cons j rest =>
        cases e2
        subst e3
        have hd : done.length + 1 ≤ 3 := by have := hl.1; rw [e1, List.length_append, List.length_cons] at this; lia
        have hj : j < W.many := hl.2 j (by rw [e1]; exact List.mem_append_right _ (.head _))
        have hc : (done.length + 1) * c = done.length * c + c := Nat.succ_mul _ _
        have hc' : (done.length + 1) * c ≤ 3 * c := Nat.mul_le_mul_right _ hd
        clear h1
        have h1 := hs'.ro
        with_reducible
          refine wc_turn ?_
          refine wa_nil ?_
          refine kk_turn_t (by kernel_rfl!) ?_
          refine w_methv (by kernel_rfl!) (lk_at 0 (by kernel_rfl!) (by with_unfolding_all rfl)) (by kernel_rfl!) ?_
          refine kk_meth (by assumption) meth_288_told (lk_miss (by kernel_rfl!) (lk_miss (by kernel_rfl!) (lk_miss (by kernel_rfl!) (lk_miss (by kernel_rfl!) (lk_miss (by kernel_rfl!) lk_nil))))) isfn_278 ?_
          refine ws_cons (by kernel_rfl!) ?_
          refine w_subi (lk_at 1 (by kernel_rfl!) (by with_unfolding_all rfl)) (by kernel_rfl!) ?_
          refine ⟨_, sb_tup_1, ?_⟩
          refine kk_cons ?_
          refine ws_var2 (lk_at 2 (by kernel_rfl!) (by with_unfolding_all rfl)) (by kernel_rfl!) ?_
          refine kk_meth2 ?_
        dsimp only
        refine hf _ _ _ _ _ (by lia) hs' hj (by lia) fun σ₂ m₂ hs₂ x₂ l₁ l₂ => ?_
        refine ⟨_, rfl, small_of (by rw [List.length_map]; lia), done ++ [j], rest, m₂, by rw [e1, List.append_assoc]; rfl, rfl, by rw [List.map_append]; rfl, hs₂, x'.trans x₂, by lia, by rw [List.length_append, List.length_singleton]; lia⟩
    · rintro σ' acc ⟨done, rest, m', e1, e2, e3, hs', x', l1, l2⟩
      cases rest with
      | cons j rest => cases e2
      | nil =>
        rw [List.append_nil] at e1
        subst e3
        have hc' : done.length * c ≤ 3 * c := Nat.mul_le_mul_right _ (by rw [← e1]; exact hl.1)
        have hz : small (done.map g) = true := small_of (by rw [List.length_map, ← e1]; lia)
        with_reducible
          refine kk_li ?_
          refine kk_end1 ?_
          refine kk_call2 ?_
          refine cv_type ?_
          refine b_tuple_l (by first | assumption | kernel_rfl!) ?_
          refine kk_end2 ?_
          refine kk_tup (by with_unfolding_all rfl) (by kernel_rfl!) ?_
          refine kk_ret2 ?_
        rw [← e1]
        exact h _ _ hs' (x₁.trans x') (by lia) (by lia)
  · simp only [if_true, Bool.false_eq_true, if_false] at h ⊢
    obtain ⟨b, hb⟩ : ∃ b, b = bodyOf 278 := ⟨_, rfl⟩
    obtain ⟨s, hs⟩ : ∃ b, b = scOf 278 := ⟨_, rfl⟩
    obtain ⟨p, hp⟩ : ∃ b, b = psOf 278 := ⟨_, rfl⟩
    have hf := fn_of 278 (by kernel_rfl)
    rw [← hb, ← hs, ← hp] at hf
    conv at hb => rhs; whnf
    conv at hs => rhs; whnf
    conv at hp => rhs; whnf
    subst hb hs hp
    simp only [List.map_cons, List.map_nil] at hf
    refine w_run hf (by kernel_rfl) ?_
    clear hf
    simp only [List.zip_cons_cons, List.zip_nil_right]
    have h1 := hs.ro
    with_reducible
      refine wq_cons ?_
      refine wx_expr (by kernel_rfl!) ?_
      refine w_methv (by kernel_rfl!) (lk_at 0 (by kernel_rfl!) (by with_unfolding_all rfl)) (by kernel_rfl!) ?_
      refine kk_meth (by assumption) meth_288_spend (lk_miss (by kernel_rfl!) (lk_miss (by kernel_rfl!) (lk_miss (by kernel_rfl!) (lk_miss (by kernel_rfl!) (lk_miss (by kernel_rfl!) lk_nil))))) isfn_273 ?_
      refine ws_int1 ?_
      refine kk_meth2 ?_
    refine spend_run (c := 1) (by lia) ok hs (by lia) fun σ₁ hs₁ x₁ => ?_
    clear h1
    have h1 := hs₁.ro
    with_reducible
      refine kk_expr ?_
      refine kk_next ?_
      refine wx_asg (by kernel_rfl!) ?_
      refine wv_plain (by kernel_rfl!) ?_
      refine w_subi (lk_at 1 (by kernel_rfl!) (by with_unfolding_all rfl)) (by kernel_rfl!) ?_
      refine ⟨_, sb_tup_0, ?_⟩
      refine kk_asg ?_
      refine kk_seq_n ?_
      refine wi_eqs (lk_at 3 (by kernel_rfl!) (by with_unfolding_all rfl)) (by kernel_rfl!) (by kernel_rfl!) (by kernel_rfl!) ?_
      refine kk_skipn (by first | assumption | kernel_rfl!) ?_
      refine wx_if ?_
      refine wt_var (by kernel_rfl!) (lk_at 3 (by kernel_rfl!) (by with_unfolding_all rfl)) (by kernel_rfl!) ?_
      refine w_tuple ?_
      refine ws_str ?_
      refine ws_str ?_
      refine ws_str ?_
      refine ws_str3 ?_
      refine kk_cons2 ?_
      refine kk_tup (by with_unfolding_all rfl) (by kernel_rfl!) ?_
      refine kk_cmp2 ?_
      refine p_in_tup (by kernel_rfl!) ?_
      refine kk_skipn (by first | assumption | kernel_rfl!) ?_
      refine wx_if ?_
      refine wt_var (by kernel_rfl!) (lk_at 3 (by kernel_rfl!) (by with_unfolding_all rfl)) (by kernel_rfl!) ?_
      refine w_strs2 ?_
      refine kk_cmp2 ?_
      refine p_in_tup (by kernel_rfl!) ?_
      refine kk_skipn (by first | assumption | kernel_rfl!) ?_
      refine wx_if ?_
      refine wt_var (by kernel_rfl!) (lk_at 3 (by kernel_rfl!) (by with_unfolding_all rfl)) (by kernel_rfl!) ?_
      refine w_strs2 ?_
      refine kk_cmp2 ?_
      refine p_in_tup (by kernel_rfl!) ?_
      refine kk_ifx_t (by first | assumption | kernel_rfl!) ?_
      refine wq_ret ?_
      refine w_tuple ?_
      refine ws_cons (by kernel_rfl!) ?_
      refine w_if ?_
      refine wt_eqs (lk_at 3 (by kernel_rfl!) (by with_unfolding_all rfl)) (by kernel_rfl!) (by kernel_rfl!) (by kernel_rfl!) ?_
      refine kk_if_f (by first | assumption | kernel_rfl!) ?_
      refine w_str ?_
      refine kk_more (by kernel_rfl!) ?_
      refine w_glb (by kernel_rfl!) glob_tuple (by kernel_rfl!) ?_
      refine ws_cons (by kernel_rfl!) ?_
      refine w_comp (by kernel_rfl!) ?_
      refine w_methv (by kernel_rfl!) (lk_at 0 (by kernel_rfl!) (by with_unfolding_all rfl)) (by kernel_rfl!) ?_
      refine kk_meth (by assumption) meth_288_line_from (lk_miss (by kernel_rfl!) (lk_miss (by kernel_rfl!) (lk_miss (by kernel_rfl!) (lk_miss (by kernel_rfl!) (lk_miss (by kernel_rfl!) lk_nil))))) isfn_266 ?_
      refine ws_var1 (lk_at 2 (by kernel_rfl!) (by with_unfolding_all rfl)) (by kernel_rfl!) ?_
      refine kk_meth2 ?_
    dsimp only
    refine line_run (by lia) ok hs₁ hk ?_
    refine wc_oneI (xs := (W.line k).map fun j : Nat => V.d (.int j)) (by kernel_rfl!) (fun r σ' acc => ∃ done rest m', W.line k = done ++ rest ∧ r = rest.map (fun j : Nat => V.d (.int j)) ∧ acc = done.map g ∧ St W σ' m' ∧ Ex W.ro σ₁ σ' ∧ m + 1 ≤ m' ∧ m' ≤ m + 1 + done.length * c) ?_ ?_ ?_ ?_ ?_
    · intro r σ' acc i _
      have := walks_list (ds := (W.line k).map fun j : Nat => PyData.int j) i σ'
      rw [this, List.map_map]
      rfl
    · rw [List.length_map]; lia
    · exact ⟨[], W.line k, m + 1, rfl, rfl, rfl, hs₁, .refl, by lia, by lia⟩
    · rintro y r σ' acc ⟨done, rest, m', e1, e2, e3, hs', x', l1, l2⟩
      cases rest with
      | nil => cases e2
      | cons j rest =>
        cases e2
        subst e3
        have hd : done.length + 1 ≤ 3 := by have := hl.1; rw [e1, List.length_append, List.length_cons] at this; lia
        have hj : j < W.many := hl.2 j (by rw [e1]; exact List.mem_append_right _ (.head _))
        have hc : (done.length + 1) * c = done.length * c + c := Nat.succ_mul _ _
        have hc' : (done.length + 1) * c ≤ 3 * c := Nat.mul_le_mul_right _ hd
        clear h1
        have h1 := hs'.ro
        with_reducible
          refine wc_turn ?_
          refine wa_nil ?_
          refine kk_turn_t (by kernel_rfl!) ?_
          refine w_methv (by kernel_rfl!) (lk_at 0 (by kernel_rfl!) (by with_unfolding_all rfl)) (by kernel_rfl!) ?_
          refine kk_meth (by assumption) meth_288_told (lk_miss (by kernel_rfl!) (lk_miss (by kernel_rfl!) (lk_miss (by kernel_rfl!) (lk_miss (by kernel_rfl!) (lk_miss (by kernel_rfl!) lk_nil))))) isfn_278 ?_
          refine ws_cons (by kernel_rfl!) ?_
          refine w_subi (lk_at 1 (by kernel_rfl!) (by with_unfolding_all rfl)) (by kernel_rfl!) ?_
          refine ⟨_, sb_tup_1, ?_⟩
          refine kk_cons ?_
          refine ws_var2 (lk_at 2 (by kernel_rfl!) (by with_unfolding_all rfl)) (by kernel_rfl!) ?_
          refine kk_meth2 ?_
        dsimp only
        refine hf _ _ _ _ _ (by lia) hs' hj (by lia) fun σ₂ m₂ hs₂ x₂ l₁ l₂ => ?_
        refine ⟨_, rfl, small_of (by rw [List.length_map]; lia), done ++ [j], rest, m₂, by rw [e1, List.append_assoc]; rfl, rfl, by rw [List.map_append]; rfl, hs₂, x'.trans x₂, by lia, by rw [List.length_append, List.length_singleton]; lia⟩
    · rintro σ' acc ⟨done, rest, m', e1, e2, e3, hs', x', l1, l2⟩
      cases rest with
      | cons j rest => cases e2
      | nil =>
        rw [List.append_nil] at e1
        subst e3
        have hc' : done.length * c ≤ 3 * c := Nat.mul_le_mul_right _ (by rw [← e1]; exact hl.1)
        have hz : small (done.map g) = true := small_of (by rw [List.length_map, ← e1]; lia)
        with_reducible
          refine kk_li ?_
          refine kk_end1 ?_
          refine kk_call2 ?_
          refine cv_type ?_
          refine b_tuple_l (by first | assumption | kernel_rfl!) ?_
          refine kk_end2 ?_
          refine kk_tup (by with_unfolding_all rfl) (by kernel_rfl!) ?_
          refine kk_ret2 ?_
        rw [← e1]
        exact h _ _ hs' (x₁.trans x') (by lia) (by lia)
theorem waysP_snoc {u F G} : ∀ (ahead : List PyData) (k : Nat) (r : List Nat), waysP u F G ahead (k :: r) = (if u then .tuple [sD "and", .tuple (ahead ++ [G k])] else .tuple [sD "or", .tuple (G k :: ahead)]) :: waysP u F G (ahead ++ [F k]) r := fun _ _ _ => rfl
theorem set_at {σ σ' : Sto} {i o o'} (e : σ.set i o' = σ') (h : σ[i]? = some o) : σ'[i]? = some o' := by subst e; exact getElem?_set_self' h
theorem datas_map (ws : List PyData) : datas (ws.map V.d) = some ws := by
  induction ws with
  | nil => rfl
  | cons w r ih => exact ob_mk (m := datas (r.map V.d)) (f := fun r => some (w :: r)) ih rfl
noncomputable def AV (b : Nat) (σ : Sto) (av : V) (done : List Nat) (F : Nat → PyData) : Prop := av = .d (.list (done.map F)) ∨ (av = .st b ∧ σ[b]? = some (.lst []) ∧ done = [])
theorem AV.items {b σ av done F} (h : AV b σ av done F) : itemsD σ av = some (true, done.map F) := by
  rcases h with rfl | ⟨rfl, h, rfl⟩
  · rfl
  · exact items_st h rfl
theorem AV.ex {b σ av done F σ' r} (h : AV b σ av done F) (x : Ex r σ σ') (hb : b ≠ r) : AV b σ' av done F := by
  rcases h with rfl | ⟨rfl, h, rfl⟩
  · exact .inl rfl
  · exact .inr ⟨rfl, x.at hb h, rfl⟩
noncomputable def TUI (W : Wd) (u : Bool) (F G : Nat → PyData) (nf ng : PyData) (cf t m : Nat) (σ₀ : Sto) (xs : List Nat) (a b : Nat) (r : List V) (fr : Vars) (σ : Sto) : Prop :=
  ∃ (done rest : List Nat) (ws : List PyData) (m' c : Nat) (av : V), xs = done ++ rest ∧ r = rest.map (fun j : Nat => V.d (.int j)) ∧ St W σ m' ∧ Ex W.ro σ₀ σ ∧ m ≤ m' ∧ m' ≤ m + done.length * t ∧ c ≤ done.length * cf ∧
    σ[a]? = some (.lst (ws.map .d)) ∧ ws.length = done.length ∧ ws ++ waysP u F G (done.map F) rest = waysP u F G [] xs ∧ AV b σ av done F ∧
    fr.lookup (Str.ofString "self") = some (.st W.ro) ∧ fr.lookup (Str.ofString "op") = some (.d (if u then sD "until" else sD "releases")) ∧ fr.lookup (Str.ofString "f") = some (.d nf) ∧ fr.lookup (Str.ofString "g") = some (.d ng) ∧
    fr.lookup (Str.ofString "ways") = some (.st a) ∧ fr.lookup (Str.ofString "ahead_now") = some av ∧ fr.lookup (Str.ofString "copied") = some (.d (.int c))
theorem tu_run (ok : W.ok) (u : Bool) {nf F cf Nf ng G cg Ng} (hf : Told W nf F cf Nf) (hg : Told W ng G cg Ng) {N : Nat} (hN : max Nf Ng + 40 ≤ N) {xs : List Nat} (hx : ∀ j ∈ xs, j < W.many) (hl : xs.length ≤ 5) {σ : Sto} {line : V}
    (hline : ∀ σ', Ex W.ro σ σ' → ∀ i : Nat, itemAt σ' line i = some ((xs.map fun j : Nat => V.d (.int j))[i]?)) {m : Nat} (hs : St W σ m) (hm : m + xs.length * (cg + xs.length * cf) ≤ 200000) {Q : V → Sto → Prop}
    (h : ∀ σ' m', St W σ' m' → Ex W.ro σ σ' → m ≤ m' → m' ≤ m + xs.length * (cg + xs.length * cf) → Q (.d (untP u F G xs)) σ') : Mine.W (lvC theTab N 285 [.st W.ro, .d (if u then sD "until" else sD "releases"), .d nf, .d ng, line] σ) Q := by
  obtain ⟨n, rfl⟩ : ∃ n', N = n' + 40 := ⟨N - 40, by lia⟩
  obtain ⟨t, ht⟩ : ∃ t, t = cg + xs.length * cf := ⟨_, rfl⟩
  rw [← ht] at hm h
  have hro : W.ro < σ.length := (List.getElem?_eq_some_iff.mp hs.ro).1
  have hpl : W.pl < σ.length := (List.getElem?_eq_some_iff.mp hs.pl).1
  unfold untP sD at h
  unfold sD
  obtain ⟨u', hu⟩ : ∃ u', u' = u := ⟨u, rfl⟩
  have hu2 : waysP u = @waysP u' := by rw [hu]
  rw [hu2] at h
  cases u
  · simp only [if_true, Bool.false_eq_true, if_false] at h ⊢
    obtain ⟨b, hb⟩ : ∃ b, b = bodyOf 285 := ⟨_, rfl⟩
    obtain ⟨s, hs⟩ : ∃ b, b = scOf 285 := ⟨_, rfl⟩
    obtain ⟨p, hp⟩ : ∃ b, b = psOf 285 := ⟨_, rfl⟩
    have hf := fn_of 285 (by kernel_rfl)
    rw [← hb, ← hs, ← hp] at hf
    conv at hb => rhs; whnf
    conv at hs => rhs; whnf
    conv at hp => rhs; whnf
    subst hb hs hp
    simp only [List.map_cons, List.map_nil] at hf
    refine w_run hf (by kernel_rfl) ?_
    clear hf
    simp only [List.zip_cons_cons, List.zip_nil_right]
    refine wq_cons ?_
    refine wx_asgTt (by kernel_rfl!) (by kernel_rfl!) ?_
    with_reducible
      refine ws_cons (by kernel_rfl!) ?_
      refine w_nil ?_
      refine kk_more (by kernel_rfl!) ?_
      refine w_nil ?_
      refine kk_more (by kernel_rfl!) ?_
      refine w_int ?_
      refine kk_end3 ?_
    refine ⟨_, rfl, ?_⟩
    with_reducible
      refine kk_next ?_
    refine wx_forI (by kernel_rfl!) ?_
    with_reducible
      refine w_var (lk_at 4 (by kernel_rfl!) (by with_unfolding_all rfl)) (by kernel_rfl!) ?_
    dsimp only
    refine ⟨xs.map fun j : Nat => V.d (.int j), TUI W u' F G nf ng cf t m σ xs σ.length (σ.length + 1), ?_, ?_, ?_, ?_, ?_⟩
    · rintro r fr σ' i ⟨done, rest, ws, m', c, av, e1, e2, hs', x', l⟩
      exact hline σ' x' i
    · rw [List.length_map]; lia
    · refine ⟨[], xs, [], m, 0, .st (σ.length + 1), rfl, rfl, hs.push.push, Ex.push.trans Ex.push, by lia, by lia, by lia, ?_, rfl, rfl, .inr ⟨rfl, ?_, rfl⟩, ?_, ?_, ?_, ?_, ?_, ?_, ?_⟩
      · simp
      · simp
      all_goals (simp only [hu, lookup_putV', List.lookup_cons, List.lookup_nil, ofString_beq, String.reduceBEq, beq_self_eq_true, if_true, if_false, Bool.false_eq_true, reduceIte, sD])
      all_goals first | rfl | (rw [List.length_append]; rfl)
    · rintro y r fr σ' ⟨done, rest, ws, m', c, av, e1, e2, hs', x', l1, l2, l3, ha, hw, ew, hav, v1, v2, v3, v4, v5, v6, v7⟩
      rw [hu] at v2
      simp only [if_true, Bool.false_eq_true, if_false, sD] at v2
      cases rest with
      | nil => cases e2
      | cons j rest =>
        cases e2
        have hd : done.length + 1 ≤ xs.length := by rw [e1, List.length_append, List.length_cons]; lia
        have hj : j < W.many := hx j (by rw [e1]; exact List.mem_append_right _ (.head _))
        have c1 : (done.length + 1) * t = done.length * t + t := Nat.succ_mul _ _
        have c2 : (done.length + 1) * t ≤ xs.length * t := Nat.mul_le_mul_right _ hd
        have c3 : (done.length + 1) * cf = done.length * cf + cf := Nat.succ_mul _ _
        have c4 : (done.length + 1) * cf ≤ xs.length * cf := Nat.mul_le_mul_right _ hd
        have z1 : small (done.map F ++ [G j]) = true := small_of (by rw [List.length_append, List.length_map, List.length_singleton]; lia)
        have z2 : small ([G j] ++ done.map F) = true := small_of (by rw [List.length_append, List.length_map, List.length_singleton]; lia)
        have z3 : (small (done.map F) && small [F j]) = true := by rw [small_of (by rw [List.length_map]; lia)]; rfl
        have z4 : (small (done.map F) && small [G j]) = true := by rw [small_of (by rw [List.length_map]; lia)]; rfl
        have z5 : (small [G j] && small (done.map F)) = true := by rw [small_of (xs := done.map F) (by rw [List.length_map]; lia)]; rfl
        have h1 := hs'.ro
        with_reducible
          refine wq_cons ?_
          refine wx_asg (by kernel_rfl!) ?_
          refine wv_plain (by kernel_rfl!) ?_
          refine w_methv (by kernel_rfl!) (lk_past (by kernel_rfl!) (by assumption)) (by kernel_rfl!) ?_
          refine kk_meth (by assumption) meth_288_told (lk_miss (by kernel_rfl!) (lk_miss (by kernel_rfl!) (lk_miss (by kernel_rfl!) (lk_miss (by kernel_rfl!) (lk_miss (by kernel_rfl!) lk_nil))))) isfn_278 ?_
          refine ws_var (lk_past (by kernel_rfl!) (by assumption)) (by kernel_rfl!) ?_
          refine ws_var2 lk_put (by kernel_rfl!) ?_
          refine kk_meth2 ?_
        dsimp only
        refine hg _ _ _ _ _ (by lia) hs' hj (by lia) fun σ₁ m₁ hs₁ x₁ p₁ q₁ => ?_
        clear h1
        have h1 := hs₁.ro
        with_reducible
          refine kk_asg ?_
          refine kk_next ?_
          refine wx_expr (by kernel_rfl!) ?_
          refine w_methv (by kernel_rfl!) (lk_past (by kernel_rfl!) (lk_past (by kernel_rfl!) (by assumption))) (by kernel_rfl!) ?_
          refine kk_meth (by assumption) meth_288_spend (lk_miss (by kernel_rfl!) (lk_miss (by kernel_rfl!) (lk_miss (by kernel_rfl!) (lk_miss (by kernel_rfl!) (lk_miss (by kernel_rfl!) lk_nil))))) isfn_273 ?_
          refine ws_var1 (lk_past (by kernel_rfl!) (lk_past (by kernel_rfl!) (by assumption))) (by kernel_rfl!) ?_
          refine kk_meth2 ?_
        refine spend_run (c := c) (by lia) ok hs₁ (by lia) fun σ₂ hs₂ x₂ => ?_
        clear h1
        have h1 := hs₂.ro
        have ha₂ := x₂.at (by lia) (x₁.at (by lia) ha)
        have hav₂ := (hav.ex x₁ (by lia)).ex x₂ (by lia)
        have i₂ := hav₂.items
        with_reducible
          refine kk_expr ?_
          refine kk_next ?_
          refine wx_asg (by kernel_rfl!) ?_
          refine wv_plain (by kernel_rfl!) ?_
          refine w_attrv (lk_past (by kernel_rfl!) (lk_past (by kernel_rfl!) (by assumption))) (by kernel_rfl!) ?_
          refine kk_attr (ga (by assumption) attr_288_many (lk_at 2 (by kernel_rfl!) (by with_unfolding_all rfl)) (by with_unfolding_all rfl)) ?_
          refine kk_asg ?_
          refine kk_next ?_
          refine wx_expr (by kernel_rfl!) ?_
          refine w_append (by kernel_rfl!) (by kernel_rfl!) ?_
          refine w_var (lk_past (by kernel_rfl!) (lk_past (by kernel_rfl!) (lk_past (by kernel_rfl!) (by assumption)))) (by kernel_rfl!) ?_
          refine kk_app (by assumption) ?_
          refine ws_cons (by kernel_rfl!) ?_
          refine w_if ?_
          refine wt_eqs (lk_past (by kernel_rfl!) (lk_past (by kernel_rfl!) (lk_past (by kernel_rfl!) (by assumption)))) (by kernel_rfl!) (by kernel_rfl!) (by kernel_rfl!) ?_
          refine kk_if_f (by first | assumption | kernel_rfl!) ?_
          refine w_tuple ?_
          refine ws_str ?_
          refine ws_cons (by kernel_rfl!) ?_
          refine w_glb (by kernel_rfl!) glob_tuple (by kernel_rfl!) ?_
          refine ws_cons (by kernel_rfl!) ?_
          refine w_bin ?_
          refine w_list ?_
          refine ws_var1 (lk_past (by kernel_rfl!) lk_put) (by kernel_rfl!) ?_
          refine kk_lst (by with_unfolding_all rfl) (by kernel_rfl!) ?_
          refine kk_bin ?_
          refine w_var (lk_past (by kernel_rfl!) (lk_past (by kernel_rfl!) (lk_past (by kernel_rfl!) (by assumption)))) (by kernel_rfl!) ?_
          refine kk_bin2 ?_
        dsimp only
        first | refine p_addI i₂ rfl z4 ?_ | refine p_addI rfl i₂ z5 ?_
        with_reducible
          refine kk_end1 ?_
          refine kk_call2 ?_
          refine cv_type ?_
          refine b_tuple_l (by first | assumption | kernel_rfl!) ?_
          refine kk_end2 ?_
          refine kk_tup (by with_unfolding_all rfl) (by kernel_rfl!) ?_
          refine kk_end1 ?_
          refine kk_app2 (by assumption) ?_
        refine ⟨Nat.ble_eq_true_of_le (by rw [List.length_map]; lia), ?_⟩
        generalize hσ₃ : List.set σ₂ σ.length _ = σ₃
        have ha₃ := set_at hσ₃ ha₂
        have x₃ : Ex W.ro σ σ₃ := by rw [← hσ₃]; exact ((x'.trans x₁).trans x₂).setNew (Nat.le_refl _)
        have hs₃ := hs₂.ex (i := σ.length) (by lia) (by lia) hσ₃.symm
        have hav₃ : AV (σ.length + 1) σ₃ av done F := by rw [← hσ₃]; exact hav₂.ex (Ex.set (r := σ.length)) (by lia)
        clear h1
        have h1 := hs₃.ro
        with_reducible
          refine kk_expr ?_
          refine kk_next ?_
          refine wx_asg (by kernel_rfl!) ?_
          refine wv_plain (by kernel_rfl!) ?_
          refine w_bin ?_
          refine w_var (lk_past (by kernel_rfl!) (lk_past (by kernel_rfl!) (lk_past (by kernel_rfl!) (by assumption)))) (by kernel_rfl!) ?_
          refine kk_bin ?_
          refine w_list ?_
          refine ws_cons (by kernel_rfl!) ?_
          refine w_methv (by kernel_rfl!) (lk_past (by kernel_rfl!) (lk_past (by kernel_rfl!) (lk_past (by kernel_rfl!) (by assumption)))) (by kernel_rfl!) ?_
          refine kk_meth (by assumption) meth_288_told (lk_miss (by kernel_rfl!) (lk_miss (by kernel_rfl!) (lk_miss (by kernel_rfl!) (lk_miss (by kernel_rfl!) (lk_miss (by kernel_rfl!) lk_nil))))) isfn_278 ?_
          refine ws_var (lk_past (by kernel_rfl!) (lk_past (by kernel_rfl!) (lk_past (by kernel_rfl!) (by assumption)))) (by kernel_rfl!) ?_
          refine ws_var2 (lk_past (by kernel_rfl!) (lk_past (by kernel_rfl!) lk_put)) (by kernel_rfl!) ?_
          refine kk_meth2 ?_
        refine hf _ _ _ _ _ (by lia) hs₃ hj (by lia) fun σ₄ m₄ hs₄ x₄ p₄ q₄ => ?_
        clear h1
        have h1 := hs₄.ro
        have hav₄ := hav₃.ex x₄ (by lia)
        have i₄ := hav₄.items
        have ha₄ := x₄.at (by lia) ha₃
        with_reducible
          refine kk_end1 ?_
          refine kk_lst (by with_unfolding_all rfl) (by kernel_rfl!) ?_
          refine kk_bin2 ?_
        refine p_addI i₄ rfl z3 ?_
        with_reducible
          refine kk_asg ?_
          refine kk_next ?_
          refine wx_asg (by kernel_rfl!) ?_
          refine wv_plain (by kernel_rfl!) ?_
          refine w_bin ?_
          refine w_bin ?_
          refine w_var (lk_past (by kernel_rfl!) (lk_past (by kernel_rfl!) (lk_past (by kernel_rfl!) (lk_past (by kernel_rfl!) (by assumption))))) (by kernel_rfl!) ?_
          refine kk_bin ?_
          refine w_attrv (lk_past (by kernel_rfl!) (lk_past (by kernel_rfl!) (lk_past (by kernel_rfl!) (lk_past (by kernel_rfl!) (by assumption))))) (by kernel_rfl!) ?_
          refine kk_attr (ga (by assumption) attr_288_many (lk_at 2 (by kernel_rfl!) (by with_unfolding_all rfl)) (by with_unfolding_all rfl)) ?_
          refine kk_bin2 ?_
          refine p_add ?_
          refine kk_bin ?_
          refine w_var (lk_past (by kernel_rfl!) lk_put) (by kernel_rfl!) ?_
          refine kk_bin2 ?_
          refine p_sub ?_
          refine kk_asg ?_
          refine kk_seq_n ?_
          refine wq_nil ?_
        dsimp only
        have fin : ∀ way, σ₄[σ.length]? = some (.lst (ws.map V.d ++ [V.d way])) → waysP u' F G (done.map F) (j :: rest) = way :: waysP u' F G (done.map F ++ [F j]) rest → TUI W u' F G nf ng cf t m σ xs σ.length (σ.length + 1) (rest.map fun j : Nat => V.d (.int j)) (putV (putV (putV (putV (putV fr (Str.ofString "k") (V.d (.int j))) (Str.ofString "here") (V.d (G j))) (Str.ofString "before") (V.d (.int ((m₁ + c : Nat) : Int)))) (Str.ofString "ahead_now") (V.d (.list (done.map F ++ [F j])))) (Str.ofString "copied") (V.d (.int ((c : Int) + (m₄ : Int) - ((m₁ + c : Nat) : Int))))) σ₄ := by
          intro way ha₄ hwy
          have ec : ((c : Int) + (m₄ : Int) - ((m₁ + c : Nat) : Int)) = ((c + (m₄ - (m₁ + c)) : Nat) : Int) := by lia
          rw [ec]
          refine ⟨done ++ [j], rest, ws ++ [way], m₄, c + (m₄ - (m₁ + c)), .d (.list (done.map F ++ [F j])), by rw [e1, List.append_assoc]; rfl, rfl, hs₄, x₃.trans x₄, by lia, ?_, ?_, by rw [List.map_append]; exact ha₄, by rw [List.length_append, List.length_append, hw]; rfl, ?_, .inl (by rw [List.map_append]; rfl), ?_, ?_, ?_, ?_, ?_, ?_, ?_⟩
          · rw [List.length_append, List.length_singleton, c1]; lia
          · rw [List.length_append, List.length_singleton, c3]; lia
          · rw [List.append_assoc, List.map_append, ← ew, hwy]; rfl
          all_goals (simp only [lookup_putV', ofString_beq, String.reduceBEq, beq_self_eq_true, if_true, if_false, Bool.false_eq_true])
          all_goals first | assumption | (rw [hu]; exact v2)
        exact fin _ ha₄ (by rw [waysP_snoc, hu]; rfl)
    · rintro fr σ' ⟨done, rest, ws, m', c, av, e1, e2, hs', x', l1, l2, l3, ha, hw, ew, hav, v1, v2, v3, v4, v5, v6, v7⟩
      cases rest with
      | cons j rest => cases e2
      | nil =>
        rw [List.append_nil] at e1
        rw [hu] at v2
        simp only [if_true, Bool.false_eq_true, if_false, sD] at v2
        rw [← e1] at l2
        have ew : ws = waysP u' F G [] xs := by rw [← ew]; exact (List.append_nil _).symm
        have hz : small ws = true := small_of (by rw [hw, ← e1]; lia)
        with_reducible
          refine kk_seq_n ?_
          refine wq_ret ?_
          refine w_tuple ?_
          refine ws_cons (by kernel_rfl!) ?_
          refine w_if ?_
          refine wt_eqs (by assumption) (by kernel_rfl!) (by kernel_rfl!) (by kernel_rfl!) ?_
          refine kk_if_f (by first | assumption | kernel_rfl!) ?_
          refine w_str ?_
          refine kk_more (by kernel_rfl!) ?_
          refine w_glb (by kernel_rfl!) glob_tuple (by kernel_rfl!) ?_
          refine ws_var1 (by assumption) (by kernel_rfl!) ?_
          refine kk_call2 ?_
          refine cv_type ?_
        refine b_tuple_s ha (datas_map ws) hz ?_
        with_reducible
          refine kk_end2 ?_
          refine kk_tup (by with_unfolding_all rfl) (by kernel_rfl!) ?_
          refine kk_ret1 ?_
        rw [ew]
        exact h _ _ hs' x' l1 l2
  · simp only [if_true, Bool.false_eq_true, if_false] at h ⊢
    obtain ⟨b, hb⟩ : ∃ b, b = bodyOf 285 := ⟨_, rfl⟩
    obtain ⟨s, hs⟩ : ∃ b, b = scOf 285 := ⟨_, rfl⟩
    obtain ⟨p, hp⟩ : ∃ b, b = psOf 285 := ⟨_, rfl⟩
    have hf := fn_of 285 (by kernel_rfl)
    rw [← hb, ← hs, ← hp] at hf
    conv at hb => rhs; whnf
    conv at hs => rhs; whnf
    conv at hp => rhs; whnf
    subst hb hs hp
    simp only [List.map_cons, List.map_nil] at hf
    refine w_run hf (by kernel_rfl) ?_
    clear hf
    simp only [List.zip_cons_cons, List.zip_nil_right]
    refine wq_cons ?_
    refine wx_asgTt (by kernel_rfl!) (by kernel_rfl!) ?_
    with_reducible
      refine ws_cons (by kernel_rfl!) ?_
      refine w_nil ?_
      refine kk_more (by kernel_rfl!) ?_
      refine w_nil ?_
      refine kk_more (by kernel_rfl!) ?_
      refine w_int ?_
      refine kk_end3 ?_
    refine ⟨_, rfl, ?_⟩
    with_reducible
      refine kk_next ?_
    refine wx_forI (by kernel_rfl!) ?_
    with_reducible
      refine w_var (lk_at 4 (by kernel_rfl!) (by with_unfolding_all rfl)) (by kernel_rfl!) ?_
    dsimp only
    refine ⟨xs.map fun j : Nat => V.d (.int j), TUI W u' F G nf ng cf t m σ xs σ.length (σ.length + 1), ?_, ?_, ?_, ?_, ?_⟩
    · rintro r fr σ' i ⟨done, rest, ws, m', c, av, e1, e2, hs', x', l⟩
      exact hline σ' x' i
    · rw [List.length_map]; lia
    · refine ⟨[], xs, [], m, 0, .st (σ.length + 1), rfl, rfl, hs.push.push, Ex.push.trans Ex.push, by lia, by lia, by lia, ?_, rfl, rfl, .inr ⟨rfl, ?_, rfl⟩, ?_, ?_, ?_, ?_, ?_, ?_, ?_⟩
      · simp
      · simp
      all_goals (simp only [hu, lookup_putV', List.lookup_cons, List.lookup_nil, ofString_beq, String.reduceBEq, beq_self_eq_true, if_true, if_false, Bool.false_eq_true, reduceIte, sD])
      all_goals first | rfl | (rw [List.length_append]; rfl)
    · rintro y r fr σ' ⟨done, rest, ws, m', c, av, e1, e2, hs', x', l1, l2, l3, ha, hw, ew, hav, v1, v2, v3, v4, v5, v6, v7⟩
      rw [hu] at v2
      simp only [if_true, Bool.false_eq_true, if_false, sD] at v2
      cases rest with
      | nil => cases e2
      | cons j rest =>
        cases e2
        have hd : done.length + 1 ≤ xs.length := by rw [e1, List.length_append, List.length_cons]; lia
        have hj : j < W.many := hx j (by rw [e1]; exact List.mem_append_right _ (.head _))
        have c1 : (done.length + 1) * t = done.length * t + t := Nat.succ_mul _ _
        have c2 : (done.length + 1) * t ≤ xs.length * t := Nat.mul_le_mul_right _ hd
        have c3 : (done.length + 1) * cf = done.length * cf + cf := Nat.succ_mul _ _
        have c4 : (done.length + 1) * cf ≤ xs.length * cf := Nat.mul_le_mul_right _ hd
        have z1 : small (done.map F ++ [G j]) = true := small_of (by rw [List.length_append, List.length_map, List.length_singleton]; lia)
        have z2 : small ([G j] ++ done.map F) = true := small_of (by rw [List.length_append, List.length_map, List.length_singleton]; lia)
        have z3 : (small (done.map F) && small [F j]) = true := by rw [small_of (by rw [List.length_map]; lia)]; rfl
        have z4 : (small (done.map F) && small [G j]) = true := by rw [small_of (by rw [List.length_map]; lia)]; rfl
        have z5 : (small [G j] && small (done.map F)) = true := by rw [small_of (xs := done.map F) (by rw [List.length_map]; lia)]; rfl
        have h1 := hs'.ro
        with_reducible
          refine wq_cons ?_
          refine wx_asg (by kernel_rfl!) ?_
          refine wv_plain (by kernel_rfl!) ?_
          refine w_methv (by kernel_rfl!) (lk_past (by kernel_rfl!) (by assumption)) (by kernel_rfl!) ?_
          refine kk_meth (by assumption) meth_288_told (lk_miss (by kernel_rfl!) (lk_miss (by kernel_rfl!) (lk_miss (by kernel_rfl!) (lk_miss (by kernel_rfl!) (lk_miss (by kernel_rfl!) lk_nil))))) isfn_278 ?_
          refine ws_var (lk_past (by kernel_rfl!) (by assumption)) (by kernel_rfl!) ?_
          refine ws_var2 lk_put (by kernel_rfl!) ?_
          refine kk_meth2 ?_
        dsimp only
        refine hg _ _ _ _ _ (by lia) hs' hj (by lia) fun σ₁ m₁ hs₁ x₁ p₁ q₁ => ?_
        clear h1
        have h1 := hs₁.ro
        with_reducible
          refine kk_asg ?_
          refine kk_next ?_
          refine wx_expr (by kernel_rfl!) ?_
          refine w_methv (by kernel_rfl!) (lk_past (by kernel_rfl!) (lk_past (by kernel_rfl!) (by assumption))) (by kernel_rfl!) ?_
          refine kk_meth (by assumption) meth_288_spend (lk_miss (by kernel_rfl!) (lk_miss (by kernel_rfl!) (lk_miss (by kernel_rfl!) (lk_miss (by kernel_rfl!) (lk_miss (by kernel_rfl!) lk_nil))))) isfn_273 ?_
          refine ws_var1 (lk_past (by kernel_rfl!) (lk_past (by kernel_rfl!) (by assumption))) (by kernel_rfl!) ?_
          refine kk_meth2 ?_
        refine spend_run (c := c) (by lia) ok hs₁ (by lia) fun σ₂ hs₂ x₂ => ?_
        clear h1
        have h1 := hs₂.ro
        have ha₂ := x₂.at (by lia) (x₁.at (by lia) ha)
        have hav₂ := (hav.ex x₁ (by lia)).ex x₂ (by lia)
        have i₂ := hav₂.items
        with_reducible
          refine kk_expr ?_
          refine kk_next ?_
          refine wx_asg (by kernel_rfl!) ?_
          refine wv_plain (by kernel_rfl!) ?_
          refine w_attrv (lk_past (by kernel_rfl!) (lk_past (by kernel_rfl!) (by assumption))) (by kernel_rfl!) ?_
          refine kk_attr (ga (by assumption) attr_288_many (lk_at 2 (by kernel_rfl!) (by with_unfolding_all rfl)) (by with_unfolding_all rfl)) ?_
          refine kk_asg ?_
          refine kk_next ?_
          refine wx_expr (by kernel_rfl!) ?_
          refine w_append (by kernel_rfl!) (by kernel_rfl!) ?_
          refine w_var (lk_past (by kernel_rfl!) (lk_past (by kernel_rfl!) (lk_past (by kernel_rfl!) (by assumption)))) (by kernel_rfl!) ?_
          refine kk_app (by assumption) ?_
          refine ws_cons (by kernel_rfl!) ?_
          refine w_if ?_
          refine wt_eqs (lk_past (by kernel_rfl!) (lk_past (by kernel_rfl!) (lk_past (by kernel_rfl!) (by assumption)))) (by kernel_rfl!) (by kernel_rfl!) (by kernel_rfl!) ?_
          refine kk_if_t (by first | assumption | kernel_rfl!) ?_
          refine w_tuple ?_
          refine ws_str ?_
          refine ws_cons (by kernel_rfl!) ?_
          refine w_glb (by kernel_rfl!) glob_tuple (by kernel_rfl!) ?_
          refine ws_cons (by kernel_rfl!) ?_
          refine w_bin ?_
          refine w_var (lk_past (by kernel_rfl!) (lk_past (by kernel_rfl!) (lk_past (by kernel_rfl!) (by assumption)))) (by kernel_rfl!) ?_
          refine kk_bin ?_
          refine w_list ?_
          refine ws_var1 (lk_past (by kernel_rfl!) lk_put) (by kernel_rfl!) ?_
          refine kk_lst (by with_unfolding_all rfl) (by kernel_rfl!) ?_
          refine kk_bin2 ?_
        dsimp only
        first | refine p_addI i₂ rfl z4 ?_ | refine p_addI rfl i₂ z5 ?_
        with_reducible
          refine kk_end1 ?_
          refine kk_call2 ?_
          refine cv_type ?_
          refine b_tuple_l (by first | assumption | kernel_rfl!) ?_
          refine kk_end2 ?_
          refine kk_tup (by with_unfolding_all rfl) (by kernel_rfl!) ?_
          refine kk_end1 ?_
          refine kk_app2 (by assumption) ?_
        refine ⟨Nat.ble_eq_true_of_le (by rw [List.length_map]; lia), ?_⟩
        generalize hσ₃ : List.set σ₂ σ.length _ = σ₃
        have ha₃ := set_at hσ₃ ha₂
        have x₃ : Ex W.ro σ σ₃ := by rw [← hσ₃]; exact ((x'.trans x₁).trans x₂).setNew (Nat.le_refl _)
        have hs₃ := hs₂.ex (i := σ.length) (by lia) (by lia) hσ₃.symm
        have hav₃ : AV (σ.length + 1) σ₃ av done F := by rw [← hσ₃]; exact hav₂.ex (Ex.set (r := σ.length)) (by lia)
        clear h1
        have h1 := hs₃.ro
        with_reducible
          refine kk_expr ?_
          refine kk_next ?_
          refine wx_asg (by kernel_rfl!) ?_
          refine wv_plain (by kernel_rfl!) ?_
          refine w_bin ?_
          refine w_var (lk_past (by kernel_rfl!) (lk_past (by kernel_rfl!) (lk_past (by kernel_rfl!) (by assumption)))) (by kernel_rfl!) ?_
          refine kk_bin ?_
          refine w_list ?_
          refine ws_cons (by kernel_rfl!) ?_
          refine w_methv (by kernel_rfl!) (lk_past (by kernel_rfl!) (lk_past (by kernel_rfl!) (lk_past (by kernel_rfl!) (by assumption)))) (by kernel_rfl!) ?_
          refine kk_meth (by assumption) meth_288_told (lk_miss (by kernel_rfl!) (lk_miss (by kernel_rfl!) (lk_miss (by kernel_rfl!) (lk_miss (by kernel_rfl!) (lk_miss (by kernel_rfl!) lk_nil))))) isfn_278 ?_
          refine ws_var (lk_past (by kernel_rfl!) (lk_past (by kernel_rfl!) (lk_past (by kernel_rfl!) (by assumption)))) (by kernel_rfl!) ?_
          refine ws_var2 (lk_past (by kernel_rfl!) (lk_past (by kernel_rfl!) lk_put)) (by kernel_rfl!) ?_
          refine kk_meth2 ?_
        refine hf _ _ _ _ _ (by lia) hs₃ hj (by lia) fun σ₄ m₄ hs₄ x₄ p₄ q₄ => ?_
        clear h1
        have h1 := hs₄.ro
        have hav₄ := hav₃.ex x₄ (by lia)
        have i₄ := hav₄.items
        have ha₄ := x₄.at (by lia) ha₃
        with_reducible
          refine kk_end1 ?_
          refine kk_lst (by with_unfolding_all rfl) (by kernel_rfl!) ?_
          refine kk_bin2 ?_
        refine p_addI i₄ rfl z3 ?_
        with_reducible
          refine kk_asg ?_
          refine kk_next ?_
          refine wx_asg (by kernel_rfl!) ?_
          refine wv_plain (by kernel_rfl!) ?_
          refine w_bin ?_
          refine w_bin ?_
          refine w_var (lk_past (by kernel_rfl!) (lk_past (by kernel_rfl!) (lk_past (by kernel_rfl!) (lk_past (by kernel_rfl!) (by assumption))))) (by kernel_rfl!) ?_
          refine kk_bin ?_
          refine w_attrv (lk_past (by kernel_rfl!) (lk_past (by kernel_rfl!) (lk_past (by kernel_rfl!) (lk_past (by kernel_rfl!) (by assumption))))) (by kernel_rfl!) ?_
          refine kk_attr (ga (by assumption) attr_288_many (lk_at 2 (by kernel_rfl!) (by with_unfolding_all rfl)) (by with_unfolding_all rfl)) ?_
          refine kk_bin2 ?_
          refine p_add ?_
          refine kk_bin ?_
          refine w_var (lk_past (by kernel_rfl!) lk_put) (by kernel_rfl!) ?_
          refine kk_bin2 ?_
          refine p_sub ?_
          refine kk_asg ?_
          refine kk_seq_n ?_
          refine wq_nil ?_
        dsimp only
        have fin : ∀ way, σ₄[σ.length]? = some (.lst (ws.map V.d ++ [V.d way])) → waysP u' F G (done.map F) (j :: rest) = way :: waysP u' F G (done.map F ++ [F j]) rest → TUI W u' F G nf ng cf t m σ xs σ.length (σ.length + 1) (rest.map fun j : Nat => V.d (.int j)) (putV (putV (putV (putV (putV fr (Str.ofString "k") (V.d (.int j))) (Str.ofString "here") (V.d (G j))) (Str.ofString "before") (V.d (.int ((m₁ + c : Nat) : Int)))) (Str.ofString "ahead_now") (V.d (.list (done.map F ++ [F j])))) (Str.ofString "copied") (V.d (.int ((c : Int) + (m₄ : Int) - ((m₁ + c : Nat) : Int))))) σ₄ := by
          intro way ha₄ hwy
          have ec : ((c : Int) + (m₄ : Int) - ((m₁ + c : Nat) : Int)) = ((c + (m₄ - (m₁ + c)) : Nat) : Int) := by lia
          rw [ec]
          refine ⟨done ++ [j], rest, ws ++ [way], m₄, c + (m₄ - (m₁ + c)), .d (.list (done.map F ++ [F j])), by rw [e1, List.append_assoc]; rfl, rfl, hs₄, x₃.trans x₄, by lia, ?_, ?_, by rw [List.map_append]; exact ha₄, by rw [List.length_append, List.length_append, hw]; rfl, ?_, .inl (by rw [List.map_append]; rfl), ?_, ?_, ?_, ?_, ?_, ?_, ?_⟩
          · rw [List.length_append, List.length_singleton, c1]; lia
          · rw [List.length_append, List.length_singleton, c3]; lia
          · rw [List.append_assoc, List.map_append, ← ew, hwy]; rfl
          all_goals (simp only [lookup_putV', ofString_beq, String.reduceBEq, beq_self_eq_true, if_true, if_false, Bool.false_eq_true])
          all_goals first | assumption | (rw [hu]; exact v2)
        exact fin _ ha₄ (by rw [waysP_snoc, hu]; rfl)
    · rintro fr σ' ⟨done, rest, ws, m', c, av, e1, e2, hs', x', l1, l2, l3, ha, hw, ew, hav, v1, v2, v3, v4, v5, v6, v7⟩
      cases rest with
      | cons j rest => cases e2
      | nil =>
        rw [List.append_nil] at e1
        rw [hu] at v2
        simp only [if_true, Bool.false_eq_true, if_false, sD] at v2
        rw [← e1] at l2
        have ew : ws = waysP u' F G [] xs := by rw [← ew]; exact (List.append_nil _).symm
        have hz : small ws = true := small_of (by rw [hw, ← e1]; lia)
        with_reducible
          refine kk_seq_n ?_
          refine wq_ret ?_
          refine w_tuple ?_
          refine ws_cons (by kernel_rfl!) ?_
          refine w_if ?_
          refine wt_eqs (by assumption) (by kernel_rfl!) (by kernel_rfl!) (by kernel_rfl!) ?_
          refine kk_if_t (by first | assumption | kernel_rfl!) ?_
          refine w_str ?_
          refine kk_more (by kernel_rfl!) ?_
          refine w_glb (by kernel_rfl!) glob_tuple (by kernel_rfl!) ?_
          refine ws_var1 (by assumption) (by kernel_rfl!) ?_
          refine kk_call2 ?_
          refine cv_type ?_
        refine b_tuple_s ha (datas_map ws) hz ?_
        with_reducible
          refine kk_end2 ?_
          refine kk_tup (by with_unfolding_all rfl) (by kernel_rfl!) ?_
          refine kk_ret1 ?_
        rw [ew]
        exact h _ _ hs' x' l1 l2
end Mine
set_option maxHeartbeats 1000000
namespace Mine
open PySem
variable {W : Wd}
theorem told_unt (ok : W.ok) (u : Bool) {nf F cf Nf ng G cg Ng} (hf : Told W nf F cf Nf) (hg : Told W ng G cg Ng) : Told W (.tuple [if u then sD "until" else sD "releases", nf, ng]) (fun k => untP u F G (W.line k)) (1 + 3 * (cg + 3 * cf)) (max Nf Ng + 60) := by
  intro n σ m k Q hN hs hk hm h
  obtain ⟨n, rfl⟩ : ∃ n', n = n' + 60 := ⟨n - 60, by lia⟩
  have hl := ok.line hk
  have q1 : (W.line k).length * cf ≤ 3 * cf := Nat.mul_le_mul_right _ hl.1
  have q2 : (W.line k).length * (cg + (W.line k).length * cf) ≤ 3 * (cg + 3 * cf) := Nat.mul_le_mul hl.1 (by lia)
  obtain ⟨u', hu⟩ : ∃ u', u' = u := ⟨u, rfl⟩
  have hu2 : untP u = @untP u' := by rw [hu]
  rw [hu2] at h
  unfold sD
  cases u
  all_goals
    simp only [if_true, Bool.false_eq_true, if_false]
    obtain ⟨b, hb⟩ : ∃ b, b = bodyOf 278 := ⟨_, rfl⟩
    obtain ⟨s, hs⟩ : ∃ b, b = scOf 278 := ⟨_, rfl⟩
    obtain ⟨p, hp⟩ : ∃ b, b = psOf 278 := ⟨_, rfl⟩
    have hf := fn_of 278 (by kernel_rfl)
    rw [← hb, ← hs, ← hp] at hf
    conv at hb => rhs; whnf
    conv at hs => rhs; whnf
    conv at hp => rhs; whnf
    subst hb hs hp
    simp only [List.map_cons, List.map_nil] at hf
    refine w_run hf (by kernel_rfl) ?_
    clear hf
    simp only [List.zip_cons_cons, List.zip_nil_right]
    have h1 := hs.ro
    with_reducible
      refine wq_cons ?_
      refine wx_expr (by kernel_rfl!) ?_
      refine w_methv (by kernel_rfl!) (lk_at 0 (by kernel_rfl!) (by with_unfolding_all rfl)) (by kernel_rfl!) ?_
      refine kk_meth (by assumption) meth_288_spend (lk_miss (by kernel_rfl!) (lk_miss (by kernel_rfl!) (lk_miss (by kernel_rfl!) (lk_miss (by kernel_rfl!) (lk_miss (by kernel_rfl!) lk_nil))))) isfn_273 ?_
      refine ws_int1 ?_
      refine kk_meth2 ?_
    refine spend_run (c := 1) (by lia) ok hs (by lia) fun σ₁ hs₁ x₁ => ?_
    clear h1
    have h1 := hs₁.ro
    with_reducible
      refine kk_expr ?_
      refine kk_next ?_
      refine wx_asg (by kernel_rfl!) ?_
      refine wv_plain (by kernel_rfl!) ?_
      refine w_subi (lk_at 1 (by kernel_rfl!) (by with_unfolding_all rfl)) (by kernel_rfl!) ?_
      refine ⟨_, sb_tup_0, ?_⟩
      refine kk_asg ?_
      refine kk_seq_n ?_
      refine wi_eqs (lk_at 3 (by kernel_rfl!) (by with_unfolding_all rfl)) (by kernel_rfl!) (by kernel_rfl!) (by kernel_rfl!) ?_
      refine kk_skipn (by first | assumption | kernel_rfl!) ?_
      refine wx_if ?_
      refine wt_var (by kernel_rfl!) (lk_at 3 (by kernel_rfl!) (by with_unfolding_all rfl)) (by kernel_rfl!) ?_
      refine w_tuple ?_
      refine ws_str ?_
      refine ws_str ?_
      refine ws_str ?_
      refine ws_str3 ?_
      refine kk_cons2 ?_
      refine kk_tup (by with_unfolding_all rfl) (by kernel_rfl!) ?_
      refine kk_cmp2 ?_
      refine p_in_tup (by kernel_rfl!) ?_
      refine kk_skipn (by first | assumption | kernel_rfl!) ?_
      refine wx_if ?_
      refine wt_var (by kernel_rfl!) (lk_at 3 (by kernel_rfl!) (by with_unfolding_all rfl)) (by kernel_rfl!) ?_
      refine w_strs2 ?_
      refine kk_cmp2 ?_
      refine p_in_tup (by kernel_rfl!) ?_
      refine kk_skipn (by first | assumption | kernel_rfl!) ?_
      refine wx_if ?_
      refine wt_var (by kernel_rfl!) (lk_at 3 (by kernel_rfl!) (by with_unfolding_all rfl)) (by kernel_rfl!) ?_
      refine w_strs2 ?_
      refine kk_cmp2 ?_
      refine p_in_tup (by kernel_rfl!) ?_
      refine kk_skipn (by first | assumption | kernel_rfl!) ?_
      refine wx_if ?_
      refine wt_var (by kernel_rfl!) (lk_at 3 (by kernel_rfl!) (by with_unfolding_all rfl)) (by kernel_rfl!) ?_
      refine w_strs2 ?_
      refine kk_cmp2 ?_
      refine p_in_tup (by kernel_rfl!) ?_
      refine kk_ifx_t (by first | assumption | kernel_rfl!) ?_
      refine wq_ret ?_
      refine w_methv (by kernel_rfl!) (lk_at 0 (by kernel_rfl!) (by with_unfolding_all rfl)) (by kernel_rfl!) ?_
      refine kk_meth (by assumption) meth_288_told_until (lk_miss (by kernel_rfl!) (lk_miss (by kernel_rfl!) (lk_miss (by kernel_rfl!) (lk_miss (by kernel_rfl!) (lk_miss (by kernel_rfl!) lk_nil))))) isfn_285 ?_
      refine ws_var (lk_at 3 (by kernel_rfl!) (by with_unfolding_all rfl)) (by kernel_rfl!) ?_
      refine ws_cons (by kernel_rfl!) ?_
      refine w_subi (lk_at 1 (by kernel_rfl!) (by with_unfolding_all rfl)) (by kernel_rfl!) ?_
      refine ⟨_, sb_tup_1, ?_⟩
      refine kk_more (by kernel_rfl!) ?_
      refine w_subi (lk_at 1 (by kernel_rfl!) (by with_unfolding_all rfl)) (by kernel_rfl!) ?_
      refine ⟨_, sb_tup_2, ?_⟩
      refine kk_more (by kernel_rfl!) ?_
      refine w_methv (by kernel_rfl!) (lk_at 0 (by kernel_rfl!) (by with_unfolding_all rfl)) (by kernel_rfl!) ?_
      refine kk_meth (by assumption) meth_288_line_from (lk_miss (by kernel_rfl!) (lk_miss (by kernel_rfl!) (lk_miss (by kernel_rfl!) (lk_miss (by kernel_rfl!) (lk_miss (by kernel_rfl!) lk_nil))))) isfn_266 ?_
      refine ws_var1 (lk_at 2 (by kernel_rfl!) (by with_unfolding_all rfl)) (by kernel_rfl!) ?_
      refine kk_meth2 ?_
    dsimp only
    refine line_run (by lia) ok hs₁ hk ?_
    with_reducible
      refine kk_end3 ?_
      refine kk_cons2 ?_
      refine kk_meth2 ?_
    have go := fun Q N hN => tu_run ok u' hf hg (N := N) hN hl.2 (by lia) (line := .d (.list ((W.line k).map fun j : Nat => PyData.int j))) (fun σ' _ i => by rw [walks_list i σ', List.map_map]; rfl) hs₁ (by lia) (Q := Q)
    rw [hu] at go
    refine go _ _ (by lia) fun σ₂ m₂ hs₂ x₂ l₁ l₂ => ?_
    with_reducible
      refine kk_ret2 ?_
    rw [← hu]
    exact h _ _ hs₂ (x₁.trans x₂) (by lia) (by lia)
theorem Told.mono {nd g c N c' N'} (h : Told W nd g c N) (hN : N ≤ N') (hc : c ≤ c') : Told W nd g c' N' :=
  fun n σ m k Q h1 hs hk hm q => h n σ m k Q (by lia) hs hk (by lia) fun σ' m' a b d e => q σ' m' a b d (by lia)
noncomputable def setR (W : Wd) (i : Int) (l : Bool) (k : Nat) : PyData := relD (W.place i (if l then W.after k else k))
theorem told_set (ok : W.ok) {i : Int} (hi : in3 i) (l : Bool) : Told W (setD i l) (setR W i l) 2 80 := by
  cases l with
  | true => exact (told_later ok (told_rel ok hi)).mono (by lia) (by lia)
  | false => exact (told_rel ok hi).mono (by lia) (by lia)
noncomputable def Fm.res (W : Wd) : Fm → Nat → PyData
  | .atom no i l => fun k => .tuple [if no then sD "no" else sD "some", setR W i l k]
  | .inn i l j m => fun k => .tuple [sD "in", setR W i l k, setR W j m k]
  | .neg f => fun k => .tuple [sD "not", f.res W k]
  | .bin or f g => fun k => .tuple [if or then sD "or" else sD "and", .tuple [f.res W k, g.res W k]]
  | .aft f => fun k => f.res W (W.after k)
  | .glob ev f => fun k => .tuple [if ev then sD "or" else sD "and", .tuple ((W.line k).map (f.res W))]
  | .unt u f g => fun k => untP u (f.res W) (g.res W) (W.line k)
theorem told_run (ok : W.ok) : ∀ f : Fm, f.ok → Told W f.node (f.res W) f.cost (60 * f.dp + 120)
  | .atom no i l, h => by
    have := told_set ok h l
    cases no with
    | false => exact (told_one ok (op := "some") (.inr (.inl rfl)) this).mono (Nat.le_add_left _ _) (Nat.le_refl _)
    | true => exact (told_one ok (op := "no") (.inr (.inr rfl)) this).mono (Nat.le_add_left _ _) (Nat.le_refl _)
  | .inn i l j m, h => (told_in ok (told_set ok h.1 l) (told_set ok h.2 m)).mono (Nat.le_add_left _ _) (Nat.le_refl _)
  | .neg f, h => (told_one ok (op := "not") (.inl rfl) (told_run ok f h)).mono (by simp only [Fm.dp]; lia) (by simp only [Fm.cost]; lia)
  | .bin or f g, h => by
    have a := told_run ok f h.1
    have b := told_run ok g h.2
    cases or with
    | false => exact (told_bin ok (op := "and") (.inl rfl) a b).mono (by simp only [Fm.dp]; lia) (by simp only [Fm.cost]; lia)
    | true => exact (told_bin ok (op := "or") (.inr rfl) a b).mono (by simp only [Fm.dp]; lia) (by simp only [Fm.cost]; lia)
  | .aft f, h => (told_aft ok (told_run ok f h)).mono (by simp only [Fm.dp]; lia) (by simp only [Fm.cost]; lia)
  | .glob ev f, h => (told_glob ok ev (told_run ok f h)).mono (by simp only [Fm.dp]; lia) (by simp only [Fm.cost]; lia)
  | .unt u f g, h => (told_unt ok u (told_run ok f h.2.1) (told_run ok g h.2.2)).mono (by simp only [Fm.dp]; lia) (by simp only [Fm.cost]; lia)
end Mine
set_option maxHeartbeats 1000000
namespace Mine
open PySem
noncomputable def Pre (σ σ' : Sto) : Prop := σ.length ≤ σ'.length ∧ ∀ i, i < σ.length → σ'[i]? = σ[i]?
theorem Pre.refl {σ} : Pre σ σ := ⟨Nat.le_refl _, fun _ _ => rfl⟩
theorem Pre.trans {σ σ' σ''} (a : Pre σ σ') (b : Pre σ' σ'') : Pre σ σ'' := ⟨Nat.le_trans a.1 b.1, fun i h => (b.2 i (Nat.lt_of_lt_of_le h a.1)).trans (a.2 i h)⟩
theorem Pre.at {σ σ' : Sto} (a : Pre σ σ') {i : Nat} {o : O} (e : σ[i]? = some o) : σ'[i]? = some o := by rw [a.2 i (List.getElem?_eq_some_iff.mp e).1]; exact e
theorem Pre.push {σ l} : Pre σ (σ ++ l) := ⟨by rw [List.length_append]; lia, fun i h => List.getElem?_append_left h⟩
theorem Pre.setNew {σ σ' a o} (h : Pre σ σ') (ha : σ.length ≤ a) : Pre σ (σ'.set a o) := ⟨by rw [List.length_set]; exact h.1, fun i hl => by rw [List.getElem?_set_ne (by lia)]; exact h.2 i hl⟩
theorem Pre.ex {σ σ'} (h : Pre σ σ') {r} : Ex r σ σ' := ⟨h.1, fun i _ hl => h.2 i hl⟩
noncomputable def intD (j : Nat) : PyData := .int j
noncomputable def nxtN (many back j : Nat) : Nat := if j + 1 = many then back else j + 1
noncomputable def chain (many back : Nat) : List Nat → Nat → List Nat → Bool
  | done, cur, [] => done.contains cur
  | done, cur, j :: r => j == cur && !done.contains j && decide (j < many) && chain many back (done ++ [j]) (nxtN many back j) r
noncomputable def lineN (many back k : Nat) : List Nat := List.range' k (many - k) ++ List.range' back (k - back)
theorem chain_line : ∀ many, many < 4 → ∀ back, back < many → ∀ k, k < many → chain many back [] k (lineN many back k) = true := by decide
theorem shaped_ints (l : List Nat) : shapedD (.list (l.map intD)) = true := by
  have h1 : PyData.canLayAll0 (l.map intD) = true := by
    induction l with
    | nil => rfl
    | cons a r ih => simpa [PyData.canLayAll0, intD, PyData.canLay0] using ih
  have h2 : PyData.depthAll (l.map intD) = 0 := by
    induction l with
    | nil => rfl
    | cons a r ih =>
      rw [List.map_cons, PyData.depthAll, ih (by simpa [PyData.canLayAll0, intD, PyData.canLay0] using h1)]
      rfl
  unfold shapedD PySem.SeqAt.shaped
  rw [PyData.canLay0, PyData.depth, h1, h2]
  rfl
theorem any_ints (l : List Nat) (k : Nat) : (l.map intD).any (fun y => PyData.eqv y (.int k)) = l.contains k := by
  induction l with
  | nil => rfl
  | cons a r ih =>
    rw [List.map_cons, List.any_cons, ih, List.contains_cons]
    congr 1
    unfold intD
    rw [eqv_int]
    by_cases h : a = k
    · subst h; simp
    · have h1 : ¬ ((a : Int) = (k : Int)) := by lia
      have h2 : (k == a) = false := by simpa using Ne.symm h
      rw [decide_eq_false h1, h2]
theorem datas_ints (l : List Nat) : datas (l.map fun j : Nat => V.d (.int j)) = some (l.map intD) := by
  rw [← datas_map (l.map intD), List.map_map]; rfl
theorem lineN_len {many back k : Nat} (hm : many < 4) (hb : back < many) (hk : k < many) : (lineN many back k).length ≤ 4 := by
  unfold lineN
  simp
  lia
theorem ww_inv {X : Fl × Vars → Sto → Prop} {test : Vars → Sto → Res Bool} {body : Vars → Sto → Res (Fl × Vars)} (I : Nat → Vars → Sto → Prop) (hs : ∀ r fr σ, I r fr σ → W (test fr σ) fun b σ₁ => if b = true then W (body fr σ₁) (fun p σ₂ => match p with | (.next, fr') => ∃ r', r' < r ∧ I r' fr' σ₂ | (.ret v, fr') => X (.ret v, fr') σ₂) else X (.next, fr) σ₁)
    {m r : Nat} {fr : Vars} {σ : Sto} (h0 : I r fr σ) (hr : r < m) : W (whileGo test body m fr σ) X := by
  induction m generalizing r fr σ with
  | zero => lia
  | succ m ih =>
    refine ww_step ((hs _ _ _ h0).mono fun b σ₁ q => ?_)
    cases b with
    | false => exact q
    | true =>
      rw [if_pos rfl] at q ⊢
      refine q.mono fun p σ₂ q => ?_
      obtain ⟨fl, fr'⟩ := p
      cases fl with
      | next => obtain ⟨r', h1, h2⟩ := q; exact ih h2 (by lia)
      | ret v => exact q
theorem walk_run {N : Nat} (hN : 20 ≤ N) {many back w k : Nat} {kvs : List (Str × V)} {σ : Sto} (hm : many < 4) (hb : back < many) (hk : k < many) (hw : σ[w]? = some (.dict kvs)) (h1 : kvs.lookup (Str.ofString "many") = some (.d (.int many))) (h2 : kvs.lookup (Str.ofString "back") = some (.d (.int back)))
    {Q : V → Sto → Prop} (h : ∀ σ', Pre σ σ' → σ'[σ.length]? = some (.lst ((lineN many back k).map fun j : Nat => V.d (.int j))) → Q (.st σ.length) σ') : W (lvC theTab N 320 [.st w, .d (.int k)] σ) Q := by
  obtain ⟨n, rfl⟩ : ∃ n', N = n' + 20 := ⟨N - 20, by lia⟩
  obtain ⟨b, hb⟩ : ∃ b, b = bodyOf 320 := ⟨_, rfl⟩
  obtain ⟨s, hs⟩ : ∃ b, b = scOf 320 := ⟨_, rfl⟩
  obtain ⟨p, hp⟩ : ∃ b, b = psOf 320 := ⟨_, rfl⟩
  have hf := fn_of 320 (by kernel_rfl)
  rw [← hb, ← hs, ← hp] at hf
  conv at hb => rhs; whnf
  conv at hs => rhs; whnf
  conv at hp => rhs; whnf
  subst hb hs hp
  simp only [List.map_cons, List.map_nil] at hf
  refine w_run hf (by kernel_rfl) ?_
  clear hf
  simp only [List.zip_cons_cons, List.zip_nil_right]
  with_reducible
    refine wq_cons ?_
    refine wx_asg (by kernel_rfl!) ?_
    refine wv_plain (by kernel_rfl!) ?_
    refine w_nil ?_
    refine kk_asg ?_
    refine kk_next ?_
  refine wx_while ?_
  refine ww_inv (r := (lineN many back k).length) (fun r fr σ' => ∃ (rest done : List Nat) (cur : Nat), r = rest.length ∧ lineN many back k = done ++ rest ∧ chain many back done cur rest = true ∧ cur < many ∧ Pre σ σ' ∧ σ'[σ.length]? = some (.lst (done.map fun j : Nat => V.d (.int j))) ∧
      fr.lookup (Str.ofString "world") = some (.st w) ∧ fr.lookup (Str.ofString "k") = some (.d (.int cur)) ∧ fr.lookup (Str.ofString "found") = some (.st σ.length)) ?_ ?_ ?_
  · rintro r fr σ' ⟨rest, done, cur, e1, e2, hc, hcm, x, ha, v1, v2, v3⟩
    have hl : (done ++ rest).length ≤ 4 := by rw [← e2]; exact lineN_len hm hb hk
    rw [List.length_append] at hl
    have hw' := x.at hw
    with_reducible
      refine wt_var (by kernel_rfl!) (by assumption) (by kernel_rfl!) ?_
      refine w_var (by assumption) (by kernel_rfl!) ?_
      refine kk_cmp2 ?_
    refine p_nin_st ha (datas_ints done) (by rw [shaped_ints]; rfl) ?_
    rw [any_ints]
    cases rest with
    | nil =>
      have hc : done.contains cur = true := hc
      rw [hc]
      with_reducible
        refine w_if_f (by first | assumption | kernel_rfl!) ?_
        refine kk_seq_n ?_
        refine wq_ret ?_
        refine w_var (by assumption) (by kernel_rfl!) ?_
        refine kk_ret1 ?_
      refine h _ x ?_
      rw [e2, List.append_nil]
      exact ha
    | cons j rest =>
      rw [chain, Bool.and_eq_true, Bool.and_eq_true, Bool.and_eq_true] at hc
      obtain ⟨⟨⟨c1, c2⟩, c3⟩, c4⟩ := hc
      have c1 : j = cur := by simpa using c1
      subst c1
      have c2 : done.contains j = false := by simpa using c2
      rw [c2]
      with_reducible
        refine w_if_t (by first | assumption | kernel_rfl!) ?_
        refine wq_cons ?_
        refine wx_expr (by kernel_rfl!) ?_
        refine w_append (by kernel_rfl!) (by kernel_rfl!) ?_
        refine w_var (by assumption) (by kernel_rfl!) ?_
        refine kk_app (by assumption) ?_
        refine ws_var1 (by assumption) (by kernel_rfl!) ?_
        refine kk_app2 (by assumption) ?_
      refine ⟨Nat.ble_eq_true_of_le (by rw [List.length_map]; lia), ?_⟩
      generalize hσ₃ : List.set σ' σ.length _ = σ₃
      have ha₃ := set_at hσ₃ ha
      have x₃ : Pre σ σ₃ := by rw [← hσ₃]; exact x.setNew (Nat.le_refl _)
      have hw₃ := x₃.at hw
      with_reducible
        refine kk_expr ?_
        refine kk_next ?_
        refine wx_asg (by kernel_rfl!) ?_
        refine wv_plain (by kernel_rfl!) ?_
        refine w_if ?_
        refine wt_var (by kernel_rfl!) (by assumption) (by kernel_rfl!) ?_
        refine w_bin ?_
        refine w_subs (by assumption) (by kernel_rfl!) ?_
        refine ⟨_, sb_dict (by assumption) (by assumption), ?_⟩
        refine kk_bin ?_
        refine w_int ?_
        refine kk_bin2 ?_
        refine p_sub ?_
        refine kk_cmp2 ?_
        refine p_eq ?_
        refine kk_if ?_
      have e1 : rest.length < r := by rw [e1]; exact Nat.lt_succ_self _
      have fin : ∀ u : Nat, u = nxtN many back j → ∃ r', r' < r ∧ ∃ (rest done : List Nat) (cur : Nat), r' = rest.length ∧ lineN many back k = done ++ rest ∧ chain many back done cur rest = true ∧ cur < many ∧ Pre σ σ₃ ∧ σ₃[σ.length]? = some (.lst (done.map fun j : Nat => V.d (.int j))) ∧
          (putV fr (Str.ofString "k") (V.d (.int u))).lookup (Str.ofString "world") = some (.st w) ∧ (putV fr (Str.ofString "k") (V.d (.int u))).lookup (Str.ofString "k") = some (.d (.int cur)) ∧ (putV fr (Str.ofString "k") (V.d (.int u))).lookup (Str.ofString "found") = some (.st σ.length) := by
        intro u hu
        refine ⟨rest.length, e1, rest, done ++ [j], u, rfl, by rw [e2, List.append_assoc]; rfl, by rw [hu]; exact c4, ?_, x₃, by rw [List.map_append]; exact ha₃, ?_, ?_, ?_⟩
        · rw [hu]; unfold nxtN; split <;> lia
        all_goals (simp only [lookup_putV', ofString_beq, String.reduceBEq, beq_self_eq_true, if_true, if_false, Bool.false_eq_true]; try assumption)
      refine w_if_d (fun hd => ?_) (fun hd => ?_)
      · with_reducible
          refine w_subs (by assumption) (by kernel_rfl!) ?_
          refine ⟨_, sb_dict (by assumption) (by assumption), ?_⟩
          refine kk_asg ?_
          refine kk_seq_n ?_
          refine wq_nil ?_
        dsimp only
        exact fin back (by unfold nxtN; rw [if_pos (by lia)])
      · with_reducible
          refine w_bin ?_
          refine w_var (by assumption) (by kernel_rfl!) ?_
          refine kk_bin ?_
          refine w_int ?_
          refine kk_bin2 ?_
          refine p_add ?_
          refine kk_asg ?_
          refine kk_seq_n ?_
          refine wq_nil ?_
        dsimp only
        exact fin (j + 1) (by unfold nxtN; rw [if_neg (by lia)])
  · exact ⟨lineN many back k, [], k, rfl, rfl, chain_line _ hm _ hb _ hk, hk, .push, by simp, by kernel_rfl!, by kernel_rfl!, by kernel_rfl!⟩
  · have := lineN_len hm hb hk
    unfold turnsMost
    lia
/-! what holds -/
noncomputable def untV (u : Bool) : List Bool → List Bool → Bool
  | one :: r, other :: t => if (u && (other || !one)) || (!u && (one || !other)) then other else untV u r t
  | _, _ => !u
noncomputable def boolsD (l : List Bool) : List PyData := l.map .bool
theorem wz_inv {X : Fl × Vars → Sto → Prop} {x y : Str} {body : Vars → Sto → Res (Fl × Vars)} (I : List Bool → List Bool → Vars → Sto → Prop)
    (hs : ∀ a r b t fr σ, I (a :: r) (b :: t) fr σ → W (body (putV (putV fr x (.d (.bool a))) y (.d (.bool b))) σ) fun p σ₁ => match p with | (.next, fr') => I r t fr' σ₁ | (.ret v, fr') => X (.ret v, fr') σ₁)
    (he : ∀ fs gs fr σ, I fs gs fr σ → fs = [] ∨ gs = [] → X (.next, fr) σ) : ∀ (fs gs : List Bool) (fr : Vars) (σ : Sto), I fs gs fr σ → W (forL (zipBind x y) body ((pairUp (boolsD fs) (boolsD gs)).map V.d) fr σ) X
  | [], gs, fr, σ, h => wf_nil (he _ _ _ _ h (.inl rfl))
  | a :: r, [], fr, σ, h => wf_nil (he _ _ _ _ h (.inr rfl))
  | a :: r, b :: t, fr, σ, h => by
    refine wz_cons ((hs _ _ _ _ _ _ h).mono fun p σ₁ q => ?_)
    obtain ⟨fl, fr'⟩ := p
    cases fl with
    | next => exact wz_inv I hs he r t fr' σ₁ q
    | ret v => exact q
theorem pairUp_len : ∀ (fs gs : List Bool), (pairUp (boolsD fs) (boolsD gs)).length ≤ fs.length
  | [], gs => Nat.zero_le _
  | a :: r, [] => Nat.zero_le _
  | a :: r, b :: t => Nat.succ_le_succ (pairUp_len r t)
theorem until_run {N : Nat} (hN : 20 ≤ N) (u : Bool) {fs gs : List Bool} (hl : fs.length < 50) {σ : Sto} {Q : V → Sto → Prop} (h : Q (.d (.bool (untV u fs gs))) σ) : W (lvC theTab N 327 [.d (if u then sD "until" else sD "releases"), .d (.list (boolsD fs)), .d (.list (boolsD gs))] σ) Q := by
  obtain ⟨n, rfl⟩ : ∃ n', N = n' + 20 := ⟨N - 20, by lia⟩
  obtain ⟨u', hu⟩ : ∃ u', u' = u := ⟨u, rfl⟩
  have hu2 : untV u = untV u' := by rw [hu]
  rw [hu2] at h
  unfold sD
  cases u
  · simp only [if_true, Bool.false_eq_true, if_false]
    obtain ⟨b, hb⟩ : ∃ b, b = bodyOf 327 := ⟨_, rfl⟩
    obtain ⟨s, hs⟩ : ∃ b, b = scOf 327 := ⟨_, rfl⟩
    obtain ⟨p, hp⟩ : ∃ b, b = psOf 327 := ⟨_, rfl⟩
    have hf := fn_of 327 (by kernel_rfl)
    rw [← hb, ← hs, ← hp] at hf
    conv at hb => rhs; whnf
    conv at hs => rhs; whnf
    conv at hp => rhs; whnf
    subst hb hs hp
    simp only [List.map_cons, List.map_nil] at hf
    refine w_run hf (by kernel_rfl) ?_
    clear hf
    simp only [List.zip_cons_cons, List.zip_nil_right]
    refine wq_cons ?_
    refine wx_zip (by kernel_rfl!) ?_
    with_reducible
      refine w_glob glob_zip (by kernel_rfl!) ?_
    refine ⟨rfl, ?_⟩
    with_reducible
      refine w_var (lk_at 1 (by kernel_rfl!) (by with_unfolding_all rfl)) (by kernel_rfl!) ?_
      refine w_var (lk_at 2 (by kernel_rfl!) (by with_unfolding_all rfl)) (by kernel_rfl!) ?_
    dsimp only
    refine ⟨_, _, rfl, rfl, Nat.lt_of_le_of_lt (pairUp_len fs gs) (by lia), ?_⟩
    refine wz_inv (fun fs' gs' fr σ' => σ' = σ ∧ untV u' fs gs = untV u' fs' gs' ∧ fr.lookup (Str.ofString "op") = some (.d (if u' then sD "until" else sD "releases"))) ?_ ?_ fs gs _ _ ⟨rfl, rfl, by rw [hu]; kernel_rfl!⟩
    · rintro a r b t fr σ' ⟨rfl, e, v⟩
      rw [hu] at v e
      simp only [if_true, Bool.false_eq_true, if_false, sD] at v
      rw [← hu] at e
      rw [e, hu] at h
      cases a <;> cases b
      · with_reducible
          refine wq_cons ?_
          refine wx_if ?_
          refine wt_bool ?_
          refine wa_cons ?_
          refine wt_eqs (lk_past (by kernel_rfl!) (lk_past (by kernel_rfl!) (by assumption))) (by kernel_rfl!) (by kernel_rfl!) (by kernel_rfl!) ?_
          refine kk_all_f (by kernel_rfl!) ?_
          refine kk_skipn (by first | assumption | kernel_rfl!) ?_
          refine wx_if ?_
          refine wt_bool ?_
          refine wa_cons ?_
          refine wt_eqs (lk_past (by kernel_rfl!) (lk_past (by kernel_rfl!) (by assumption))) (by kernel_rfl!) (by kernel_rfl!) (by kernel_rfl!) ?_
          refine kk_all_t (by kernel_rfl!) ?_
          refine wa_cons ?_
          refine wt_bool ?_
          refine wa_cons ?_
          refine wt_plain (by kernel_rfl!) ?_
          refine w_var (lk_past (by kernel_rfl!) lk_put) (by kernel_rfl!) ?_
          refine kk_truth ?_
          refine kk_all_t (by kernel_rfl!) ?_
          refine wa_cons ?_
          refine wt_not ?_
          refine wt_plain (by kernel_rfl!) ?_
          refine w_var lk_put (by kernel_rfl!) ?_
          refine kk_truth ?_
          refine kk_notT ?_
          refine kk_all_f (by kernel_rfl!) ?_
          refine kk_all_t (by kernel_rfl!) ?_
          refine wa_nil ?_
          refine kk_ifx_t (by first | assumption | kernel_rfl!) ?_
          refine wq_ret ?_
          refine w_var lk_put (by kernel_rfl!) ?_
          refine kk_ret ?_
          refine kk_seq_r ?_
          refine kk_seq_r ?_
          refine kk_seq_r ?_
          refine kk_run_r ?_
        first | exact h | exact ⟨by rw [e, hu]; rfl, by simp only [lookup_putV', ofString_beq, String.reduceBEq, Bool.false_eq_true, if_false]; rw [v, hu]; rfl⟩
      · with_reducible
          refine wq_cons ?_
          refine wx_if ?_
          refine wt_bool ?_
          refine wa_cons ?_
          refine wt_eqs (lk_past (by kernel_rfl!) (lk_past (by kernel_rfl!) (by assumption))) (by kernel_rfl!) (by kernel_rfl!) (by kernel_rfl!) ?_
          refine kk_all_f (by kernel_rfl!) ?_
          refine kk_skipn (by first | assumption | kernel_rfl!) ?_
          refine wx_if ?_
          refine wt_bool ?_
          refine wa_cons ?_
          refine wt_eqs (lk_past (by kernel_rfl!) (lk_past (by kernel_rfl!) (by assumption))) (by kernel_rfl!) (by kernel_rfl!) (by kernel_rfl!) ?_
          refine kk_all_t (by kernel_rfl!) ?_
          refine wa_cons ?_
          refine wt_bool ?_
          refine wa_cons ?_
          refine wt_plain (by kernel_rfl!) ?_
          refine w_var (lk_past (by kernel_rfl!) lk_put) (by kernel_rfl!) ?_
          refine kk_truth ?_
          refine kk_all_t (by kernel_rfl!) ?_
          refine wa_cons ?_
          refine wt_not ?_
          refine wt_plain (by kernel_rfl!) ?_
          refine w_var lk_put (by kernel_rfl!) ?_
          refine kk_truth ?_
          refine kk_notT ?_
          refine kk_all_t (by kernel_rfl!) ?_
          refine wa_nil ?_
          refine kk_all_f (by kernel_rfl!) ?_
          refine kk_skip (by first | assumption | kernel_rfl!) ?_
          refine wq_nil ?_
        refine ⟨rfl, ?_⟩
        first | exact h | exact ⟨by rw [e, hu]; rfl, by simp only [lookup_putV', ofString_beq, String.reduceBEq, Bool.false_eq_true, if_false]; rw [v, hu]; rfl⟩
      · with_reducible
          refine wq_cons ?_
          refine wx_if ?_
          refine wt_bool ?_
          refine wa_cons ?_
          refine wt_eqs (lk_past (by kernel_rfl!) (lk_past (by kernel_rfl!) (by assumption))) (by kernel_rfl!) (by kernel_rfl!) (by kernel_rfl!) ?_
          refine kk_all_f (by kernel_rfl!) ?_
          refine kk_skipn (by first | assumption | kernel_rfl!) ?_
          refine wx_if ?_
          refine wt_bool ?_
          refine wa_cons ?_
          refine wt_eqs (lk_past (by kernel_rfl!) (lk_past (by kernel_rfl!) (by assumption))) (by kernel_rfl!) (by kernel_rfl!) (by kernel_rfl!) ?_
          refine kk_all_t (by kernel_rfl!) ?_
          refine wa_cons ?_
          refine wt_bool ?_
          refine wa_cons ?_
          refine wt_plain (by kernel_rfl!) ?_
          refine w_var (lk_past (by kernel_rfl!) lk_put) (by kernel_rfl!) ?_
          refine kk_truth ?_
          refine kk_all_f (by kernel_rfl!) ?_
          refine kk_all_t (by kernel_rfl!) ?_
          refine wa_nil ?_
          refine kk_ifx_t (by first | assumption | kernel_rfl!) ?_
          refine wq_ret ?_
          refine w_var lk_put (by kernel_rfl!) ?_
          refine kk_ret ?_
          refine kk_seq_r ?_
          refine kk_seq_r ?_
          refine kk_seq_r ?_
          refine kk_run_r ?_
        first | exact h | exact ⟨by rw [e, hu]; rfl, by simp only [lookup_putV', ofString_beq, String.reduceBEq, Bool.false_eq_true, if_false]; rw [v, hu]; rfl⟩
      · with_reducible
          refine wq_cons ?_
          refine wx_if ?_
          refine wt_bool ?_
          refine wa_cons ?_
          refine wt_eqs (lk_past (by kernel_rfl!) (lk_past (by kernel_rfl!) (by assumption))) (by kernel_rfl!) (by kernel_rfl!) (by kernel_rfl!) ?_
          refine kk_all_f (by kernel_rfl!) ?_
          refine kk_skipn (by first | assumption | kernel_rfl!) ?_
          refine wx_if ?_
          refine wt_bool ?_
          refine wa_cons ?_
          refine wt_eqs (lk_past (by kernel_rfl!) (lk_past (by kernel_rfl!) (by assumption))) (by kernel_rfl!) (by kernel_rfl!) (by kernel_rfl!) ?_
          refine kk_all_t (by kernel_rfl!) ?_
          refine wa_cons ?_
          refine wt_bool ?_
          refine wa_cons ?_
          refine wt_plain (by kernel_rfl!) ?_
          refine w_var (lk_past (by kernel_rfl!) lk_put) (by kernel_rfl!) ?_
          refine kk_truth ?_
          refine kk_all_f (by kernel_rfl!) ?_
          refine kk_all_t (by kernel_rfl!) ?_
          refine wa_nil ?_
          refine kk_ifx_t (by first | assumption | kernel_rfl!) ?_
          refine wq_ret ?_
          refine w_var lk_put (by kernel_rfl!) ?_
          refine kk_ret ?_
          refine kk_seq_r ?_
          refine kk_seq_r ?_
          refine kk_seq_r ?_
          refine kk_run_r ?_
        first | exact h | exact ⟨by rw [e, hu]; rfl, by simp only [lookup_putV', ofString_beq, String.reduceBEq, Bool.false_eq_true, if_false]; rw [v, hu]; rfl⟩
    · rintro fs' gs' fr σ' ⟨rfl, e, v⟩ hz
      rw [hu] at v
      simp only [if_true, Bool.false_eq_true, if_false, sD] at v
      rw [e, hu] at h
      have e2 : untV u' fs' gs' = !u' := by
        rcases hz with rfl | rfl
        · rfl
        · cases fs' <;> rfl
      rw [← hu, e2, hu] at h
      with_reducible
        refine kk_seq_n ?_
        refine wq_ret ?_
        refine w_cmp (by kernel_rfl!) ?_
        refine w_var (by assumption) (by kernel_rfl!) ?_
        refine kk_cmp ?_
        refine w_eqs (by kernel_rfl!) (by kernel_rfl!) ?_
        refine kk_bool ?_
        refine kk_ret1 ?_
      exact h
  · simp only [if_true, Bool.false_eq_true, if_false]
    obtain ⟨b, hb⟩ : ∃ b, b = bodyOf 327 := ⟨_, rfl⟩
    obtain ⟨s, hs⟩ : ∃ b, b = scOf 327 := ⟨_, rfl⟩
    obtain ⟨p, hp⟩ : ∃ b, b = psOf 327 := ⟨_, rfl⟩
    have hf := fn_of 327 (by kernel_rfl)
    rw [← hb, ← hs, ← hp] at hf
    conv at hb => rhs; whnf
    conv at hs => rhs; whnf
    conv at hp => rhs; whnf
    subst hb hs hp
    simp only [List.map_cons, List.map_nil] at hf
    refine w_run hf (by kernel_rfl) ?_
    clear hf
    simp only [List.zip_cons_cons, List.zip_nil_right]
    refine wq_cons ?_
    refine wx_zip (by kernel_rfl!) ?_
    with_reducible
      refine w_glob glob_zip (by kernel_rfl!) ?_
    refine ⟨rfl, ?_⟩
    with_reducible
      refine w_var (lk_at 1 (by kernel_rfl!) (by with_unfolding_all rfl)) (by kernel_rfl!) ?_
      refine w_var (lk_at 2 (by kernel_rfl!) (by with_unfolding_all rfl)) (by kernel_rfl!) ?_
    dsimp only
    refine ⟨_, _, rfl, rfl, Nat.lt_of_le_of_lt (pairUp_len fs gs) (by lia), ?_⟩
    refine wz_inv (fun fs' gs' fr σ' => σ' = σ ∧ untV u' fs gs = untV u' fs' gs' ∧ fr.lookup (Str.ofString "op") = some (.d (if u' then sD "until" else sD "releases"))) ?_ ?_ fs gs _ _ ⟨rfl, rfl, by rw [hu]; kernel_rfl!⟩
    · rintro a r b t fr σ' ⟨rfl, e, v⟩
      rw [hu] at v e
      simp only [if_true, Bool.false_eq_true, if_false, sD] at v
      rw [← hu] at e
      rw [e, hu] at h
      cases a <;> cases b
      · with_reducible
          refine wq_cons ?_
          refine wx_if ?_
          refine wt_bool ?_
          refine wa_cons ?_
          refine wt_eqs (lk_past (by kernel_rfl!) (lk_past (by kernel_rfl!) (by assumption))) (by kernel_rfl!) (by kernel_rfl!) (by kernel_rfl!) ?_
          refine kk_all_t (by kernel_rfl!) ?_
          refine wa_cons ?_
          refine wt_bool ?_
          refine wa_cons ?_
          refine wt_plain (by kernel_rfl!) ?_
          refine w_var lk_put (by kernel_rfl!) ?_
          refine kk_truth ?_
          refine kk_all_t (by kernel_rfl!) ?_
          refine wa_cons ?_
          refine wt_not ?_
          refine wt_plain (by kernel_rfl!) ?_
          refine w_var (lk_past (by kernel_rfl!) lk_put) (by kernel_rfl!) ?_
          refine kk_truth ?_
          refine kk_notT ?_
          refine kk_all_f (by kernel_rfl!) ?_
          refine kk_all_t (by kernel_rfl!) ?_
          refine wa_nil ?_
          refine kk_ifx_t (by first | assumption | kernel_rfl!) ?_
          refine wq_ret ?_
          refine w_var lk_put (by kernel_rfl!) ?_
          refine kk_ret ?_
          refine kk_seq_r ?_
          refine kk_seq_r ?_
          refine kk_seq_r ?_
          refine kk_run_r ?_
        first | exact h | exact ⟨by rw [e, hu]; rfl, by simp only [lookup_putV', ofString_beq, String.reduceBEq, Bool.false_eq_true, if_false]; rw [v, hu]; rfl⟩
      · with_reducible
          refine wq_cons ?_
          refine wx_if ?_
          refine wt_bool ?_
          refine wa_cons ?_
          refine wt_eqs (lk_past (by kernel_rfl!) (lk_past (by kernel_rfl!) (by assumption))) (by kernel_rfl!) (by kernel_rfl!) (by kernel_rfl!) ?_
          refine kk_all_t (by kernel_rfl!) ?_
          refine wa_cons ?_
          refine wt_bool ?_
          refine wa_cons ?_
          refine wt_plain (by kernel_rfl!) ?_
          refine w_var lk_put (by kernel_rfl!) ?_
          refine kk_truth ?_
          refine kk_all_f (by kernel_rfl!) ?_
          refine kk_all_t (by kernel_rfl!) ?_
          refine wa_nil ?_
          refine kk_ifx_t (by first | assumption | kernel_rfl!) ?_
          refine wq_ret ?_
          refine w_var lk_put (by kernel_rfl!) ?_
          refine kk_ret ?_
          refine kk_seq_r ?_
          refine kk_seq_r ?_
          refine kk_seq_r ?_
          refine kk_run_r ?_
        first | exact h | exact ⟨by rw [e, hu]; rfl, by simp only [lookup_putV', ofString_beq, String.reduceBEq, Bool.false_eq_true, if_false]; rw [v, hu]; rfl⟩
      · with_reducible
          refine wq_cons ?_
          refine wx_if ?_
          refine wt_bool ?_
          refine wa_cons ?_
          refine wt_eqs (lk_past (by kernel_rfl!) (lk_past (by kernel_rfl!) (by assumption))) (by kernel_rfl!) (by kernel_rfl!) (by kernel_rfl!) ?_
          refine kk_all_t (by kernel_rfl!) ?_
          refine wa_cons ?_
          refine wt_bool ?_
          refine wa_cons ?_
          refine wt_plain (by kernel_rfl!) ?_
          refine w_var lk_put (by kernel_rfl!) ?_
          refine kk_truth ?_
          refine kk_all_t (by kernel_rfl!) ?_
          refine wa_cons ?_
          refine wt_not ?_
          refine wt_plain (by kernel_rfl!) ?_
          refine w_var (lk_past (by kernel_rfl!) lk_put) (by kernel_rfl!) ?_
          refine kk_truth ?_
          refine kk_notT ?_
          refine kk_all_t (by kernel_rfl!) ?_
          refine wa_nil ?_
          refine kk_all_f (by kernel_rfl!) ?_
          refine kk_skipn (by first | assumption | kernel_rfl!) ?_
          refine wx_if ?_
          refine wt_bool ?_
          refine wa_cons ?_
          refine wt_eqs (lk_past (by kernel_rfl!) (lk_past (by kernel_rfl!) (by assumption))) (by kernel_rfl!) (by kernel_rfl!) (by kernel_rfl!) ?_
          refine kk_all_f (by kernel_rfl!) ?_
          refine kk_skip (by first | assumption | kernel_rfl!) ?_
          refine wq_nil ?_
        refine ⟨rfl, ?_⟩
        first | exact h | exact ⟨by rw [e, hu]; rfl, by simp only [lookup_putV', ofString_beq, String.reduceBEq, Bool.false_eq_true, if_false]; rw [v, hu]; rfl⟩
      · with_reducible
          refine wq_cons ?_
          refine wx_if ?_
          refine wt_bool ?_
          refine wa_cons ?_
          refine wt_eqs (lk_past (by kernel_rfl!) (lk_past (by kernel_rfl!) (by assumption))) (by kernel_rfl!) (by kernel_rfl!) (by kernel_rfl!) ?_
          refine kk_all_t (by kernel_rfl!) ?_
          refine wa_cons ?_
          refine wt_bool ?_
          refine wa_cons ?_
          refine wt_plain (by kernel_rfl!) ?_
          refine w_var lk_put (by kernel_rfl!) ?_
          refine kk_truth ?_
          refine kk_all_f (by kernel_rfl!) ?_
          refine kk_all_t (by kernel_rfl!) ?_
          refine wa_nil ?_
          refine kk_ifx_t (by first | assumption | kernel_rfl!) ?_
          refine wq_ret ?_
          refine w_var lk_put (by kernel_rfl!) ?_
          refine kk_ret ?_
          refine kk_seq_r ?_
          refine kk_seq_r ?_
          refine kk_seq_r ?_
          refine kk_run_r ?_
        first | exact h | exact ⟨by rw [e, hu]; rfl, by simp only [lookup_putV', ofString_beq, String.reduceBEq, Bool.false_eq_true, if_false]; rw [v, hu]; rfl⟩
    · rintro fs' gs' fr σ' ⟨rfl, e, v⟩ hz
      rw [hu] at v
      simp only [if_true, Bool.false_eq_true, if_false, sD] at v
      rw [e, hu] at h
      have e2 : untV u' fs' gs' = !u' := by
        rcases hz with rfl | rfl
        · rfl
        · cases fs' <;> rfl
      rw [← hu, e2, hu] at h
      with_reducible
        refine kk_seq_n ?_
        refine wq_ret ?_
        refine w_cmp (by kernel_rfl!) ?_
        refine w_var (by assumption) (by kernel_rfl!) ?_
        refine kk_cmp ?_
        refine w_eqs (by kernel_rfl!) (by kernel_rfl!) ?_
        refine kk_bool ?_
        refine kk_ret1 ?_
      exact h
structure Wst (W : Wd) (S : Nat → Int → Bool) (w s : Nat) (σ : Sto) : Prop where
  w : σ[w]? = some (.dict [(Str.ofString "many", .d (.int W.many)), (Str.ofString "back", .d (.int W.back)), (Str.ofString "sets", .st s)])
  s : σ[s]? = some (.lst ((List.range W.many).map fun k => V.d (.list [.bool (S k 0), .bool (S k 1), .bool (S k 2)])))
theorem Wst.pre {W S w s σ σ'} (h : Wst W S w s σ) (x : Pre σ σ') : Wst W S w s σ' := ⟨x.at h.w, x.at h.s⟩
variable {W : Wd} {S : Nat → Int → Bool} {w s : Nat}
noncomputable def setB (W : Wd) (S : Nat → Int → Bool) (i : Int) (l : Bool) (k : Nat) : Bool := S (if l then W.after k else k) i
theorem after_nxt {k : Nat} (hk : k < W.many) : W.after k = nxtN W.many W.back k := by
  unfold Wd.after nxtN
  split <;> split <;> lia
theorem has_rel {N : Nat} (hN : 20 ≤ N) (ok : W.ok) {σ : Sto} (hs : Wst W S w s σ) {i : Int} (hi : in3 i) {k : Nat} (hk : k < W.many) {Q : V → Sto → Prop} (h : Q (.d (.bool (S k i))) σ) : Mine.W (lvC theTab N 334 [.st w, .d (relD i), .d (.int k)] σ) Q := by
  obtain ⟨n, rfl⟩ : ∃ n', N = n' + 20 := ⟨N - 20, by lia⟩
  have h1 := hs.w
  have h2 := hs.s
  have hm := ok.m
  have h3 : ((List.range W.many).map fun k => V.d (.list [.bool (S k 0), .bool (S k 1), .bool (S k 2)]))[k]? = some (V.d (.list [.bool (S k 0), .bool (S k 1), .bool (S k 2)])) := by rw [List.getElem?_map, List.getElem?_range hk]; rfl
  unfold relD
  obtain ⟨b, hb⟩ : ∃ b, b = bodyOf 334 := ⟨_, rfl⟩
  obtain ⟨s, hs⟩ : ∃ b, b = scOf 334 := ⟨_, rfl⟩
  obtain ⟨p, hp⟩ : ∃ b, b = psOf 334 := ⟨_, rfl⟩
  have hf := fn_of 334 (by kernel_rfl)
  rw [← hb, ← hs, ← hp] at hf
  conv at hb => rhs; whnf
  conv at hs => rhs; whnf
  conv at hp => rhs; whnf
  subst hb hs hp
  simp only [List.map_cons, List.map_nil] at hf
  refine w_run hf (by kernel_rfl) ?_
  clear hf
  simp only [List.zip_cons_cons, List.zip_nil_right]
  with_reducible
    refine wq_cons ?_
    refine wx_if ?_
    refine wt_cmp (by kernel_rfl!) ?_
    refine w_subi (lk_at 1 (by kernel_rfl!) (by with_unfolding_all rfl)) (by kernel_rfl!) ?_
    refine ⟨_, sb_tup_0, ?_⟩
    refine kk_cmp ?_
    refine w_eqs (by kernel_rfl!) (by kernel_rfl!) ?_
    refine kk_skip (by first | assumption | kernel_rfl!) ?_
    refine wq_ret ?_
    refine w_sub (by kernel_rfl!) ?_
    refine w_sub (by kernel_rfl!) ?_
    refine w_subs (lk_at 0 (by kernel_rfl!) (by with_unfolding_all rfl)) (by kernel_rfl!) ?_
    refine ⟨_, sb_dict (by assumption) (lk_at 2 (by kernel_rfl!) (by with_unfolding_all rfl)), ?_⟩
    refine kk_sub ?_
    refine w_var (lk_at 2 (by kernel_rfl!) (by with_unfolding_all rfl)) (by kernel_rfl!) ?_
    refine kk_sub2 ?_
  dsimp only
  refine ⟨_, sb_lst h2 (by lia) h3, ?_⟩
  rcases hi with rfl | rfl | rfl
  · with_reducible
      refine kk_sub ?_
      refine w_subi (lk_at 1 (by kernel_rfl!) (by with_unfolding_all rfl)) (by kernel_rfl!) ?_
      refine ⟨_, sb_tup_1, ?_⟩
      refine kk_sub2 ?_
      refine ⟨_, sb_list_0, ?_⟩
      refine kk_ret1 ?_
    exact h
  · with_reducible
      refine kk_sub ?_
      refine w_subi (lk_at 1 (by kernel_rfl!) (by with_unfolding_all rfl)) (by kernel_rfl!) ?_
      refine ⟨_, sb_tup_1, ?_⟩
      refine kk_sub2 ?_
      refine ⟨_, sb_list_1, ?_⟩
      refine kk_ret1 ?_
    exact h
  · with_reducible
      refine kk_sub ?_
      refine w_subi (lk_at 1 (by kernel_rfl!) (by with_unfolding_all rfl)) (by kernel_rfl!) ?_
      refine ⟨_, sb_tup_1, ?_⟩
      refine kk_sub2 ?_
      refine ⟨_, sb_list_2, ?_⟩
      refine kk_ret1 ?_
    exact h
theorem has_late {N : Nat} (hN : 40 ≤ N) (ok : W.ok) {σ : Sto} (hs : Wst W S w s σ) {i : Int} (hi : in3 i) {k : Nat} (hk : k < W.many) {Q : V → Sto → Prop} (h : Q (.d (.bool (S (W.after k) i))) σ) : Mine.W (lvC theTab N 334 [.st w, .d (.tuple [sD "later", relD i]), .d (.int k)] σ) Q := by
  obtain ⟨n, rfl⟩ : ∃ n', N = n' + 40 := ⟨N - 40, by lia⟩
  have h1 := hs.w
  have hm := ok.m
  have ha := ok.aft k
  have en := after_nxt hk
  unfold sD
  obtain ⟨b, hb⟩ : ∃ b, b = bodyOf 334 := ⟨_, rfl⟩
  obtain ⟨s, hs⟩ : ∃ b, b = scOf 334 := ⟨_, rfl⟩
  obtain ⟨p, hp⟩ : ∃ b, b = psOf 334 := ⟨_, rfl⟩
  have hf := fn_of 334 (by kernel_rfl)
  rw [← hb, ← hs, ← hp] at hf
  conv at hb => rhs; whnf
  conv at hs => rhs; whnf
  conv at hp => rhs; whnf
  subst hb hs hp
  simp only [List.map_cons, List.map_nil] at hf
  refine w_run hf (by kernel_rfl) ?_
  clear hf
  simp only [List.zip_cons_cons, List.zip_nil_right]
  with_reducible
    refine wq_cons ?_
    refine wx_if ?_
    refine wt_cmp (by kernel_rfl!) ?_
    refine w_subi (lk_at 1 (by kernel_rfl!) (by with_unfolding_all rfl)) (by kernel_rfl!) ?_
    refine ⟨_, sb_tup_0, ?_⟩
    refine kk_cmp ?_
    refine w_eqs (by kernel_rfl!) (by kernel_rfl!) ?_
    refine kk_ifx_t (by first | assumption | kernel_rfl!) ?_
    refine wq_ret ?_
    refine w_glb (by kernel_rfl!) glob__law_has (by kernel_rfl!) ?_
    refine ws_var (lk_at 0 (by kernel_rfl!) (by with_unfolding_all rfl)) (by kernel_rfl!) ?_
    refine ws_cons (by kernel_rfl!) ?_
    refine w_subi (lk_at 1 (by kernel_rfl!) (by with_unfolding_all rfl)) (by kernel_rfl!) ?_
    refine ⟨_, sb_tup_1, ?_⟩
    refine kk_more (by kernel_rfl!) ?_
    refine w_if ?_
    refine wt_var (by kernel_rfl!) (lk_at 2 (by kernel_rfl!) (by with_unfolding_all rfl)) (by kernel_rfl!) ?_
    refine w_bin ?_
    refine w_subs (lk_at 0 (by kernel_rfl!) (by with_unfolding_all rfl)) (by kernel_rfl!) ?_
    refine ⟨_, sb_dict (by assumption) (lk_at 0 (by kernel_rfl!) (by with_unfolding_all rfl)), ?_⟩
    refine kk_bin ?_
    refine w_int ?_
    refine kk_bin2 ?_
    refine p_sub ?_
    refine kk_cmp2 ?_
    refine p_eq ?_
    refine kk_if ?_
  dsimp only
  refine w_if_d (fun hd => ?_) (fun hd => ?_)
  · have e : W.after k = W.back := by rw [en]; unfold nxtN; rw [if_pos (by lia)]
    rw [e] at h ha
    with_reducible
      refine w_subs (lk_at 0 (by kernel_rfl!) (by with_unfolding_all rfl)) (by kernel_rfl!) ?_
      refine ⟨_, sb_dict (by assumption) (lk_at 1 (by kernel_rfl!) (by with_unfolding_all rfl)), ?_⟩
      refine kk_end3 ?_
      refine kk_call2 ?_
    dsimp only
    refine cv_fun noinit_334 isfn_334 (has_rel (by lia) ok hs hi ha ?_)
    with_reducible
      refine kk_ret2 ?_
    exact h
  · have e : W.after k = k + 1 := by rw [en]; unfold nxtN; rw [if_neg (by lia)]
    rw [e] at h ha
    with_reducible
      refine w_bin ?_
      refine w_var (lk_at 2 (by kernel_rfl!) (by with_unfolding_all rfl)) (by kernel_rfl!) ?_
      refine kk_bin ?_
      refine w_int ?_
      refine kk_bin2 ?_
      refine p_add ?_
      refine kk_end3 ?_
      refine kk_call2 ?_
    refine cv_fun noinit_334 isfn_334 (has_rel (k := k + 1) (by lia) ok hs hi ha ?_)
    with_reducible
      refine kk_ret2 ?_
    exact h
theorem has_run {N : Nat} (hN : 40 ≤ N) (ok : W.ok) {σ : Sto} (hs : Wst W S w s σ) {i : Int} (hi : in3 i) (l : Bool) {k : Nat} (hk : k < W.many) {Q : V → Sto → Prop} (h : Q (.d (.bool (setB W S i l k))) σ) : Mine.W (lvC theTab N 334 [.st w, .d (setD i l), .d (.int k)] σ) Q := by
  cases l with
  | false => exact has_rel (by lia) ok hs hi hk h
  | true => exact has_late hN ok hs hi hk h
noncomputable def Holds (W : Wd) (S : Nat → Int → Bool) (w s : Nat) (nd : PyData) (b : Nat → Bool) (N : Nat) : Prop := ∀ (n : Nat) (σ : Sto) (k : Nat) (Q : V → Sto → Prop), N ≤ n → Wst W S w s σ → k < W.many → (∀ σ', Pre σ σ' → Q (.d (.bool (b k))) σ') → Mine.W (lvC theTab n 339 [.st w, .d nd, .d (.int k)] σ) Q
theorem holds_atom (ok : W.ok) (no : Bool) {i : Int} (hi : in3 i) (l : Bool) : Holds W S w s (.tuple [if no then sD "no" else sD "some", setD i l]) (fun k => setB W S i l k == !no) 80 := by
  intro n σ k Q hN hs hk h
  obtain ⟨n, rfl⟩ : ∃ n', n = n' + 80 := ⟨n - 80, by lia⟩
  unfold sD
  cases no
  all_goals
    simp only [if_true, Bool.false_eq_true, if_false]
    obtain ⟨b, hb⟩ : ∃ b, b = bodyOf 339 := ⟨_, rfl⟩
    obtain ⟨s, hs⟩ : ∃ b, b = scOf 339 := ⟨_, rfl⟩
    obtain ⟨p, hp⟩ : ∃ b, b = psOf 339 := ⟨_, rfl⟩
    have hf := fn_of 339 (by kernel_rfl)
    rw [← hb, ← hs, ← hp] at hf
    conv at hb => rhs; whnf
    conv at hs => rhs; whnf
    conv at hp => rhs; whnf
    subst hb hs hp
    simp only [List.map_cons, List.map_nil] at hf
    refine w_run hf (by kernel_rfl) ?_
    clear hf
    simp only [List.zip_cons_cons, List.zip_nil_right]
    with_reducible
      refine wq_cons ?_
      refine wx_asg (by kernel_rfl!) ?_
      refine wv_plain (by kernel_rfl!) ?_
      refine w_subi (lk_at 1 (by kernel_rfl!) (by with_unfolding_all rfl)) (by kernel_rfl!) ?_
      refine ⟨_, sb_tup_0, ?_⟩
      refine kk_asg ?_
      refine kk_next ?_
      refine wx_if ?_
      refine wt_var (by kernel_rfl!) (lk_at 3 (by kernel_rfl!) (by with_unfolding_all rfl)) (by kernel_rfl!) ?_
      refine w_strs2 ?_
      refine kk_cmp2 ?_
      refine p_in_tup (by kernel_rfl!) ?_
      refine kk_ifx_t (by first | assumption | kernel_rfl!) ?_
      refine wq_ret ?_
      refine w_cmp (by kernel_rfl!) ?_
      refine w_glb (by kernel_rfl!) glob__law_has (by kernel_rfl!) ?_
      refine ws_var (lk_at 0 (by kernel_rfl!) (by with_unfolding_all rfl)) (by kernel_rfl!) ?_
      refine ws_cons (by kernel_rfl!) ?_
      refine w_subi (lk_at 1 (by kernel_rfl!) (by with_unfolding_all rfl)) (by kernel_rfl!) ?_
      refine ⟨_, sb_tup_1, ?_⟩
      refine kk_cons ?_
      refine ws_var3 (lk_at 2 (by kernel_rfl!) (by with_unfolding_all rfl)) (by kernel_rfl!) ?_
      refine kk_call2 ?_
    dsimp only
    refine cv_fun noinit_334 isfn_334 (has_run (by lia) ok hs hi l hk ?_)
    with_reducible
      refine kk_cmp ?_
      refine w_cmp (by kernel_rfl!) ?_
      refine w_var (lk_at 3 (by kernel_rfl!) (by with_unfolding_all rfl)) (by kernel_rfl!) ?_
      refine kk_cmp ?_
      refine w_eqs (by kernel_rfl!) (by kernel_rfl!) ?_
      refine kk_bool ?_
      refine kk_cmp2 ?_
      refine p_eq_bool ?_
      refine kk_bool ?_
      refine kk_ret2 ?_
    exact h σ .refl
theorem holds_in (ok : W.ok) {i j : Int} (hi : in3 i) (hj : in3 j) (l m : Bool) : Holds W S w s (.tuple [sD "in", setD i l, setD j m]) (fun k => !setB W S i l k || setB W S j m k) 80 := by
  intro n σ k Q hN hs hk h
  obtain ⟨n, rfl⟩ : ∃ n', n = n' + 80 := ⟨n - 80, by lia⟩
  unfold sD
  obtain ⟨b, hb⟩ : ∃ b, b = bodyOf 339 := ⟨_, rfl⟩
  obtain ⟨s, hs⟩ : ∃ b, b = scOf 339 := ⟨_, rfl⟩
  obtain ⟨p, hp⟩ : ∃ b, b = psOf 339 := ⟨_, rfl⟩
  have hf := fn_of 339 (by kernel_rfl)
  rw [← hb, ← hs, ← hp] at hf
  conv at hb => rhs; whnf
  conv at hs => rhs; whnf
  conv at hp => rhs; whnf
  subst hb hs hp
  simp only [List.map_cons, List.map_nil] at hf
  refine w_run hf (by kernel_rfl) ?_
  clear hf
  simp only [List.zip_cons_cons, List.zip_nil_right]
  with_reducible
    refine wq_cons ?_
    refine wx_asg (by kernel_rfl!) ?_
    refine wv_plain (by kernel_rfl!) ?_
    refine w_subi (lk_at 1 (by kernel_rfl!) (by with_unfolding_all rfl)) (by kernel_rfl!) ?_
    refine ⟨_, sb_tup_0, ?_⟩
    refine kk_asg ?_
    refine kk_next ?_
    refine wx_if ?_
    refine wt_var (by kernel_rfl!) (lk_at 3 (by kernel_rfl!) (by with_unfolding_all rfl)) (by kernel_rfl!) ?_
    refine w_strs2 ?_
    refine kk_cmp2 ?_
    refine p_in_tup (by kernel_rfl!) ?_
    refine kk_skip (by first | assumption | kernel_rfl!) ?_
    refine wi_eqs (lk_at 3 (by kernel_rfl!) (by with_unfolding_all rfl)) (by kernel_rfl!) (by kernel_rfl!) (by kernel_rfl!) ?_
    refine kk_ifx_t (by first | assumption | kernel_rfl!) ?_
    refine wq_ret ?_
    refine w_or ?_
    refine w_not ?_
    refine w_glb (by kernel_rfl!) glob__law_has (by kernel_rfl!) ?_
    refine ws_var (lk_at 0 (by kernel_rfl!) (by with_unfolding_all rfl)) (by kernel_rfl!) ?_
    refine ws_cons (by kernel_rfl!) ?_
    refine w_subi (lk_at 1 (by kernel_rfl!) (by with_unfolding_all rfl)) (by kernel_rfl!) ?_
    refine ⟨_, sb_tup_1, ?_⟩
    refine kk_cons ?_
    refine ws_var3 (lk_at 2 (by kernel_rfl!) (by with_unfolding_all rfl)) (by kernel_rfl!) ?_
    refine kk_call2 ?_
  dsimp only
  refine cv_fun noinit_334 isfn_334 (has_run (by lia) ok hs hi l hk ?_)
  have h : Q (.d (.bool (!setB W S i l k || setB W S j m k))) σ := h σ .refl
  cases hb : setB W S i l k
  all_goals rw [hb] at h
  · with_reducible
      refine kk_not ?_
      refine kk_or_t (by kernel_rfl!) ?_
      refine kk_ret2 ?_
    exact h
  · with_reducible
      refine kk_not ?_
      refine kk_or_f (by kernel_rfl!) ?_
      refine w_glb (by kernel_rfl!) glob__law_has (by kernel_rfl!) ?_
      refine ws_var (lk_at 0 (by kernel_rfl!) (by with_unfolding_all rfl)) (by kernel_rfl!) ?_
      refine ws_cons (by kernel_rfl!) ?_
      refine w_subi (lk_at 1 (by kernel_rfl!) (by with_unfolding_all rfl)) (by kernel_rfl!) ?_
      refine ⟨_, sb_tup_2, ?_⟩
      refine kk_cons ?_
      refine ws_var3 (lk_at 2 (by kernel_rfl!) (by with_unfolding_all rfl)) (by kernel_rfl!) ?_
      refine kk_call2 ?_
    dsimp only
    refine cv_fun noinit_334 isfn_334 (has_run (by lia) ok hs hj m hk ?_)
    with_reducible
      refine kk_ret2 ?_
    exact h
theorem holds_not {nd b N} (hf : Holds W S w s nd b N) : Holds W S w s (.tuple [sD "not", nd]) (fun k => !b k) (N + 60) := by
  intro n σ k Q hN hs hk h
  obtain ⟨n, rfl⟩ : ∃ n', n = n' + 60 := ⟨n - 60, by lia⟩
  unfold sD
  obtain ⟨b, hb⟩ : ∃ b, b = bodyOf 339 := ⟨_, rfl⟩
  obtain ⟨s, hs⟩ : ∃ b, b = scOf 339 := ⟨_, rfl⟩
  obtain ⟨p, hp⟩ : ∃ b, b = psOf 339 := ⟨_, rfl⟩
  have hf := fn_of 339 (by kernel_rfl)
  rw [← hb, ← hs, ← hp] at hf
  conv at hb => rhs; whnf
  conv at hs => rhs; whnf
  conv at hp => rhs; whnf
  subst hb hs hp
  simp only [List.map_cons, List.map_nil] at hf
  refine w_run hf (by kernel_rfl) ?_
  clear hf
  simp only [List.zip_cons_cons, List.zip_nil_right]
  with_reducible
    refine wq_cons ?_
    refine wx_asg (by kernel_rfl!) ?_
    refine wv_plain (by kernel_rfl!) ?_
    refine w_subi (lk_at 1 (by kernel_rfl!) (by with_unfolding_all rfl)) (by kernel_rfl!) ?_
    refine ⟨_, sb_tup_0, ?_⟩
    refine kk_asg ?_
    refine kk_next ?_
    refine wx_if ?_
    refine wt_var (by kernel_rfl!) (lk_at 3 (by kernel_rfl!) (by with_unfolding_all rfl)) (by kernel_rfl!) ?_
    refine w_strs2 ?_
    refine kk_cmp2 ?_
    refine p_in_tup (by kernel_rfl!) ?_
    refine kk_skip (by first | assumption | kernel_rfl!) ?_
    refine wi_eqs (lk_at 3 (by kernel_rfl!) (by with_unfolding_all rfl)) (by kernel_rfl!) (by kernel_rfl!) (by kernel_rfl!) ?_
    refine kk_skip (by first | assumption | kernel_rfl!) ?_
    refine wi_eqs (lk_at 3 (by kernel_rfl!) (by with_unfolding_all rfl)) (by kernel_rfl!) (by kernel_rfl!) (by kernel_rfl!) ?_
    refine kk_ifx_t (by first | assumption | kernel_rfl!) ?_
    refine wq_ret ?_
    refine w_not ?_
    refine w_glb (by kernel_rfl!) glob__law_holds (by kernel_rfl!) ?_
    refine ws_var (lk_at 0 (by kernel_rfl!) (by with_unfolding_all rfl)) (by kernel_rfl!) ?_
    refine ws_cons (by kernel_rfl!) ?_
    refine w_subi (lk_at 1 (by kernel_rfl!) (by with_unfolding_all rfl)) (by kernel_rfl!) ?_
    refine ⟨_, sb_tup_1, ?_⟩
    refine kk_cons ?_
    refine ws_var3 (lk_at 2 (by kernel_rfl!) (by with_unfolding_all rfl)) (by kernel_rfl!) ?_
    refine kk_call2 ?_
  dsimp only
  refine cv_fun noinit_339 isfn_339 (hf _ _ _ _ (by lia) hs hk fun σ' x => ?_)
  with_reducible
    refine kk_not ?_
    refine kk_ret2 ?_
  exact h σ' x
theorem holds_aft (ok : W.ok) {nd b N} (hf : Holds W S w s nd b N) : Holds W S w s (.tuple [sD "after", nd]) (fun k => b (W.after k)) (N + 60) := by
  intro n σ k Q hN hs hk h
  obtain ⟨n, rfl⟩ : ∃ n', n = n' + 60 := ⟨n - 60, by lia⟩
  have h1 := hs.w
  have hm := ok.m
  have ha := ok.aft k
  have en := after_nxt hk
  unfold sD
  obtain ⟨b, hb⟩ : ∃ b, b = bodyOf 339 := ⟨_, rfl⟩
  obtain ⟨s, hs⟩ : ∃ b, b = scOf 339 := ⟨_, rfl⟩
  obtain ⟨p, hp⟩ : ∃ b, b = psOf 339 := ⟨_, rfl⟩
  have hf := fn_of 339 (by kernel_rfl)
  rw [← hb, ← hs, ← hp] at hf
  conv at hb => rhs; whnf
  conv at hs => rhs; whnf
  conv at hp => rhs; whnf
  subst hb hs hp
  simp only [List.map_cons, List.map_nil] at hf
  refine w_run hf (by kernel_rfl) ?_
  clear hf
  simp only [List.zip_cons_cons, List.zip_nil_right]
  with_reducible
    refine wq_cons ?_
    refine wx_asg (by kernel_rfl!) ?_
    refine wv_plain (by kernel_rfl!) ?_
    refine w_subi (lk_at 1 (by kernel_rfl!) (by with_unfolding_all rfl)) (by kernel_rfl!) ?_
    refine ⟨_, sb_tup_0, ?_⟩
    refine kk_asg ?_
    refine kk_next ?_
    refine wx_if ?_
    refine wt_var (by kernel_rfl!) (lk_at 3 (by kernel_rfl!) (by with_unfolding_all rfl)) (by kernel_rfl!) ?_
    refine w_strs2 ?_
    refine kk_cmp2 ?_
    refine p_in_tup (by kernel_rfl!) ?_
    refine kk_skip (by first | assumption | kernel_rfl!) ?_
    refine wi_eqs (lk_at 3 (by kernel_rfl!) (by with_unfolding_all rfl)) (by kernel_rfl!) (by kernel_rfl!) (by kernel_rfl!) ?_
    refine kk_skip (by first | assumption | kernel_rfl!) ?_
    refine wi_eqs (lk_at 3 (by kernel_rfl!) (by with_unfolding_all rfl)) (by kernel_rfl!) (by kernel_rfl!) (by kernel_rfl!) ?_
    refine kk_skipn (by first | assumption | kernel_rfl!) ?_
    refine wx_if ?_
    refine wt_var (by kernel_rfl!) (lk_at 3 (by kernel_rfl!) (by with_unfolding_all rfl)) (by kernel_rfl!) ?_
    refine w_strs2 ?_
    refine kk_cmp2 ?_
    refine p_in_tup (by kernel_rfl!) ?_
    refine kk_skip (by first | assumption | kernel_rfl!) ?_
    refine wi_eqs (lk_at 3 (by kernel_rfl!) (by with_unfolding_all rfl)) (by kernel_rfl!) (by kernel_rfl!) (by kernel_rfl!) ?_
    refine kk_ifx_t (by first | assumption | kernel_rfl!) ?_
    refine wq_ret ?_
    refine w_glb (by kernel_rfl!) glob__law_holds (by kernel_rfl!) ?_
    refine ws_var (lk_at 0 (by kernel_rfl!) (by with_unfolding_all rfl)) (by kernel_rfl!) ?_
    refine ws_cons (by kernel_rfl!) ?_
    refine w_subi (lk_at 1 (by kernel_rfl!) (by with_unfolding_all rfl)) (by kernel_rfl!) ?_
    refine ⟨_, sb_tup_1, ?_⟩
    refine kk_more (by kernel_rfl!) ?_
    refine w_if ?_
    refine wt_var (by kernel_rfl!) (lk_at 2 (by kernel_rfl!) (by with_unfolding_all rfl)) (by kernel_rfl!) ?_
    refine w_bin ?_
    refine w_subs (lk_at 0 (by kernel_rfl!) (by with_unfolding_all rfl)) (by kernel_rfl!) ?_
    refine ⟨_, sb_dict (by assumption) (lk_at 0 (by kernel_rfl!) (by with_unfolding_all rfl)), ?_⟩
    refine kk_bin ?_
    refine w_int ?_
    refine kk_bin2 ?_
    refine p_sub ?_
    refine kk_cmp2 ?_
    refine p_eq ?_
    refine kk_if ?_
  dsimp only
  refine w_if_d (fun hd => ?_) (fun hd => ?_)
  · have e : W.after k = W.back := by rw [en]; unfold nxtN; rw [if_pos (by lia)]
    rw [e] at ha
    with_reducible
      refine w_subs (lk_at 0 (by kernel_rfl!) (by with_unfolding_all rfl)) (by kernel_rfl!) ?_
      refine ⟨_, sb_dict (by assumption) (lk_at 1 (by kernel_rfl!) (by with_unfolding_all rfl)), ?_⟩
      refine kk_end3 ?_
      refine kk_call2 ?_
    dsimp only
    refine cv_fun noinit_339 isfn_339 (hf _ _ _ _ (by lia) hs ha fun σ' x => ?_)
    have h : Q (.d (.bool (b (W.after k)))) σ' := h σ' x
    rw [e] at h
    with_reducible
      refine kk_ret2 ?_
    exact h
  · have e : W.after k = k + 1 := by rw [en]; unfold nxtN; rw [if_neg (by lia)]
    rw [e] at ha
    with_reducible
      refine w_bin ?_
      refine w_var (lk_at 2 (by kernel_rfl!) (by with_unfolding_all rfl)) (by kernel_rfl!) ?_
      refine kk_bin ?_
      refine w_int ?_
      refine kk_bin2 ?_
      refine p_add ?_
      refine kk_end3 ?_
      refine kk_call2 ?_
    refine cv_fun noinit_339 isfn_339 (hf _ _ (k + 1) _ (by lia) hs ha fun σ' x => ?_)
    have h : Q (.d (.bool (b (W.after k)))) σ' := h σ' x
    rw [e] at h
    with_reducible
      refine kk_ret2 ?_
    exact h
end Mine
set_option maxHeartbeats 1000000
namespace Mine
open PySem
variable {W : Wd} {S : Nat → Int → Bool} {w s : Nat}
theorem shaped_bools (l : List Bool) : shapedD (.list (boolsD l)) = true := by
  have h : PyData.canLayAll0 (boolsD l) = true ∧ PyData.depthAll (boolsD l) = 0 := by
    induction l with
    | nil => exact ⟨rfl, rfl⟩
    | cons a r ih => exact ⟨by show (true && PyData.canLayAll0 (boolsD r)) = true; rw [ih.1]; rfl, by show max 0 (PyData.depthAll (boolsD r)) = 0; rw [ih.2]; rfl⟩
  unfold shapedD PySem.SeqAt.shaped
  rw [PyData.canLay0, PyData.depth, h.1, h.2]
  rfl
theorem any_bools (l : List Bool) (b : Bool) : (boolsD l).any (fun y => PyData.eqv y (.bool b)) = l.contains b := by
  induction l with
  | nil => rfl
  | cons a r ih =>
    show (PyData.eqv (.bool a) (.bool b) || (boolsD r).any _) = _
    rw [ih, List.contains_cons, eqv_bool]
    congr 1
    cases a <;> cases b <;> rfl
theorem holds_bin (or : Bool) {nd b N nd' b' N'} (hf : Holds W S w s nd b N) (hg : Holds W S w s nd' b' N') : Holds W S w s (.tuple [if or then sD "or" else sD "and", .tuple [nd, nd']]) (fun k => if or then b k || b' k else b k && b' k) (max N N' + 60) := by
  intro n σ k Q hN hs hk h
  obtain ⟨n, rfl⟩ : ∃ n', n = n' + 60 := ⟨n - 60, by lia⟩
  unfold sD
  cases or
  · simp only [if_true, Bool.false_eq_true, if_false] at h ⊢
    obtain ⟨b, hb⟩ : ∃ b, b = bodyOf 339 := ⟨_, rfl⟩
    obtain ⟨s, hs⟩ : ∃ b, b = scOf 339 := ⟨_, rfl⟩
    obtain ⟨p, hp⟩ : ∃ b, b = psOf 339 := ⟨_, rfl⟩
    have hf := fn_of 339 (by kernel_rfl)
    rw [← hb, ← hs, ← hp] at hf
    conv at hb => rhs; whnf
    conv at hs => rhs; whnf
    conv at hp => rhs; whnf
    subst hb hs hp
    simp only [List.map_cons, List.map_nil] at hf
    refine w_run hf (by kernel_rfl) ?_
    clear hf
    simp only [List.zip_cons_cons, List.zip_nil_right]
    with_reducible
      refine wq_cons ?_
      refine wx_asg (by kernel_rfl!) ?_
      refine wv_plain (by kernel_rfl!) ?_
      refine w_subi (lk_at 1 (by kernel_rfl!) (by with_unfolding_all rfl)) (by kernel_rfl!) ?_
      refine ⟨_, sb_tup_0, ?_⟩
      refine kk_asg ?_
      refine kk_next ?_
      refine wx_if ?_
      refine wt_var (by kernel_rfl!) (lk_at 3 (by kernel_rfl!) (by with_unfolding_all rfl)) (by kernel_rfl!) ?_
      refine w_strs2 ?_
      refine kk_cmp2 ?_
      refine p_in_tup (by kernel_rfl!) ?_
      refine kk_skip (by first | assumption | kernel_rfl!) ?_
      refine wi_eqs (lk_at 3 (by kernel_rfl!) (by with_unfolding_all rfl)) (by kernel_rfl!) (by kernel_rfl!) (by kernel_rfl!) ?_
      refine kk_skip (by first | assumption | kernel_rfl!) ?_
      refine wi_eqs (lk_at 3 (by kernel_rfl!) (by with_unfolding_all rfl)) (by kernel_rfl!) (by kernel_rfl!) (by kernel_rfl!) ?_
      refine kk_skipn (by first | assumption | kernel_rfl!) ?_
      refine wx_if ?_
      refine wt_var (by kernel_rfl!) (lk_at 3 (by kernel_rfl!) (by with_unfolding_all rfl)) (by kernel_rfl!) ?_
      refine w_strs2 ?_
      refine kk_cmp2 ?_
      refine p_in_tup (by kernel_rfl!) ?_
      refine kk_ifx_t (by first | assumption | kernel_rfl!) ?_
      refine wq_cons ?_
      refine wx_asg (by kernel_rfl!) ?_
      refine wv_comp (by kernel_rfl!) ?_
      refine w_subi (lk_at 1 (by kernel_rfl!) (by with_unfolding_all rfl)) (by kernel_rfl!) ?_
      refine ⟨_, sb_tup_1, ?_⟩
      refine kk_comp ?_
    dsimp only
    refine wc_one (by kernel_rfl!) walks_tuple (by simp) ?_
    show Mine.W (compL _ [V.d nd, V.d nd'] _ _) _
    with_reducible
      refine wc_cons ?_
      refine wc_turn ?_
      refine wa_nil ?_
      refine kk_turn_t (by kernel_rfl!) ?_
      refine w_glb (by kernel_rfl!) glob__law_holds (by kernel_rfl!) ?_
      refine ws_var (lk_at 0 (by kernel_rfl!) (by with_unfolding_all rfl)) (by kernel_rfl!) ?_
      refine ws_var (lk_at 2 (by kernel_rfl!) (by with_unfolding_all rfl)) (by kernel_rfl!) ?_
      refine ws_var3 (lk_at 1 (by kernel_rfl!) (by with_unfolding_all rfl)) (by kernel_rfl!) ?_
      refine kk_call2 ?_
    dsimp only
    refine cv_fun noinit_339 isfn_339 (hf _ _ _ _ (by lia) hs hk fun σ₁ x₁ => ?_)
    with_reducible
      refine kk_put (by kernel_rfl!) ?_
      refine kk_turns ?_
      refine wc_cons ?_
      refine wc_turn ?_
      refine wa_nil ?_
      refine kk_turn_t (by kernel_rfl!) ?_
      refine w_glb (by kernel_rfl!) glob__law_holds (by kernel_rfl!) ?_
      refine ws_var (lk_at 0 (by kernel_rfl!) (by with_unfolding_all rfl)) (by kernel_rfl!) ?_
      refine ws_var (lk_at 2 (by kernel_rfl!) (by with_unfolding_all rfl)) (by kernel_rfl!) ?_
      refine ws_var3 (lk_at 1 (by kernel_rfl!) (by with_unfolding_all rfl)) (by kernel_rfl!) ?_
      refine kk_call2 ?_
    dsimp only
    refine cv_fun noinit_339 isfn_339 (hg _ _ _ _ (by lia) (hs.pre x₁) hk fun σ₂ x₂ => ?_)
    have h := h σ₂ (x₁.trans x₂)
    cases hb : b k <;> cases hb' : b' k <;> rw [hb, hb'] at h
    · with_reducible
        refine kk_put (by kernel_rfl!) ?_
        refine kk_turns ?_
        refine wc_nil ?_
        refine kk_li ?_
        refine kk_asg ?_
        refine kk_seq_n ?_
        refine wq_ret ?_
        refine w_if ?_
        refine wt_eqs (lk_at 3 (by kernel_rfl!) (by with_unfolding_all rfl)) (by kernel_rfl!) (by kernel_rfl!) (by kernel_rfl!) ?_
        refine kk_if_t (by first | assumption | kernel_rfl!) ?_
        refine w_cmp (by kernel_rfl!) ?_
        refine w_bool ?_
        refine kk_cmp ?_
        refine w_var (lk_at 4 (by kernel_rfl!) (by with_unfolding_all rfl)) (by kernel_rfl!) ?_
        refine kk_cmp2 ?_
      dsimp only
      first | refine p_nin_list (by kernel_rfl!) ?_ | refine p_in_list (by kernel_rfl!) ?_
      with_reducible
        refine kk_bool ?_
        refine kk_ret2 ?_
      exact h
    · with_reducible
        refine kk_put (by kernel_rfl!) ?_
        refine kk_turns ?_
        refine wc_nil ?_
        refine kk_li ?_
        refine kk_asg ?_
        refine kk_seq_n ?_
        refine wq_ret ?_
        refine w_if ?_
        refine wt_eqs (lk_at 3 (by kernel_rfl!) (by with_unfolding_all rfl)) (by kernel_rfl!) (by kernel_rfl!) (by kernel_rfl!) ?_
        refine kk_if_t (by first | assumption | kernel_rfl!) ?_
        refine w_cmp (by kernel_rfl!) ?_
        refine w_bool ?_
        refine kk_cmp ?_
        refine w_var (lk_at 4 (by kernel_rfl!) (by with_unfolding_all rfl)) (by kernel_rfl!) ?_
        refine kk_cmp2 ?_
      dsimp only
      first | refine p_nin_list (by kernel_rfl!) ?_ | refine p_in_list (by kernel_rfl!) ?_
      with_reducible
        refine kk_bool ?_
        refine kk_ret2 ?_
      exact h
    · with_reducible
        refine kk_put (by kernel_rfl!) ?_
        refine kk_turns ?_
        refine wc_nil ?_
        refine kk_li ?_
        refine kk_asg ?_
        refine kk_seq_n ?_
        refine wq_ret ?_
        refine w_if ?_
        refine wt_eqs (lk_at 3 (by kernel_rfl!) (by with_unfolding_all rfl)) (by kernel_rfl!) (by kernel_rfl!) (by kernel_rfl!) ?_
        refine kk_if_t (by first | assumption | kernel_rfl!) ?_
        refine w_cmp (by kernel_rfl!) ?_
        refine w_bool ?_
        refine kk_cmp ?_
        refine w_var (lk_at 4 (by kernel_rfl!) (by with_unfolding_all rfl)) (by kernel_rfl!) ?_
        refine kk_cmp2 ?_
      dsimp only
      first | refine p_nin_list (by kernel_rfl!) ?_ | refine p_in_list (by kernel_rfl!) ?_
      with_reducible
        refine kk_bool ?_
        refine kk_ret2 ?_
      exact h
    · with_reducible
        refine kk_put (by kernel_rfl!) ?_
        refine kk_turns ?_
        refine wc_nil ?_
        refine kk_li ?_
        refine kk_asg ?_
        refine kk_seq_n ?_
        refine wq_ret ?_
        refine w_if ?_
        refine wt_eqs (lk_at 3 (by kernel_rfl!) (by with_unfolding_all rfl)) (by kernel_rfl!) (by kernel_rfl!) (by kernel_rfl!) ?_
        refine kk_if_t (by first | assumption | kernel_rfl!) ?_
        refine w_cmp (by kernel_rfl!) ?_
        refine w_bool ?_
        refine kk_cmp ?_
        refine w_var (lk_at 4 (by kernel_rfl!) (by with_unfolding_all rfl)) (by kernel_rfl!) ?_
        refine kk_cmp2 ?_
      dsimp only
      first | refine p_nin_list (by kernel_rfl!) ?_ | refine p_in_list (by kernel_rfl!) ?_
      with_reducible
        refine kk_bool ?_
        refine kk_ret2 ?_
      exact h
  · simp only [if_true, Bool.false_eq_true, if_false] at h ⊢
    obtain ⟨b, hb⟩ : ∃ b, b = bodyOf 339 := ⟨_, rfl⟩
    obtain ⟨s, hs⟩ : ∃ b, b = scOf 339 := ⟨_, rfl⟩
    obtain ⟨p, hp⟩ : ∃ b, b = psOf 339 := ⟨_, rfl⟩
    have hf := fn_of 339 (by kernel_rfl)
    rw [← hb, ← hs, ← hp] at hf
    conv at hb => rhs; whnf
    conv at hs => rhs; whnf
    conv at hp => rhs; whnf
    subst hb hs hp
    simp only [List.map_cons, List.map_nil] at hf
    refine w_run hf (by kernel_rfl) ?_
    clear hf
    simp only [List.zip_cons_cons, List.zip_nil_right]
    with_reducible
      refine wq_cons ?_
      refine wx_asg (by kernel_rfl!) ?_
      refine wv_plain (by kernel_rfl!) ?_
      refine w_subi (lk_at 1 (by kernel_rfl!) (by with_unfolding_all rfl)) (by kernel_rfl!) ?_
      refine ⟨_, sb_tup_0, ?_⟩
      refine kk_asg ?_
      refine kk_next ?_
      refine wx_if ?_
      refine wt_var (by kernel_rfl!) (lk_at 3 (by kernel_rfl!) (by with_unfolding_all rfl)) (by kernel_rfl!) ?_
      refine w_strs2 ?_
      refine kk_cmp2 ?_
      refine p_in_tup (by kernel_rfl!) ?_
      refine kk_skip (by first | assumption | kernel_rfl!) ?_
      refine wi_eqs (lk_at 3 (by kernel_rfl!) (by with_unfolding_all rfl)) (by kernel_rfl!) (by kernel_rfl!) (by kernel_rfl!) ?_
      refine kk_skip (by first | assumption | kernel_rfl!) ?_
      refine wi_eqs (lk_at 3 (by kernel_rfl!) (by with_unfolding_all rfl)) (by kernel_rfl!) (by kernel_rfl!) (by kernel_rfl!) ?_
      refine kk_skipn (by first | assumption | kernel_rfl!) ?_
      refine wx_if ?_
      refine wt_var (by kernel_rfl!) (lk_at 3 (by kernel_rfl!) (by with_unfolding_all rfl)) (by kernel_rfl!) ?_
      refine w_strs2 ?_
      refine kk_cmp2 ?_
      refine p_in_tup (by kernel_rfl!) ?_
      refine kk_ifx_t (by first | assumption | kernel_rfl!) ?_
      refine wq_cons ?_
      refine wx_asg (by kernel_rfl!) ?_
      refine wv_comp (by kernel_rfl!) ?_
      refine w_subi (lk_at 1 (by kernel_rfl!) (by with_unfolding_all rfl)) (by kernel_rfl!) ?_
      refine ⟨_, sb_tup_1, ?_⟩
      refine kk_comp ?_
    dsimp only
    refine wc_one (by kernel_rfl!) walks_tuple (by simp) ?_
    show Mine.W (compL _ [V.d nd, V.d nd'] _ _) _
    with_reducible
      refine wc_cons ?_
      refine wc_turn ?_
      refine wa_nil ?_
      refine kk_turn_t (by kernel_rfl!) ?_
      refine w_glb (by kernel_rfl!) glob__law_holds (by kernel_rfl!) ?_
      refine ws_var (lk_at 0 (by kernel_rfl!) (by with_unfolding_all rfl)) (by kernel_rfl!) ?_
      refine ws_var (lk_at 2 (by kernel_rfl!) (by with_unfolding_all rfl)) (by kernel_rfl!) ?_
      refine ws_var3 (lk_at 1 (by kernel_rfl!) (by with_unfolding_all rfl)) (by kernel_rfl!) ?_
      refine kk_call2 ?_
    dsimp only
    refine cv_fun noinit_339 isfn_339 (hf _ _ _ _ (by lia) hs hk fun σ₁ x₁ => ?_)
    with_reducible
      refine kk_put (by kernel_rfl!) ?_
      refine kk_turns ?_
      refine wc_cons ?_
      refine wc_turn ?_
      refine wa_nil ?_
      refine kk_turn_t (by kernel_rfl!) ?_
      refine w_glb (by kernel_rfl!) glob__law_holds (by kernel_rfl!) ?_
      refine ws_var (lk_at 0 (by kernel_rfl!) (by with_unfolding_all rfl)) (by kernel_rfl!) ?_
      refine ws_var (lk_at 2 (by kernel_rfl!) (by with_unfolding_all rfl)) (by kernel_rfl!) ?_
      refine ws_var3 (lk_at 1 (by kernel_rfl!) (by with_unfolding_all rfl)) (by kernel_rfl!) ?_
      refine kk_call2 ?_
    dsimp only
    refine cv_fun noinit_339 isfn_339 (hg _ _ _ _ (by lia) (hs.pre x₁) hk fun σ₂ x₂ => ?_)
    have h := h σ₂ (x₁.trans x₂)
    cases hb : b k <;> cases hb' : b' k <;> rw [hb, hb'] at h
    · with_reducible
        refine kk_put (by kernel_rfl!) ?_
        refine kk_turns ?_
        refine wc_nil ?_
        refine kk_li ?_
        refine kk_asg ?_
        refine kk_seq_n ?_
        refine wq_ret ?_
        refine w_if ?_
        refine wt_eqs (lk_at 3 (by kernel_rfl!) (by with_unfolding_all rfl)) (by kernel_rfl!) (by kernel_rfl!) (by kernel_rfl!) ?_
        refine kk_if_f (by first | assumption | kernel_rfl!) ?_
        refine w_cmp (by kernel_rfl!) ?_
        refine w_bool ?_
        refine kk_cmp ?_
        refine w_var (lk_at 4 (by kernel_rfl!) (by with_unfolding_all rfl)) (by kernel_rfl!) ?_
        refine kk_cmp2 ?_
      dsimp only
      first | refine p_nin_list (by kernel_rfl!) ?_ | refine p_in_list (by kernel_rfl!) ?_
      with_reducible
        refine kk_bool ?_
        refine kk_ret2 ?_
      exact h
    · with_reducible
        refine kk_put (by kernel_rfl!) ?_
        refine kk_turns ?_
        refine wc_nil ?_
        refine kk_li ?_
        refine kk_asg ?_
        refine kk_seq_n ?_
        refine wq_ret ?_
        refine w_if ?_
        refine wt_eqs (lk_at 3 (by kernel_rfl!) (by with_unfolding_all rfl)) (by kernel_rfl!) (by kernel_rfl!) (by kernel_rfl!) ?_
        refine kk_if_f (by first | assumption | kernel_rfl!) ?_
        refine w_cmp (by kernel_rfl!) ?_
        refine w_bool ?_
        refine kk_cmp ?_
        refine w_var (lk_at 4 (by kernel_rfl!) (by with_unfolding_all rfl)) (by kernel_rfl!) ?_
        refine kk_cmp2 ?_
      dsimp only
      first | refine p_nin_list (by kernel_rfl!) ?_ | refine p_in_list (by kernel_rfl!) ?_
      with_reducible
        refine kk_bool ?_
        refine kk_ret2 ?_
      exact h
    · with_reducible
        refine kk_put (by kernel_rfl!) ?_
        refine kk_turns ?_
        refine wc_nil ?_
        refine kk_li ?_
        refine kk_asg ?_
        refine kk_seq_n ?_
        refine wq_ret ?_
        refine w_if ?_
        refine wt_eqs (lk_at 3 (by kernel_rfl!) (by with_unfolding_all rfl)) (by kernel_rfl!) (by kernel_rfl!) (by kernel_rfl!) ?_
        refine kk_if_f (by first | assumption | kernel_rfl!) ?_
        refine w_cmp (by kernel_rfl!) ?_
        refine w_bool ?_
        refine kk_cmp ?_
        refine w_var (lk_at 4 (by kernel_rfl!) (by with_unfolding_all rfl)) (by kernel_rfl!) ?_
        refine kk_cmp2 ?_
      dsimp only
      first | refine p_nin_list (by kernel_rfl!) ?_ | refine p_in_list (by kernel_rfl!) ?_
      with_reducible
        refine kk_bool ?_
        refine kk_ret2 ?_
      exact h
    · with_reducible
        refine kk_put (by kernel_rfl!) ?_
        refine kk_turns ?_
        refine wc_nil ?_
        refine kk_li ?_
        refine kk_asg ?_
        refine kk_seq_n ?_
        refine wq_ret ?_
        refine w_if ?_
        refine wt_eqs (lk_at 3 (by kernel_rfl!) (by with_unfolding_all rfl)) (by kernel_rfl!) (by kernel_rfl!) (by kernel_rfl!) ?_
        refine kk_if_f (by first | assumption | kernel_rfl!) ?_
        refine w_cmp (by kernel_rfl!) ?_
        refine w_bool ?_
        refine kk_cmp ?_
        refine w_var (lk_at 4 (by kernel_rfl!) (by with_unfolding_all rfl)) (by kernel_rfl!) ?_
        refine kk_cmp2 ?_
      dsimp only
      first | refine p_nin_list (by kernel_rfl!) ?_ | refine p_in_list (by kernel_rfl!) ?_
      with_reducible
        refine kk_bool ?_
        refine kk_ret2 ?_
      exact h
/-- the walked line's truths -/
theorem holds_line {nd b N} (hf : Holds W S w s nd b N) {n : Nat} (hN : N ≤ n) {sc : Scope} {elt it : Expr} {x : Str} {xp} {fr : Vars} {σ : Sto} (hs : Wst W S w s σ) {a : Nat} {xs : List Nat} (ha : σ[a]? = some (.lst (xs.map fun j : Nat => V.d (.int j)))) (hx : ∀ j ∈ xs, j < W.many) (hl : xs.length ≤ 50)
    (hc : (!canSet sc x || isSetE it || (fr.lookup x).isSome) = false)
    (ht : ∀ (j : Nat) (σ' : Sto) (C : V → Sto → Prop), (Mine.W (lvC theTab n 339 [.st w, .d nd, .d (.int j)] σ') C) → Mine.W (lvE theTab (n + 1) sc (putV fr x (.d (.int j))) elt σ') C)
    {C : List PyData → Sto → Prop} (h : ∀ σ', Pre σ σ' → C (boolsD (xs.map b)) σ') : Mine.W (compAll (level theTab (n + 1)) sc elt [⟨.Name x xp, it, [], 0⟩] fr (.st a) σ []) C := by
  refine wc_oneI (xs := xs.map fun j : Nat => V.d (.int j)) hc (fun r σ' acc => ∃ done rest, xs = done ++ rest ∧ r = rest.map (fun j : Nat => V.d (.int j)) ∧ acc = boolsD (done.map b) ∧ Pre σ σ') ?_ (by rw [List.length_map]; lia) ⟨[], xs, rfl, rfl, rfl, .refl⟩ ?_ ?_
  · rintro r σ' acc i ⟨_, _, _, _, _, x⟩
    exact item_st (x.at ha)
  · rintro y r σ' acc ⟨done, rest, e1, e2, rfl, x'⟩
    cases rest with
    | nil => cases e2
    | cons j rest =>
      cases e2
      refine wc_turn (wa_nil ?_)
      refine kk_turn_t rfl ?_
      refine ht j σ' _ (hf _ _ _ _ (by lia) (hs.pre x') (hx j (by rw [e1]; exact List.mem_append_right _ (.head _))) fun σ₁ x₁ => ?_)
      refine ⟨_, rfl, small_of ?_, done ++ [j], rest, by rw [e1, List.append_assoc]; rfl, rfl, ?_, x'.trans x₁⟩
      · unfold boolsD; rw [List.length_map, List.length_map]; rw [e1, List.length_append] at hl; lia
      · unfold boolsD; rw [List.map_append, List.map_append]; rfl
  · rintro σ' acc ⟨done, rest, e1, e2, rfl, x'⟩
    cases rest with
    | cons j rest => cases e2
    | nil => rw [List.append_nil] at e1; subst e1; exact h σ' x'
theorem holds_glob (ok : W.ok) (ev : Bool) {nd b N} (hf : Holds W S w s nd b N) : Holds W S w s (.tuple [if ev then sD "eventually" else sD "always", nd]) (fun k => if ev then (W.line k).any b else (W.line k).all b) (N + 60) := by
  intro n σ k Q hN hs hk h
  obtain ⟨n, rfl⟩ : ∃ n', n = n' + 60 := ⟨n - 60, by lia⟩
  have h1 := hs.w
  have hl := ok.line hk
  have hm4 : W.many < 4 := by have := ok.m; lia
  have e1 : ∀ l : List Nat, (!(boolsD (l.map b)).any fun y => PyData.eqv y (.bool false)) = l.all b := by
    intro l
    rw [any_bools]
    induction l with
    | nil => rfl
    | cons a r ih => rw [List.map_cons, List.contains_cons, List.all_cons, ← ih]; cases b a <;> rfl
  have e2 : ∀ l : List Nat, ((boolsD (l.map b)).any fun y => PyData.eqv y (.bool true)) = l.any b := by
    intro l
    rw [any_bools]
    induction l with
    | nil => rfl
    | cons a r ih => rw [List.map_cons, List.contains_cons, List.any_cons, ← ih]; cases b a <;> rfl
  have hz := fun c => (by rw [shaped_bools]; rfl : (shapedD (.list (boolsD ((W.line k).map b))) && shapedD (.bool c)) = true)
  unfold sD
  cases ev
  · simp only [if_true, Bool.false_eq_true, if_false] at h ⊢
    obtain ⟨b, hb⟩ : ∃ b, b = bodyOf 339 := ⟨_, rfl⟩
    obtain ⟨s, hs⟩ : ∃ b, b = scOf 339 := ⟨_, rfl⟩
    obtain ⟨p, hp⟩ : ∃ b, b = psOf 339 := ⟨_, rfl⟩
    have hf := fn_of 339 (by kernel_rfl)
    rw [← hb, ← hs, ← hp] at hf
    conv at hb => rhs; whnf
    conv at hs => rhs; whnf
    conv at hp => rhs; whnf
    subst hb hs hp
    simp only [List.map_cons, List.map_nil] at hf
    refine w_run hf (by kernel_rfl) ?_
    clear hf
    simp only [List.zip_cons_cons, List.zip_nil_right]
    with_reducible
      refine wq_cons ?_
      refine wx_asg (by kernel_rfl!) ?_
      refine wv_plain (by kernel_rfl!) ?_
      refine w_subi (lk_at 1 (by kernel_rfl!) (by with_unfolding_all rfl)) (by kernel_rfl!) ?_
      refine ⟨_, sb_tup_0, ?_⟩
      refine kk_asg ?_
      refine kk_next ?_
      refine wx_if ?_
      refine wt_var (by kernel_rfl!) (lk_at 3 (by kernel_rfl!) (by with_unfolding_all rfl)) (by kernel_rfl!) ?_
      refine w_strs2 ?_
      refine kk_cmp2 ?_
      refine p_in_tup (by kernel_rfl!) ?_
      refine kk_skip (by first | assumption | kernel_rfl!) ?_
      refine wi_eqs (lk_at 3 (by kernel_rfl!) (by with_unfolding_all rfl)) (by kernel_rfl!) (by kernel_rfl!) (by kernel_rfl!) ?_
      refine kk_skip (by first | assumption | kernel_rfl!) ?_
      refine wi_eqs (lk_at 3 (by kernel_rfl!) (by with_unfolding_all rfl)) (by kernel_rfl!) (by kernel_rfl!) (by kernel_rfl!) ?_
      refine kk_skipn (by first | assumption | kernel_rfl!) ?_
      refine wx_if ?_
      refine wt_var (by kernel_rfl!) (lk_at 3 (by kernel_rfl!) (by with_unfolding_all rfl)) (by kernel_rfl!) ?_
      refine w_strs2 ?_
      refine kk_cmp2 ?_
      refine p_in_tup (by kernel_rfl!) ?_
      refine kk_skip (by first | assumption | kernel_rfl!) ?_
      refine wi_eqs (lk_at 3 (by kernel_rfl!) (by with_unfolding_all rfl)) (by kernel_rfl!) (by kernel_rfl!) (by kernel_rfl!) ?_
      refine kk_skipn (by first | assumption | kernel_rfl!) ?_
      refine wx_asg (by kernel_rfl!) ?_
      refine wv_plain (by kernel_rfl!) ?_
      refine w_glb (by kernel_rfl!) glob__law_walk (by kernel_rfl!) ?_
      refine ws_var (lk_at 0 (by kernel_rfl!) (by with_unfolding_all rfl)) (by kernel_rfl!) ?_
      refine ws_var2 (lk_at 2 (by kernel_rfl!) (by with_unfolding_all rfl)) (by kernel_rfl!) ?_
      refine kk_call2 ?_
    dsimp only
    refine cv_fun noinit_320 isfn_320 (walk_run (by lia) hm4 ok.b hk h1 (by kernel_rfl!) (by kernel_rfl!) fun σ₁ x₁ ha => ?_)
    with_reducible
      refine kk_asg ?_
      refine kk_next ?_
      refine wx_asg (by kernel_rfl!) ?_
      refine wv_comp (by kernel_rfl!) ?_
      refine w_var (lk_at 4 (by kernel_rfl!) (by with_unfolding_all rfl)) (by kernel_rfl!) ?_
      refine kk_comp ?_
    dsimp only
    refine holds_line (xs := W.line k) hf (by lia) (hs.pre x₁) ha hl.2 (by lia) (by kernel_rfl!) ?_ fun σ₂ x₂ => ?_
    · intro j σ' C hC
      with_reducible
        refine w_glb (by kernel_rfl!) glob__law_holds (by kernel_rfl!) ?_
        refine ws_var (lk_at 0 (by kernel_rfl!) (by with_unfolding_all rfl)) (by kernel_rfl!) ?_
        refine ws_cons (by kernel_rfl!) ?_
        refine w_subi (lk_at 1 (by kernel_rfl!) (by with_unfolding_all rfl)) (by kernel_rfl!) ?_
        refine ⟨_, sb_tup_1, ?_⟩
        refine kk_cons ?_
        refine ws_var3 (lk_at 2 (by kernel_rfl!) (by with_unfolding_all rfl)) (by kernel_rfl!) ?_
        refine kk_call2 ?_
      dsimp only
      exact cv_fun noinit_339 isfn_339 hC
    · with_reducible
        refine kk_li ?_
        refine kk_asg ?_
        refine kk_seq_n ?_
        refine wi_eqs (lk_at 3 (by kernel_rfl!) (by with_unfolding_all rfl)) (by kernel_rfl!) (by kernel_rfl!) (by kernel_rfl!) ?_
        refine kk_skip (by first | assumption | kernel_rfl!) ?_
        refine wq_ret ?_
        refine w_if ?_
        refine wt_eqs (lk_at 3 (by kernel_rfl!) (by with_unfolding_all rfl)) (by kernel_rfl!) (by kernel_rfl!) (by kernel_rfl!) ?_
        refine kk_if_t (by first | assumption | kernel_rfl!) ?_
        refine w_cmp (by kernel_rfl!) ?_
        refine w_bool ?_
        refine kk_cmp ?_
        refine w_var (lk_at 5 (by kernel_rfl!) (by with_unfolding_all rfl)) (by kernel_rfl!) ?_
        refine kk_cmp2 ?_
      dsimp only
      first | refine p_nin_list (hz _) ?_ | refine p_in_list (hz _) ?_
      with_reducible
        refine kk_bool ?_
        refine kk_ret1 ?_
      have h := h σ₂ (x₁.trans x₂)
      first | rw [← e1] at h; exact h | rw [← e2] at h; exact h
  · simp only [if_true, Bool.false_eq_true, if_false] at h ⊢
    obtain ⟨b, hb⟩ : ∃ b, b = bodyOf 339 := ⟨_, rfl⟩
    obtain ⟨s, hs⟩ : ∃ b, b = scOf 339 := ⟨_, rfl⟩
    obtain ⟨p, hp⟩ : ∃ b, b = psOf 339 := ⟨_, rfl⟩
    have hf := fn_of 339 (by kernel_rfl)
    rw [← hb, ← hs, ← hp] at hf
    conv at hb => rhs; whnf
    conv at hs => rhs; whnf
    conv at hp => rhs; whnf
    subst hb hs hp
    simp only [List.map_cons, List.map_nil] at hf
    refine w_run hf (by kernel_rfl) ?_
    clear hf
    simp only [List.zip_cons_cons, List.zip_nil_right]
    with_reducible
      refine wq_cons ?_
      refine wx_asg (by kernel_rfl!) ?_
      refine wv_plain (by kernel_rfl!) ?_
      refine w_subi (lk_at 1 (by kernel_rfl!) (by with_unfolding_all rfl)) (by kernel_rfl!) ?_
      refine ⟨_, sb_tup_0, ?_⟩
      refine kk_asg ?_
      refine kk_next ?_
      refine wx_if ?_
      refine wt_var (by kernel_rfl!) (lk_at 3 (by kernel_rfl!) (by with_unfolding_all rfl)) (by kernel_rfl!) ?_
      refine w_strs2 ?_
      refine kk_cmp2 ?_
      refine p_in_tup (by kernel_rfl!) ?_
      refine kk_skip (by first | assumption | kernel_rfl!) ?_
      refine wi_eqs (lk_at 3 (by kernel_rfl!) (by with_unfolding_all rfl)) (by kernel_rfl!) (by kernel_rfl!) (by kernel_rfl!) ?_
      refine kk_skip (by first | assumption | kernel_rfl!) ?_
      refine wi_eqs (lk_at 3 (by kernel_rfl!) (by with_unfolding_all rfl)) (by kernel_rfl!) (by kernel_rfl!) (by kernel_rfl!) ?_
      refine kk_skipn (by first | assumption | kernel_rfl!) ?_
      refine wx_if ?_
      refine wt_var (by kernel_rfl!) (lk_at 3 (by kernel_rfl!) (by with_unfolding_all rfl)) (by kernel_rfl!) ?_
      refine w_strs2 ?_
      refine kk_cmp2 ?_
      refine p_in_tup (by kernel_rfl!) ?_
      refine kk_skip (by first | assumption | kernel_rfl!) ?_
      refine wi_eqs (lk_at 3 (by kernel_rfl!) (by with_unfolding_all rfl)) (by kernel_rfl!) (by kernel_rfl!) (by kernel_rfl!) ?_
      refine kk_skipn (by first | assumption | kernel_rfl!) ?_
      refine wx_asg (by kernel_rfl!) ?_
      refine wv_plain (by kernel_rfl!) ?_
      refine w_glb (by kernel_rfl!) glob__law_walk (by kernel_rfl!) ?_
      refine ws_var (lk_at 0 (by kernel_rfl!) (by with_unfolding_all rfl)) (by kernel_rfl!) ?_
      refine ws_var2 (lk_at 2 (by kernel_rfl!) (by with_unfolding_all rfl)) (by kernel_rfl!) ?_
      refine kk_call2 ?_
    dsimp only
    refine cv_fun noinit_320 isfn_320 (walk_run (by lia) hm4 ok.b hk h1 (by kernel_rfl!) (by kernel_rfl!) fun σ₁ x₁ ha => ?_)
    with_reducible
      refine kk_asg ?_
      refine kk_next ?_
      refine wx_asg (by kernel_rfl!) ?_
      refine wv_comp (by kernel_rfl!) ?_
      refine w_var (lk_at 4 (by kernel_rfl!) (by with_unfolding_all rfl)) (by kernel_rfl!) ?_
      refine kk_comp ?_
    dsimp only
    refine holds_line (xs := W.line k) hf (by lia) (hs.pre x₁) ha hl.2 (by lia) (by kernel_rfl!) ?_ fun σ₂ x₂ => ?_
    · intro j σ' C hC
      with_reducible
        refine w_glb (by kernel_rfl!) glob__law_holds (by kernel_rfl!) ?_
        refine ws_var (lk_at 0 (by kernel_rfl!) (by with_unfolding_all rfl)) (by kernel_rfl!) ?_
        refine ws_cons (by kernel_rfl!) ?_
        refine w_subi (lk_at 1 (by kernel_rfl!) (by with_unfolding_all rfl)) (by kernel_rfl!) ?_
        refine ⟨_, sb_tup_1, ?_⟩
        refine kk_cons ?_
        refine ws_var3 (lk_at 2 (by kernel_rfl!) (by with_unfolding_all rfl)) (by kernel_rfl!) ?_
        refine kk_call2 ?_
      dsimp only
      exact cv_fun noinit_339 isfn_339 hC
    · with_reducible
        refine kk_li ?_
        refine kk_asg ?_
        refine kk_seq_n ?_
        refine wi_eqs (lk_at 3 (by kernel_rfl!) (by with_unfolding_all rfl)) (by kernel_rfl!) (by kernel_rfl!) (by kernel_rfl!) ?_
        refine kk_skip (by first | assumption | kernel_rfl!) ?_
        refine wq_ret ?_
        refine w_if ?_
        refine wt_eqs (lk_at 3 (by kernel_rfl!) (by with_unfolding_all rfl)) (by kernel_rfl!) (by kernel_rfl!) (by kernel_rfl!) ?_
        refine kk_if_f (by first | assumption | kernel_rfl!) ?_
        refine w_cmp (by kernel_rfl!) ?_
        refine w_bool ?_
        refine kk_cmp ?_
        refine w_var (lk_at 5 (by kernel_rfl!) (by with_unfolding_all rfl)) (by kernel_rfl!) ?_
        refine kk_cmp2 ?_
      dsimp only
      first | refine p_nin_list (hz _) ?_ | refine p_in_list (hz _) ?_
      with_reducible
        refine kk_bool ?_
        refine kk_ret1 ?_
      have h := h σ₂ (x₁.trans x₂)
      first | rw [← e1] at h; exact h | rw [← e2] at h; exact h
theorem holds_unt (ok : W.ok) {nd b N nd' b' N'} (hf : Holds W S w s nd b N) (hg : Holds W S w s nd' b' N') : Holds W S w s (.tuple [sD "until", nd, nd']) (fun k => untV true ((W.line k).map b) ((W.line k).map b')) (max N N' + 60) := by
  intro n σ k Q hN hs hk h
  obtain ⟨n, rfl⟩ : ∃ n', n = n' + 60 := ⟨n - 60, by lia⟩
  have h1 := hs.w
  have hl := ok.line hk
  have hm4 : W.many < 4 := by have := ok.m; lia
  unfold sD
  obtain ⟨b, hb⟩ : ∃ b, b = bodyOf 339 := ⟨_, rfl⟩
  obtain ⟨s, hs⟩ : ∃ b, b = scOf 339 := ⟨_, rfl⟩
  obtain ⟨p, hp⟩ : ∃ b, b = psOf 339 := ⟨_, rfl⟩
  have hf := fn_of 339 (by kernel_rfl)
  rw [← hb, ← hs, ← hp] at hf
  conv at hb => rhs; whnf
  conv at hs => rhs; whnf
  conv at hp => rhs; whnf
  subst hb hs hp
  simp only [List.map_cons, List.map_nil] at hf
  refine w_run hf (by kernel_rfl) ?_
  clear hf
  simp only [List.zip_cons_cons, List.zip_nil_right]
  with_reducible
    refine wq_cons ?_
    refine wx_asg (by kernel_rfl!) ?_
    refine wv_plain (by kernel_rfl!) ?_
    refine w_subi (lk_at 1 (by kernel_rfl!) (by with_unfolding_all rfl)) (by kernel_rfl!) ?_
    refine ⟨_, sb_tup_0, ?_⟩
    refine kk_asg ?_
    refine kk_next ?_
    refine wx_if ?_
    refine wt_var (by kernel_rfl!) (lk_at 3 (by kernel_rfl!) (by with_unfolding_all rfl)) (by kernel_rfl!) ?_
    refine w_strs2 ?_
    refine kk_cmp2 ?_
    refine p_in_tup (by kernel_rfl!) ?_
    refine kk_skip (by first | assumption | kernel_rfl!) ?_
    refine wi_eqs (lk_at 3 (by kernel_rfl!) (by with_unfolding_all rfl)) (by kernel_rfl!) (by kernel_rfl!) (by kernel_rfl!) ?_
    refine kk_skip (by first | assumption | kernel_rfl!) ?_
    refine wi_eqs (lk_at 3 (by kernel_rfl!) (by with_unfolding_all rfl)) (by kernel_rfl!) (by kernel_rfl!) (by kernel_rfl!) ?_
    refine kk_skipn (by first | assumption | kernel_rfl!) ?_
    refine wx_if ?_
    refine wt_var (by kernel_rfl!) (lk_at 3 (by kernel_rfl!) (by with_unfolding_all rfl)) (by kernel_rfl!) ?_
    refine w_strs2 ?_
    refine kk_cmp2 ?_
    refine p_in_tup (by kernel_rfl!) ?_
    refine kk_skip (by first | assumption | kernel_rfl!) ?_
    refine wi_eqs (lk_at 3 (by kernel_rfl!) (by with_unfolding_all rfl)) (by kernel_rfl!) (by kernel_rfl!) (by kernel_rfl!) ?_
    refine kk_skipn (by first | assumption | kernel_rfl!) ?_
    refine wx_asg (by kernel_rfl!) ?_
    refine wv_plain (by kernel_rfl!) ?_
    refine w_glb (by kernel_rfl!) glob__law_walk (by kernel_rfl!) ?_
    refine ws_var (lk_at 0 (by kernel_rfl!) (by with_unfolding_all rfl)) (by kernel_rfl!) ?_
    refine ws_var2 (lk_at 2 (by kernel_rfl!) (by with_unfolding_all rfl)) (by kernel_rfl!) ?_
    refine kk_call2 ?_
  dsimp only
  refine cv_fun noinit_320 isfn_320 (walk_run (by lia) hm4 ok.b hk h1 (by kernel_rfl!) (by kernel_rfl!) fun σ₁ x₁ ha => ?_)
  with_reducible
    refine kk_asg ?_
    refine kk_next ?_
    refine wx_asg (by kernel_rfl!) ?_
    refine wv_comp (by kernel_rfl!) ?_
    refine w_var (lk_at 4 (by kernel_rfl!) (by with_unfolding_all rfl)) (by kernel_rfl!) ?_
    refine kk_comp ?_
  dsimp only
  refine holds_line (xs := W.line k) hf (by lia) (hs.pre x₁) ha hl.2 (by lia) (by kernel_rfl!) ?_ fun σ₂ x₂ => ?_
  · intro j σ' C hC
    with_reducible
      refine w_glb (by kernel_rfl!) glob__law_holds (by kernel_rfl!) ?_
      refine ws_var (lk_at 0 (by kernel_rfl!) (by with_unfolding_all rfl)) (by kernel_rfl!) ?_
      refine ws_cons (by kernel_rfl!) ?_
      refine w_subi (lk_at 1 (by kernel_rfl!) (by with_unfolding_all rfl)) (by kernel_rfl!) ?_
      refine ⟨_, sb_tup_1, ?_⟩
      refine kk_cons ?_
      refine ws_var3 (lk_at 2 (by kernel_rfl!) (by with_unfolding_all rfl)) (by kernel_rfl!) ?_
      refine kk_call2 ?_
    dsimp only
    exact cv_fun noinit_339 isfn_339 hC
  · with_reducible
      refine kk_li ?_
      refine kk_asg ?_
      refine kk_seq_n ?_
      refine wi_eqs (lk_at 3 (by kernel_rfl!) (by with_unfolding_all rfl)) (by kernel_rfl!) (by kernel_rfl!) (by kernel_rfl!) ?_
      refine kk_ifx_t (by first | assumption | kernel_rfl!) ?_
      refine wq_ret ?_
      refine w_glb (by kernel_rfl!) glob__law_until (by kernel_rfl!) ?_
      refine ws_var (lk_at 3 (by kernel_rfl!) (by with_unfolding_all rfl)) (by kernel_rfl!) ?_
      refine ws_var (lk_at 5 (by kernel_rfl!) (by with_unfolding_all rfl)) (by kernel_rfl!) ?_
      refine ws_cons (by kernel_rfl!) ?_
      refine w_comp (by kernel_rfl!) ?_
      refine w_var (lk_at 4 (by kernel_rfl!) (by with_unfolding_all rfl)) (by kernel_rfl!) ?_
      refine kk_comp ?_
    dsimp only
    refine holds_line (xs := W.line k) hg (by lia) ((hs.pre x₁).pre x₂) (x₂.at ha) hl.2 (by lia) (by kernel_rfl!) ?_ fun σ₃ x₃ => ?_
    · intro j σ' C hC
      with_reducible
        refine w_glb (by kernel_rfl!) glob__law_holds (by kernel_rfl!) ?_
        refine ws_var (lk_at 0 (by kernel_rfl!) (by with_unfolding_all rfl)) (by kernel_rfl!) ?_
        refine ws_cons (by kernel_rfl!) ?_
        refine w_subi (lk_at 1 (by kernel_rfl!) (by with_unfolding_all rfl)) (by kernel_rfl!) ?_
        refine ⟨_, sb_tup_2, ?_⟩
        refine kk_cons ?_
        refine ws_var3 (lk_at 2 (by kernel_rfl!) (by with_unfolding_all rfl)) (by kernel_rfl!) ?_
        refine kk_call2 ?_
      dsimp only
      exact cv_fun noinit_339 isfn_339 hC
    · with_reducible
        refine kk_li ?_
        refine kk_end3 ?_
        refine kk_call2 ?_
      refine cv_fun noinit_327 isfn_327 (until_run (by lia) true (by rw [List.length_map]; lia) ?_)
      with_reducible
        refine kk_ret2 ?_
      exact h σ₃ ((x₁.trans x₂).trans x₃)
theorem Holds.mono {nd b N N'} (h : Holds W S w s nd b N) (hN : N ≤ N') : Holds W S w s nd b N' := fun n σ k Q h1 hs hk q => h n σ k Q (by lia) hs hk q
noncomputable def Fm.truth (W : Wd) (S : Nat → Int → Bool) : Fm → Nat → Bool
  | .atom no i l => fun k => setB W S i l k == !no
  | .inn i l j m => fun k => !setB W S i l k || setB W S j m k
  | .neg f => fun k => !f.truth W S k
  | .bin or f g => fun k => if or then f.truth W S k || g.truth W S k else f.truth W S k && g.truth W S k
  | .aft f => fun k => f.truth W S (W.after k)
  | .glob ev f => fun k => if ev then (W.line k).any (f.truth W S) else (W.line k).all (f.truth W S)
  | .unt _ f g => fun k => untV true ((W.line k).map (f.truth W S)) ((W.line k).map (g.truth W S))
theorem holds_run (ok : W.ok) : ∀ f : Fm, f.ok → Holds W S w s f.node (f.truth W S) (60 * f.dp + 80)
  | .atom no i l, h => (holds_atom ok no h l).mono (Nat.le_add_left _ _)
  | .inn i l j m, h => (holds_in ok h.1 h.2 l m).mono (Nat.le_add_left _ _)
  | .neg f, h => (holds_not (holds_run ok f h)).mono (by simp only [Fm.dp]; lia)
  | .bin or f g, h => (holds_bin or (holds_run ok f h.1) (holds_run ok g h.2)).mono (by simp only [Fm.dp]; lia)
  | .aft f, h => (holds_aft ok (holds_run ok f h)).mono (by simp only [Fm.dp]; lia)
  | .glob ev f, h => (holds_glob ok ev (holds_run ok f h)).mono (by simp only [Fm.dp]; lia)
  | .unt u f g, h => by
    obtain ⟨rfl, h1, h2⟩ := h
    exact (holds_unt ok (holds_run ok f h1) (holds_run ok g h2)).mono (by simp only [Fm.dp]; lia)
end Mine
set_option maxHeartbeats 1000000
namespace Mine
open PySem
variable {W : Wd} {S : Nat → Int → Bool} {full : List Nat}
noncomputable def Plain (full : List Nat) (nd : PyData) (b : Bool) (N : Nat) : Prop := ∀ (n : Nat) (σ : Sto) (Q : V → Sto → Prop), N ≤ n → Q (.d (.bool b)) σ → Mine.W (lvC theTab n 344 [.d nd, .d (.list (full.map intD))] σ) Q
theorem Plain.mono {nd b N N'} (h : Plain full nd b N) (hN : N ≤ N') : Plain full nd b N' := fun n σ Q h1 q => h n σ Q (by lia) q
theorem shaped_ints2 (l : List Nat) (j : Nat) : (shapedD (.list (l.map intD)) && shapedD (.int j)) = true := by rw [shaped_ints]; rfl
theorem plain_atom (no : Bool) (p : Nat) : Plain full (.tuple [if no then sD "no" else sD "some", relD p]) (full.contains p == !no) 80 := by
  intro n σ Q hN h
  obtain ⟨n, rfl⟩ : ∃ n', n = n' + 80 := ⟨n - 80, by lia⟩
  have hz := shaped_ints2 full p
  unfold sD relD
  cases no
  all_goals
    simp only [if_true, Bool.false_eq_true, if_false]
    obtain ⟨b, hb⟩ : ∃ b, b = bodyOf 344 := ⟨_, rfl⟩
    obtain ⟨s, hs⟩ : ∃ b, b = scOf 344 := ⟨_, rfl⟩
    obtain ⟨p, hp⟩ : ∃ b, b = psOf 344 := ⟨_, rfl⟩
    have hf := fn_of 344 (by kernel_rfl)
    rw [← hb, ← hs, ← hp] at hf
    conv at hb => rhs; whnf
    conv at hs => rhs; whnf
    conv at hp => rhs; whnf
    subst hb hs hp
    simp only [List.map_cons, List.map_nil] at hf
    refine w_run hf (by kernel_rfl) ?_
    clear hf
    simp only [List.zip_cons_cons, List.zip_nil_right]
    with_reducible
      refine wq_cons ?_
      refine wx_asg (by kernel_rfl!) ?_
      refine wv_plain (by kernel_rfl!) ?_
      refine w_subi (lk_at 0 (by kernel_rfl!) (by with_unfolding_all rfl)) (by kernel_rfl!) ?_
      refine ⟨_, sb_tup_0, ?_⟩
      refine kk_asg ?_
      refine kk_next ?_
      refine wx_if ?_
      refine wt_var (by kernel_rfl!) (lk_at 2 (by kernel_rfl!) (by with_unfolding_all rfl)) (by kernel_rfl!) ?_
      refine w_strs2 ?_
      refine kk_cmp2 ?_
      refine p_in_tup (by kernel_rfl!) ?_
      refine kk_ifx_t (by first | assumption | kernel_rfl!) ?_
      refine wq_ret ?_
      refine w_if ?_
      refine wt_cmp (by kernel_rfl!) ?_
      refine w_sub (by kernel_rfl!) ?_
      refine w_subi (lk_at 0 (by kernel_rfl!) (by with_unfolding_all rfl)) (by kernel_rfl!) ?_
      refine ⟨_, sb_tup_1, ?_⟩
      refine kk_sub ?_
      refine w_int ?_
      refine kk_sub2 ?_
      refine ⟨_, sb_tup_0, ?_⟩
      refine kk_cmp ?_
      refine w_eqs (by kernel_rfl!) (by kernel_rfl!) ?_
      refine kk_if_t (by first | assumption | kernel_rfl!) ?_
      refine w_cmp (by kernel_rfl!) ?_
      refine w_cmp (by kernel_rfl!) ?_
      refine w_sub (by kernel_rfl!) ?_
      refine w_subi (lk_at 0 (by kernel_rfl!) (by with_unfolding_all rfl)) (by kernel_rfl!) ?_
      refine ⟨_, sb_tup_1, ?_⟩
      refine kk_sub ?_
      refine w_int ?_
      refine kk_sub2 ?_
      refine ⟨_, sb_tup_1, ?_⟩
      refine kk_cmp ?_
      refine w_var (lk_at 1 (by kernel_rfl!) (by with_unfolding_all rfl)) (by kernel_rfl!) ?_
      refine kk_cmp2 ?_
    dsimp only
    refine p_in_list hz ?_
    rw [any_ints]
    with_reducible
      refine kk_bool ?_
      refine kk_cmp ?_
      refine w_cmp (by kernel_rfl!) ?_
      refine w_var (lk_at 2 (by kernel_rfl!) (by with_unfolding_all rfl)) (by kernel_rfl!) ?_
      refine kk_cmp ?_
      refine w_eqs (by kernel_rfl!) (by kernel_rfl!) ?_
      refine kk_bool ?_
      refine kk_cmp2 ?_
      refine p_eq_bool ?_
      refine kk_bool ?_
      refine kk_ret2 ?_
    exact h
theorem plain_in (p q : Nat) : Plain full (.tuple [sD "in", relD p, relD q]) (!full.contains p || full.contains q) 80 := by
  intro n σ Q hN h
  obtain ⟨n, rfl⟩ : ∃ n', n = n' + 80 := ⟨n - 80, by lia⟩
  have hz := shaped_ints2 full p
  have hz' := shaped_ints2 full q
  unfold sD relD
  obtain ⟨b, hb⟩ : ∃ b, b = bodyOf 344 := ⟨_, rfl⟩
  obtain ⟨s, hs⟩ : ∃ b, b = scOf 344 := ⟨_, rfl⟩
  obtain ⟨p, hp⟩ : ∃ b, b = psOf 344 := ⟨_, rfl⟩
  have hf := fn_of 344 (by kernel_rfl)
  rw [← hb, ← hs, ← hp] at hf
  conv at hb => rhs; whnf
  conv at hs => rhs; whnf
  conv at hp => rhs; whnf
  subst hb hs hp
  simp only [List.map_cons, List.map_nil] at hf
  refine w_run hf (by kernel_rfl) ?_
  clear hf
  simp only [List.zip_cons_cons, List.zip_nil_right]
  with_reducible
    refine wq_cons ?_
    refine wx_asg (by kernel_rfl!) ?_
    refine wv_plain (by kernel_rfl!) ?_
    refine w_subi (lk_at 0 (by kernel_rfl!) (by with_unfolding_all rfl)) (by kernel_rfl!) ?_
    refine ⟨_, sb_tup_0, ?_⟩
    refine kk_asg ?_
    refine kk_next ?_
    refine wx_if ?_
    refine wt_var (by kernel_rfl!) (lk_at 2 (by kernel_rfl!) (by with_unfolding_all rfl)) (by kernel_rfl!) ?_
    refine w_strs2 ?_
    refine kk_cmp2 ?_
    refine p_in_tup (by kernel_rfl!) ?_
    refine kk_skip (by first | assumption | kernel_rfl!) ?_
    refine wi_eqs (lk_at 2 (by kernel_rfl!) (by with_unfolding_all rfl)) (by kernel_rfl!) (by kernel_rfl!) (by kernel_rfl!) ?_
    refine kk_ifx_t (by first | assumption | kernel_rfl!) ?_
    refine wq_ret ?_
    refine w_if ?_
    refine wt_cmp2 (by kernel_rfl!) ?_
    refine w_sub (by kernel_rfl!) ?_
    refine w_subi (lk_at 0 (by kernel_rfl!) (by with_unfolding_all rfl)) (by kernel_rfl!) ?_
    refine ⟨_, sb_tup_1, ?_⟩
    refine kk_sub ?_
    refine w_int ?_
    refine kk_sub2 ?_
    refine ⟨_, sb_tup_0, ?_⟩
    refine kk_ch ?_
    refine w_sub (by kernel_rfl!) ?_
    refine w_subi (lk_at 0 (by kernel_rfl!) (by with_unfolding_all rfl)) (by kernel_rfl!) ?_
    refine ⟨_, sb_tup_2, ?_⟩
    refine kk_sub ?_
    refine w_int ?_
    refine kk_sub2 ?_
    refine ⟨_, sb_tup_0, ?_⟩
    refine kk_ch2 ?_
    refine p_eq_str (by kernel_rfl!) (by kernel_rfl!) ?_
    refine kk_ch3_t (by kernel_rfl!) ?_
    refine w_eqs (by kernel_rfl!) (by kernel_rfl!) ?_
    refine kk_if_t (by first | assumption | kernel_rfl!) ?_
    refine w_or ?_
    refine w_cmp (by kernel_rfl!) ?_
    refine w_sub (by kernel_rfl!) ?_
    refine w_subi (lk_at 0 (by kernel_rfl!) (by with_unfolding_all rfl)) (by kernel_rfl!) ?_
    refine ⟨_, sb_tup_1, ?_⟩
    refine kk_sub ?_
    refine w_int ?_
    refine kk_sub2 ?_
    refine ⟨_, sb_tup_1, ?_⟩
    refine kk_cmp ?_
    refine w_var (lk_at 1 (by kernel_rfl!) (by with_unfolding_all rfl)) (by kernel_rfl!) ?_
    refine kk_cmp2 ?_
  dsimp only
  refine p_nin_list hz ?_
  rw [any_ints]
  cases hb : full.contains p
  all_goals rw [hb] at h
  · with_reducible
      refine kk_bool ?_
      refine kk_or_t (by kernel_rfl!) ?_
      refine kk_ret2 ?_
    exact h
  · with_reducible
      refine kk_bool ?_
      refine kk_or_f (by kernel_rfl!) ?_
      refine w_cmp (by kernel_rfl!) ?_
      refine w_sub (by kernel_rfl!) ?_
      refine w_subi (lk_at 0 (by kernel_rfl!) (by with_unfolding_all rfl)) (by kernel_rfl!) ?_
      refine ⟨_, sb_tup_2, ?_⟩
      refine kk_sub ?_
      refine w_int ?_
      refine kk_sub2 ?_
      refine ⟨_, sb_tup_1, ?_⟩
      refine kk_cmp ?_
      refine w_var (lk_at 1 (by kernel_rfl!) (by with_unfolding_all rfl)) (by kernel_rfl!) ?_
      refine kk_cmp2 ?_
    dsimp only
    refine p_in_list hz' ?_
    rw [any_ints]
    with_reducible
      refine kk_bool ?_
      refine kk_ret2 ?_
    exact h
theorem any_none (l : List Bool) : (boolsD l).any (fun y => PyData.eqv y .none) = false := by
  induction l with
  | nil => rfl
  | cons a r ih =>
    show (PyData.eqv (.bool a) .none || (boolsD r).any _) = _
    rw [ih]
    rfl
theorem shaped_bools2 (l : List Bool) {d : PyData} (h : shapedD d = true) : (shapedD (.list (boolsD l)) && shapedD d) = true := by rw [shaped_bools, h]; rfl
theorem plains_run {n : Nat} {sc : Scope} {elt : Expr} {x : Str} {fr : Vars} {σ : Sto} {N : Nat} (hN : N ≤ n)
    (ht : ∀ (d : PyData) (C : V → Sto → Prop), Mine.W (lvC theTab n 344 [.d d, .d (.list (full.map intD))] σ) C → Mine.W (lvE theTab (n + 1) sc (putV fr x (.d d)) elt σ) C) {C : List PyData → Sto → Prop} {ds : List PyData} {bs : List Bool} (h2 : All2 (fun d b => Plain full d b N) ds bs) :
    ∀ acc : List PyData, acc.length + ds.length < 1000 → C (acc ++ boolsD bs) σ → Mine.W (compL (turn1 (level theTab (n + 1)) sc elt x [] fr) (ds.map V.d) σ acc) C := by
  induction h2 with
  | nil => intro acc _ h; refine wc_nil ?_; rw [boolsD, List.map_nil, List.append_nil] at h; exact h
  | @cons d b ds bs h _ ih =>
    intro acc hl hC
    rw [List.length_cons] at hl
    refine wc_cons (wc_turn (wa_nil ?_))
    refine kk_turn_t rfl ?_
    refine ht d _ (h _ _ _ hN ?_)
    refine ⟨_, rfl, small_of (by lia), ih _ (by rw [List.length_append, List.length_singleton]; lia) ?_⟩
    rw [List.append_assoc]
    exact hC
theorem plain_not {nd b N} (hf : Plain full nd b N) : Plain full (.tuple [sD "not", nd]) (!b) (N + 60) := by
  intro n σ Q hN h
  obtain ⟨n, rfl⟩ : ∃ n', n = n' + 60 := ⟨n - 60, by lia⟩
  have z0 := shaped_bools2 [b] (d := .none) rfl
  have z1 := any_none [b]
  unfold sD
  obtain ⟨b, hb⟩ : ∃ b, b = bodyOf 344 := ⟨_, rfl⟩
  obtain ⟨s, hs⟩ : ∃ b, b = scOf 344 := ⟨_, rfl⟩
  obtain ⟨p, hp⟩ : ∃ b, b = psOf 344 := ⟨_, rfl⟩
  have hf := fn_of 344 (by kernel_rfl)
  rw [← hb, ← hs, ← hp] at hf
  conv at hb => rhs; whnf
  conv at hs => rhs; whnf
  conv at hp => rhs; whnf
  subst hb hs hp
  simp only [List.map_cons, List.map_nil] at hf
  refine w_run hf (by kernel_rfl) ?_
  clear hf
  simp only [List.zip_cons_cons, List.zip_nil_right]
  with_reducible
    refine wq_cons ?_
    refine wx_asg (by kernel_rfl!) ?_
    refine wv_plain (by kernel_rfl!) ?_
    refine w_subi (lk_at 0 (by kernel_rfl!) (by with_unfolding_all rfl)) (by kernel_rfl!) ?_
    refine ⟨_, sb_tup_0, ?_⟩
    refine kk_asg ?_
    refine kk_next ?_
    refine wx_if ?_
    refine wt_var (by kernel_rfl!) (lk_at 2 (by kernel_rfl!) (by with_unfolding_all rfl)) (by kernel_rfl!) ?_
    refine w_strs2 ?_
    refine kk_cmp2 ?_
    refine p_in_tup (by kernel_rfl!) ?_
    refine kk_skip (by first | assumption | kernel_rfl!) ?_
    refine wi_eqs (lk_at 2 (by kernel_rfl!) (by with_unfolding_all rfl)) (by kernel_rfl!) (by kernel_rfl!) (by kernel_rfl!) ?_
    refine kk_skipn (by first | assumption | kernel_rfl!) ?_
    refine wx_if ?_
    refine wt_var (by kernel_rfl!) (lk_at 2 (by kernel_rfl!) (by with_unfolding_all rfl)) (by kernel_rfl!) ?_
    refine w_strs3 ?_
    refine kk_cmp2 ?_
    refine p_nin_tup (by kernel_rfl!) ?_
    refine kk_skipn (by first | assumption | kernel_rfl!) ?_
    refine wx_asg (by kernel_rfl!) ?_
    refine wv_comp (by kernel_rfl!) ?_
    refine w_if ?_
    refine wt_eqs (lk_at 2 (by kernel_rfl!) (by with_unfolding_all rfl)) (by kernel_rfl!) (by kernel_rfl!) (by kernel_rfl!) ?_
    refine kk_if_t (by first | assumption | kernel_rfl!) ?_
    refine w_from ?_ rfl
    refine w_var (lk_at 0 (by kernel_rfl!) (by with_unfolding_all rfl)) (by kernel_rfl!) ?_
    refine kk_from ?_
  dsimp only
  refine ⟨⟨by decide, by simp⟩, by kernel_rfl!, ?_⟩
  with_reducible
    refine kk_comp ?_
  refine wc_one (by kernel_rfl!) walks_tuple (by simp) ?_
  show Mine.W (compL _ ([nd].map V.d) _ _) _
  refine plains_run (bs := [b]) (N := N) (by lia) ?_ (.cons hf .nil) [] (by simp) ?_
  · intro d C hC
    with_reducible
      refine w_glb (by kernel_rfl!) glob__law_plain (by kernel_rfl!) ?_
      refine ws_var (lk_at 1 (by kernel_rfl!) (by with_unfolding_all rfl)) (by kernel_rfl!) ?_
      refine ws_var2 (lk_at 0 (by kernel_rfl!) (by with_unfolding_all rfl)) (by kernel_rfl!) ?_
      refine kk_call2 ?_
    dsimp only
    exact cv_fun noinit_344 isfn_344 hC
  with_reducible
    refine kk_li ?_
    refine kk_asg ?_
    refine kk_next ?_
    refine wx_if ?_
    refine wt_cmp (by kernel_rfl!) ?_
    refine w_none ?_
    refine kk_cmp ?_
    refine w_var (lk_at 3 (by kernel_rfl!) (by with_unfolding_all rfl)) (by kernel_rfl!) ?_
    refine kk_cmp2 ?_
  dsimp only
  refine p_in_list z0 ?_
  rw [List.nil_append, z1]
  with_reducible
    refine kk_skip (by first | assumption | kernel_rfl!) ?_
    refine wi_eqs (lk_at 2 (by kernel_rfl!) (by with_unfolding_all rfl)) (by kernel_rfl!) (by kernel_rfl!) (by kernel_rfl!) ?_
    refine kk_ifx_t (by first | assumption | kernel_rfl!) ?_
    refine wq_ret ?_
    refine w_not ?_
    refine w_subi (lk_at 3 (by kernel_rfl!) (by with_unfolding_all rfl)) (by kernel_rfl!) ?_
  refine ⟨_, rfl, ?_⟩
  with_reducible
    refine kk_not ?_
    refine kk_ret2 ?_
  exact h
theorem plain_list (or : Bool) {ds bs N} (h2 : All2 (fun d b => Plain full d b N) ds bs) (hl : ds.length < 50) : Plain full (.tuple [if or then sD "or" else sD "and", .tuple ds]) (if or then bs.any id else bs.all id) (N + 60) := by
  intro n σ Q hN h
  obtain ⟨n, rfl⟩ : ∃ n', n = n' + 60 := ⟨n - 60, by lia⟩
  have z0 := shaped_bools2 bs (d := .none) rfl
  have z1 := any_none bs
  have z2 := fun c => shaped_bools2 bs (d := .bool c) rfl
  have e1 : ∀ l : List Bool, (!l.contains false) = l.all id := by
    intro l
    induction l with
    | nil => rfl
    | cons a r ih => rw [List.contains_cons, List.all_cons, ← ih]; cases a <;> rfl
  have e2 : ∀ l : List Bool, l.contains true = l.any id := by
    intro l
    induction l with
    | nil => rfl
    | cons a r ih => rw [List.contains_cons, List.any_cons, ← ih]; cases a <;> rfl
  unfold sD
  cases or
  · simp only [if_true, Bool.false_eq_true, if_false] at h ⊢
    obtain ⟨b, hb⟩ : ∃ b, b = bodyOf 344 := ⟨_, rfl⟩
    obtain ⟨s, hs⟩ : ∃ b, b = scOf 344 := ⟨_, rfl⟩
    obtain ⟨p, hp⟩ : ∃ b, b = psOf 344 := ⟨_, rfl⟩
    have hf := fn_of 344 (by kernel_rfl)
    rw [← hb, ← hs, ← hp] at hf
    conv at hb => rhs; whnf
    conv at hs => rhs; whnf
    conv at hp => rhs; whnf
    subst hb hs hp
    simp only [List.map_cons, List.map_nil] at hf
    refine w_run hf (by kernel_rfl) ?_
    clear hf
    simp only [List.zip_cons_cons, List.zip_nil_right]
    with_reducible
      refine wq_cons ?_
      refine wx_asg (by kernel_rfl!) ?_
      refine wv_plain (by kernel_rfl!) ?_
      refine w_subi (lk_at 0 (by kernel_rfl!) (by with_unfolding_all rfl)) (by kernel_rfl!) ?_
      refine ⟨_, sb_tup_0, ?_⟩
      refine kk_asg ?_
      refine kk_next ?_
      refine wx_if ?_
      refine wt_var (by kernel_rfl!) (lk_at 2 (by kernel_rfl!) (by with_unfolding_all rfl)) (by kernel_rfl!) ?_
      refine w_strs2 ?_
      refine kk_cmp2 ?_
      refine p_in_tup (by kernel_rfl!) ?_
      refine kk_skip (by first | assumption | kernel_rfl!) ?_
      refine wi_eqs (lk_at 2 (by kernel_rfl!) (by with_unfolding_all rfl)) (by kernel_rfl!) (by kernel_rfl!) (by kernel_rfl!) ?_
      refine kk_skipn (by first | assumption | kernel_rfl!) ?_
      refine wx_if ?_
      refine wt_var (by kernel_rfl!) (lk_at 2 (by kernel_rfl!) (by with_unfolding_all rfl)) (by kernel_rfl!) ?_
      refine w_strs3 ?_
      refine kk_cmp2 ?_
      refine p_nin_tup (by kernel_rfl!) ?_
      refine kk_skipn (by first | assumption | kernel_rfl!) ?_
      refine wx_asg (by kernel_rfl!) ?_
      refine wv_comp (by kernel_rfl!) ?_
      refine w_if ?_
      refine wt_eqs (lk_at 2 (by kernel_rfl!) (by with_unfolding_all rfl)) (by kernel_rfl!) (by kernel_rfl!) (by kernel_rfl!) ?_
      refine kk_if_f (by first | assumption | kernel_rfl!) ?_
      refine w_subi (lk_at 0 (by kernel_rfl!) (by with_unfolding_all rfl)) (by kernel_rfl!) ?_
      refine ⟨_, sb_tup_1, ?_⟩
      refine kk_comp ?_
    dsimp only
    refine wc_one (by kernel_rfl!) walks_tuple (by rw [List.length_map]; lia) ?_
    refine plains_run (bs := bs) (N := N) (by lia) ?_ h2 [] (by rw [List.length_nil]; lia) ?_
    · intro d C hC
      with_reducible
        refine w_glb (by kernel_rfl!) glob__law_plain (by kernel_rfl!) ?_
        refine ws_var (lk_at 1 (by kernel_rfl!) (by with_unfolding_all rfl)) (by kernel_rfl!) ?_
        refine ws_var2 (lk_at 0 (by kernel_rfl!) (by with_unfolding_all rfl)) (by kernel_rfl!) ?_
        refine kk_call2 ?_
      dsimp only
      exact cv_fun noinit_344 isfn_344 hC
    with_reducible
      refine kk_li ?_
      refine kk_asg ?_
      refine kk_next ?_
      refine wx_if ?_
      refine wt_cmp (by kernel_rfl!) ?_
      refine w_none ?_
      refine kk_cmp ?_
      refine w_var (lk_at 3 (by kernel_rfl!) (by with_unfolding_all rfl)) (by kernel_rfl!) ?_
      refine kk_cmp2 ?_
    dsimp only
    refine p_in_list z0 ?_
    rw [List.nil_append, z1]
    with_reducible
      refine kk_skip (by first | assumption | kernel_rfl!) ?_
      refine wi_eqs (lk_at 2 (by kernel_rfl!) (by with_unfolding_all rfl)) (by kernel_rfl!) (by kernel_rfl!) (by kernel_rfl!) ?_
      refine kk_skip (by first | assumption | kernel_rfl!) ?_
      refine wq_ret ?_
      refine w_if ?_
      refine wt_eqs (lk_at 2 (by kernel_rfl!) (by with_unfolding_all rfl)) (by kernel_rfl!) (by kernel_rfl!) (by kernel_rfl!) ?_
      refine kk_if_t (by first | assumption | kernel_rfl!) ?_
      refine w_cmp (by kernel_rfl!) ?_
      refine w_bool ?_
      refine kk_cmp ?_
      refine w_var (lk_at 3 (by kernel_rfl!) (by with_unfolding_all rfl)) (by kernel_rfl!) ?_
      refine kk_cmp2 ?_
    dsimp only
    first | refine p_nin_list (z2 _) ?_ | refine p_in_list (z2 _) ?_
    rw [any_bools]
    with_reducible
      refine kk_bool ?_
      refine kk_ret1 ?_
    first | rw [e1]; exact h | rw [e2]; exact h
  · simp only [if_true, Bool.false_eq_true, if_false] at h ⊢
    obtain ⟨b, hb⟩ : ∃ b, b = bodyOf 344 := ⟨_, rfl⟩
    obtain ⟨s, hs⟩ : ∃ b, b = scOf 344 := ⟨_, rfl⟩
    obtain ⟨p, hp⟩ : ∃ b, b = psOf 344 := ⟨_, rfl⟩
    have hf := fn_of 344 (by kernel_rfl)
    rw [← hb, ← hs, ← hp] at hf
    conv at hb => rhs; whnf
    conv at hs => rhs; whnf
    conv at hp => rhs; whnf
    subst hb hs hp
    simp only [List.map_cons, List.map_nil] at hf
    refine w_run hf (by kernel_rfl) ?_
    clear hf
    simp only [List.zip_cons_cons, List.zip_nil_right]
    with_reducible
      refine wq_cons ?_
      refine wx_asg (by kernel_rfl!) ?_
      refine wv_plain (by kernel_rfl!) ?_
      refine w_subi (lk_at 0 (by kernel_rfl!) (by with_unfolding_all rfl)) (by kernel_rfl!) ?_
      refine ⟨_, sb_tup_0, ?_⟩
      refine kk_asg ?_
      refine kk_next ?_
      refine wx_if ?_
      refine wt_var (by kernel_rfl!) (lk_at 2 (by kernel_rfl!) (by with_unfolding_all rfl)) (by kernel_rfl!) ?_
      refine w_strs2 ?_
      refine kk_cmp2 ?_
      refine p_in_tup (by kernel_rfl!) ?_
      refine kk_skip (by first | assumption | kernel_rfl!) ?_
      refine wi_eqs (lk_at 2 (by kernel_rfl!) (by with_unfolding_all rfl)) (by kernel_rfl!) (by kernel_rfl!) (by kernel_rfl!) ?_
      refine kk_skipn (by first | assumption | kernel_rfl!) ?_
      refine wx_if ?_
      refine wt_var (by kernel_rfl!) (lk_at 2 (by kernel_rfl!) (by with_unfolding_all rfl)) (by kernel_rfl!) ?_
      refine w_strs3 ?_
      refine kk_cmp2 ?_
      refine p_nin_tup (by kernel_rfl!) ?_
      refine kk_skipn (by first | assumption | kernel_rfl!) ?_
      refine wx_asg (by kernel_rfl!) ?_
      refine wv_comp (by kernel_rfl!) ?_
      refine w_if ?_
      refine wt_eqs (lk_at 2 (by kernel_rfl!) (by with_unfolding_all rfl)) (by kernel_rfl!) (by kernel_rfl!) (by kernel_rfl!) ?_
      refine kk_if_f (by first | assumption | kernel_rfl!) ?_
      refine w_subi (lk_at 0 (by kernel_rfl!) (by with_unfolding_all rfl)) (by kernel_rfl!) ?_
      refine ⟨_, sb_tup_1, ?_⟩
      refine kk_comp ?_
    dsimp only
    refine wc_one (by kernel_rfl!) walks_tuple (by rw [List.length_map]; lia) ?_
    refine plains_run (bs := bs) (N := N) (by lia) ?_ h2 [] (by rw [List.length_nil]; lia) ?_
    · intro d C hC
      with_reducible
        refine w_glb (by kernel_rfl!) glob__law_plain (by kernel_rfl!) ?_
        refine ws_var (lk_at 1 (by kernel_rfl!) (by with_unfolding_all rfl)) (by kernel_rfl!) ?_
        refine ws_var2 (lk_at 0 (by kernel_rfl!) (by with_unfolding_all rfl)) (by kernel_rfl!) ?_
        refine kk_call2 ?_
      dsimp only
      exact cv_fun noinit_344 isfn_344 hC
    with_reducible
      refine kk_li ?_
      refine kk_asg ?_
      refine kk_next ?_
      refine wx_if ?_
      refine wt_cmp (by kernel_rfl!) ?_
      refine w_none ?_
      refine kk_cmp ?_
      refine w_var (lk_at 3 (by kernel_rfl!) (by with_unfolding_all rfl)) (by kernel_rfl!) ?_
      refine kk_cmp2 ?_
    dsimp only
    refine p_in_list z0 ?_
    rw [List.nil_append, z1]
    with_reducible
      refine kk_skip (by first | assumption | kernel_rfl!) ?_
      refine wi_eqs (lk_at 2 (by kernel_rfl!) (by with_unfolding_all rfl)) (by kernel_rfl!) (by kernel_rfl!) (by kernel_rfl!) ?_
      refine kk_skip (by first | assumption | kernel_rfl!) ?_
      refine wq_ret ?_
      refine w_if ?_
      refine wt_eqs (lk_at 2 (by kernel_rfl!) (by with_unfolding_all rfl)) (by kernel_rfl!) (by kernel_rfl!) (by kernel_rfl!) ?_
      refine kk_if_f (by first | assumption | kernel_rfl!) ?_
      refine w_cmp (by kernel_rfl!) ?_
      refine w_bool ?_
      refine kk_cmp ?_
      refine w_var (lk_at 3 (by kernel_rfl!) (by with_unfolding_all rfl)) (by kernel_rfl!) ?_
      refine kk_cmp2 ?_
    dsimp only
    first | refine p_nin_list (z2 _) ?_ | refine p_in_list (z2 _) ?_
    rw [any_bools]
    with_reducible
      refine kk_bool ?_
      refine kk_ret1 ?_
    first | rw [e1]; exact h | rw [e2]; exact h
/-! until of these, unrolled -/
noncomputable def waysB (u : Bool) (fb gb : Nat → Bool) : List Bool → List Nat → List Bool
  | _, [] => []
  | ahead, k :: r => (if u then (ahead ++ [gb k]).all id else (gb k :: ahead).any id) :: waysB u fb gb (ahead ++ [fb k]) r
theorem all_append (l m : List Bool) : (l ++ m).all id = (l.all id && m.all id) := List.all_append
theorem any_append (l m : List Bool) : (l ++ m).any id = (l.any id || m.any id) := List.any_append
theorem waysB_true (fb gb : Nat → Bool) : ∀ (line : List Nat) (ahead : List Bool), (waysB true fb gb ahead line).any id = (ahead.all id && untV true (line.map fb) (line.map gb))
  | [], ahead => by simp [waysB, untV]
  | k :: r, ahead => by
    rw [waysB, List.any_cons, waysB_true fb gb r, if_pos rfl, all_append, all_append, List.map_cons, List.map_cons, untV]
    cases ahead.all id <;> cases h1 : gb k <;> cases h2 : fb k <;> simp [h1, h2]
theorem waysB_false (fb gb : Nat → Bool) : ∀ (line : List Nat) (ahead : List Bool), (waysB false fb gb ahead line).all id = (ahead.any id || untV false (line.map fb) (line.map gb))
  | [], ahead => by simp [waysB, untV]
  | k :: r, ahead => by
    rw [waysB, List.all_cons, waysB_false fb gb r, if_neg Bool.false_ne_true, any_append, List.any_cons, List.map_cons, List.map_cons, untV]
    cases ahead.any id <;> cases h1 : gb k <;> cases h2 : fb k <;> simp [h1, h2]
theorem All2.snoc {α β : Type} {R : α → β → Prop} {l m a b} (h : All2 R l m) (q : R a b) : All2 R (l ++ [a]) (m ++ [b]) := h.append (.cons q .nil)
theorem ways_all2 (u : Bool) {F G : Nat → PyData} {fb gb : Nat → Bool} {N : Nat} : ∀ (line : List Nat), (∀ j ∈ line, Plain full (F j) (fb j) N ∧ Plain full (G j) (gb j) N) → ∀ (ahead : List PyData) (ab : List Bool), All2 (fun d b => Plain full d b N) ahead ab → ahead.length + line.length < 40 →
    All2 (fun d b => Plain full d b (N + 60)) (waysP u F G ahead line) (waysB u fb gb ab line)
  | [], _, _, _, _, _ => .nil
  | k :: r, h, ahead, ab, ha, hl => by
    rw [List.length_cons] at hl
    have hk := h k (.head _)
    rw [waysP, waysB]
    refine .cons ?_ (ways_all2 u r (fun j hj => h j (.tail _ hj)) _ _ (ha.snoc hk.1) (by rw [List.length_append, List.length_singleton]; lia))
    cases u with
    | true => exact plain_list false (ha.snoc hk.2) (by rw [List.length_append, List.length_singleton]; lia)
    | false => exact plain_list true (.cons hk.2 ha) (by rw [List.length_cons]; lia)
theorem waysP_len {u F G} : ∀ (line : List Nat) (ahead : List PyData), (waysP u F G ahead line).length = line.length
  | [], _ => rfl
  | k :: r, ahead => by rw [waysP, List.length_cons, List.length_cons, waysP_len r]
theorem plain_untP (u : Bool) {F G : Nat → PyData} {fb gb : Nat → Bool} {N : Nat} {line : List Nat} (h : ∀ j ∈ line, Plain full (F j) (fb j) N ∧ Plain full (G j) (gb j) N) (hl : line.length < 30) : Plain full (untP u F G line) (untV u (line.map fb) (line.map gb)) (N + 120) := by
  have := ways_all2 u line h [] [] .nil (by rw [List.length_nil]; lia)
  have hz := plain_list u this (by rw [waysP_len]; lia)
  cases u with
  | true => rw [if_pos rfl, waysB_true] at hz; exact hz
  | false => rw [if_neg Bool.false_ne_true, waysB_false] at hz; exact hz
theorem plain_set {i : Int} {l : Bool} {k : Nat} : setR W i l k = relD (W.place i (if l then W.after k else k)) := rfl
theorem plain_res (ok : W.ok) (hf : ∀ i k, in3 i → k < W.many → full.contains (W.place i k) = S k i) : ∀ f : Fm, f.ok → ∀ k, k < W.many → Plain full (f.res W k) (f.truth W S k) (120 * f.dp + 80)
  | .atom no i l, h, k, hk => by
    have := plain_atom (full := full) no (W.place i (if l then W.after k else k))
    rw [hf i _ h (by split; exact ok.aft k; exact hk)] at this
    exact this.mono (Nat.le_add_left _ _)
  | .inn i l j m, h, k, hk => by
    have := plain_in (full := full) (W.place i (if l then W.after k else k)) (W.place j (if m then W.after k else k))
    rw [hf i _ h.1 (by split; exact ok.aft k; exact hk), hf j _ h.2 (by split; exact ok.aft k; exact hk)] at this
    exact this.mono (Nat.le_add_left _ _)
  | .neg f, h, k, hk => (plain_not (plain_res ok hf f h k hk)).mono (by simp only [Fm.dp]; lia)
  | .bin or f g, h, k, hk => by
    have a := (plain_res ok hf f h.1 k hk).mono (N' := 120 * (max f.dp g.dp) + 80) (by lia)
    have b := (plain_res ok hf g h.2 k hk).mono (N' := 120 * (max f.dp g.dp) + 80) (by lia)
    have := (plain_list or (.cons a (.cons b .nil)) (by simp)).mono (N' := 120 * (Fm.bin or f g).dp + 80) (by simp only [Fm.dp]; lia)
    simp only [List.any_cons, List.any_nil, List.all_cons, List.all_nil, id, Bool.or_false, Bool.and_true] at this
    exact this
  | .aft f, h, k, hk => (plain_res ok hf f h _ (ok.aft k)).mono (by simp only [Fm.dp]; lia)
  | .glob ev f, h, k, hk => by
    have hl := ok.line hk
    have key : ∀ line : List Nat, (∀ j ∈ line, j < W.many) → All2 (fun d b => Plain full d b (120 * f.dp + 80)) (line.map (f.res W)) (line.map (f.truth W S)) := by
      intro line
      induction line with
      | nil => intro _; exact .nil
      | cons a r ih => intro q; exact .cons (plain_res ok hf f h a (q a (.head _))) (ih fun j hj => q j (.tail _ hj))
    have := (plain_list ev (key _ hl.2) (by rw [List.length_map]; lia)).mono (N' := 120 * (Fm.glob ev f).dp + 80) (by simp only [Fm.dp]; lia)
    rw [List.any_map, List.all_map] at this
    exact this
  | .unt u f g, h, k, hk => by
    obtain ⟨rfl, h1, h2⟩ := h
    have hl := ok.line hk
    exact (plain_untP true (N := 120 * (max f.dp g.dp) + 80) (fun j hj => ⟨(plain_res ok hf f h1 j (hl.2 j hj)).mono (by lia), (plain_res ok hf g h2 j (hl.2 j hj)).mono (by lia)⟩) (by lia)).mono (by simp only [Fm.dp]; lia)
end Mine
set_option maxHeartbeats 1000000
namespace Mine
open PySem
variable {W : Wd}
mutual
theorem eqv_refl : ∀ d : PyData, d.canLay0 = true → PyData.eqv d d = true
  | .none, _ => rfl
  | .bool a, _ => by rw [eqv_bool]; exact beq_self_eq_true a
  | .int i, _ => by rw [eqv_int]; exact decide_eq_true rfl
  | .str x, _ => by rw [PyData.eqv]; exact beq_self_eq_true x
  | .list xs, h => by rw [PyData.eqv]; exact eqvAll_refl xs (by rw [PyData.canLay0] at h; exact h)
  | .tuple xs, h => by rw [PyData.eqv]; exact eqvAll_refl xs (by rw [PyData.canLay0] at h; exact h)
  | .dict _, h => by rw [PyData.canLay0] at h; cases h
theorem eqvAll_refl : ∀ xs : List PyData, PyData.canLayAll0 xs = true → PyData.eqvAll xs xs = true
  | [], _ => by rw [PyData.eqvAll]
  | x :: r, h => by
    rw [PyData.canLayAll0, Bool.and_eq_true] at h
    rw [PyData.eqvAll, eqv_refl x h.1, eqvAll_refl r h.2]; rfl
end
structure Sh (n : Nat) (d : PyData) : Prop where
  lay : d.canLay0 = true
  dep : d.depth ≤ n
theorem Sh.mono {n m d} (h : Sh n d) (q : n ≤ m) : Sh m d := ⟨h.lay, Nat.le_trans h.dep q⟩
theorem shs_lay {n} : ∀ {xs : List PyData}, (∀ x ∈ xs, Sh n x) → PyData.canLayAll0 xs = true ∧ PyData.depthAll xs ≤ n
  | [], _ => ⟨by rw [PyData.canLayAll0], by rw [PyData.depthAll]; lia⟩
  | x :: r, h => by
    have a := h x (.head _)
    have b := shs_lay (xs := r) fun y hy => h y (.tail _ hy)
    rw [PyData.canLayAll0, PyData.depthAll, a.lay, b.1]
    exact ⟨rfl, Nat.max_le.mpr ⟨a.dep, b.2⟩⟩
theorem Sh.tuple {n} {xs : List PyData} (h : ∀ x ∈ xs, Sh n x) : Sh (n + 1) (.tuple xs) := by
  have := shs_lay h
  exact ⟨by rw [PyData.canLay0]; exact this.1, by rw [PyData.depth]; lia⟩
theorem Sh.list {n} {xs : List PyData} (h : ∀ x ∈ xs, Sh n x) : Sh (n + 1) (.list xs) := by
  have := shs_lay h
  exact ⟨by rw [PyData.canLay0]; exact this.1, by rw [PyData.depth]; lia⟩
theorem Sh.sD {n} {s : String} (h : PyData.strOk (Str.ofString s) = true) : Sh n (sD s) := ⟨by unfold Mine.sD; rw [PyData.canLay0]; exact h, by unfold Mine.sD; rw [PyData.depth]; lia⟩
theorem Sh.int {n i} : Sh n (.int i) := ⟨by rw [PyData.canLay0], by rw [PyData.depth]; lia⟩
theorem Sh.shaped {n d} (h : Sh n d) (q : n ≤ 64) : shapedD d = true := by
  unfold shapedD PySem.SeqAt.shaped
  rw [h.lay, decide_eq_true (Nat.le_trans h.dep q)]; rfl
theorem Sh.two {n a b} (ha : Sh n a) (hb : Sh n b) : Sh (n + 1) (.tuple [a, b]) := .tuple fun x hx => by
  rcases List.mem_cons.mp hx with rfl | hx
  · exact ha
  · rw [List.mem_singleton] at hx; subst hx; exact hb
theorem Sh.three {n a b c} (ha : Sh n a) (hb : Sh n b) (hc : Sh n c) : Sh (n + 1) (.tuple [a, b, c]) := .tuple fun x hx => by
  rcases List.mem_cons.mp hx with rfl | hx
  · exact ha
  · rcases List.mem_cons.mp hx with rfl | hx
    · exact hb
    · rw [List.mem_singleton] at hx; subst hx; exact hc
theorem sh_some {n} (no : Bool) : Sh n (if no then sD "no" else sD "some") := by cases no <;> exact Sh.sD (by kernel_rfl)
theorem sh_or {n} (no : Bool) : Sh n (if no then sD "or" else sD "and") := by cases no <;> exact Sh.sD (by kernel_rfl)
theorem sh_set {i l k} : Sh 1 (setR W i l k) := Sh.two (.sD (by kernel_rfl)) .int
theorem sh_ways (u : Bool) {F G : Nat → PyData} {n : Nat} (hF : ∀ j, Sh n (F j)) (hG : ∀ j, Sh n (G j)) : ∀ (line : List Nat) (ahead : List PyData), (∀ x ∈ ahead, Sh n x) → ∀ y ∈ waysP u F G ahead line, Sh (n + 2) y
  | [], _, _, y, hy => nomatch hy
  | k :: r, ahead, ha, y, hy => by
    rw [waysP] at hy
    rcases List.mem_cons.mp hy with rfl | hy
    · cases u with
      | true => exact Sh.two (.sD (by kernel_rfl)) (.tuple fun x hx => by
          rcases List.mem_append.mp hx with hx | hx
          · exact ha x hx
          · rw [List.mem_singleton] at hx; subst hx; exact hG k)
      | false => exact Sh.two (.sD (by kernel_rfl)) (.tuple fun x hx => by
          rcases List.mem_cons.mp hx with rfl | hx
          · exact hG k
          · exact ha x hx)
    · exact sh_ways u hF hG r _ (fun x hx => by
        rcases List.mem_append.mp hx with hx | hx
        · exact ha x hx
        · rw [List.mem_singleton] at hx; subst hx; exact hF k) y hy
theorem sh_untP (u : Bool) {F G : Nat → PyData} {n : Nat} (hF : ∀ j, Sh n (F j)) (hG : ∀ j, Sh n (G j)) (line : List Nat) : Sh (n + 4) (untP u F G line) :=
  Sh.two (sh_or u) (.tuple (sh_ways u hF hG line [] fun _ hx => nomatch hx))
theorem sh_res : ∀ (f : Fm) (k : Nat), Sh (4 * f.dp + 2) (f.res W k)
  | .atom no i l, k => Sh.two (sh_some no) sh_set
  | .inn i l j m, k => Sh.three (.sD (by kernel_rfl)) sh_set sh_set
  | .neg f, k => (Sh.two (.sD (by kernel_rfl)) (sh_res f k)).mono (by simp only [Fm.dp]; lia)
  | .bin or f g, k => (Sh.two (n := 4 * (max f.dp g.dp) + 3) (sh_or or) (Sh.two ((sh_res f k).mono (by lia)) ((sh_res g k).mono (by lia)))).mono (by simp only [Fm.dp]; lia)
  | .aft f, k => (sh_res f _).mono (by simp only [Fm.dp]; lia)
  | .glob ev f, k => (Sh.two (n := 4 * f.dp + 3) (sh_or ev) (.tuple fun x hx => by obtain ⟨j, _, rfl⟩ := List.mem_map.mp hx; exact sh_res f j)).mono (by simp only [Fm.dp]; lia)
  | .unt u f g, k => (sh_untP u (n := 4 * (max f.dp g.dp) + 2) (fun j => (sh_res f j).mono (by lia)) (fun j => (sh_res g j).mono (by lia)) _).mono (by simp only [Fm.dp]; lia)
/-! the shape -/
noncomputable def partD (u : Bool) (i : Nat) : PyData := .tuple [if u then sD "and" else sD "or", .int ((i : Int) + 1)]
theorem small_1 (p : PyData) : small [p] = true := rfl
theorem shape_ways {n : Nat} {sc : Scope} {elt : Expr} {x : Str} {fr : Vars} {σ : Sto} (u : Bool) {F G : Nat → PyData}
    (ht : ∀ (ds : List PyData) (C : V → Sto → Prop), ds.length < 900 → C (.d (.tuple [if u then sD "and" else sD "or", .int ds.length])) σ → Mine.W (lvE theTab n sc (putV fr x (.d (.tuple [if u then sD "and" else sD "or", .tuple ds]))) elt σ) C) {C : List PyData → Sto → Prop} :
    ∀ (line : List Nat) (ahead acc : List PyData), ahead.length + line.length < 100 → acc.length + line.length < 100 → C (acc ++ (List.range' ahead.length line.length).map (partD u)) σ → Mine.W (compL (turn1 (level theTab n) sc elt x [] fr) ((waysP u F G ahead line).map V.d) σ acc) C
  | [], ahead, acc, _, _, h => wc_nil (by rw [List.length_nil, List.range'_zero, List.map_nil, List.append_nil] at h; exact h)
  | k :: r, ahead, acc, h1, h2, h => by
    rw [List.length_cons] at h1 h2
    have e : waysP u F G ahead (k :: r) = .tuple [if u then sD "and" else sD "or", .tuple (if u then ahead ++ [G k] else G k :: ahead)] :: waysP u F G (ahead ++ [F k]) r := by cases u <;> rfl
    have el : (if u then ahead ++ [G k] else G k :: ahead).length = ahead.length + 1 := by cases u <;> simp
    rw [e, List.map_cons]
    refine wc_cons (wc_turn (wa_nil ?_))
    refine kk_turn_t rfl ?_
    refine ht _ _ (by rw [el]; lia) ⟨_, rfl, small_of (by lia), ?_⟩
    refine shape_ways u ht r _ _ (by rw [List.length_append, List.length_singleton]; lia) (by rw [List.length_append, List.length_singleton]; lia) ?_
    rw [List.length_cons, List.range'_succ, List.map_cons] at h
    rw [el, List.append_assoc, List.length_append, List.length_singleton]
    exact h
theorem shape_rng {n : Nat} {sc : Scope} {elt : Expr} {x : Str} {fr : Vars} {σ : Sto} (u : Bool) (ht : ∀ (i : Nat) (C : V → Sto → Prop), C (.d (partD u i)) σ → Mine.W (lvE theTab n sc (putV fr x (.d (.int i))) elt σ) C) {C : List PyData → Sto → Prop} :
    ∀ (m a : Nat) (acc : List PyData), acc.length + m < 100 → C (acc ++ (List.range' a m).map (partD u)) σ → Mine.W (compL (turn1 (level theTab n) sc elt x [] fr) ((numsUp a m).map fun i => V.d (.int i)) σ acc) C
  | 0, a, acc, _, h => wc_nil (by rw [List.range'_zero, List.map_nil, List.append_nil] at h; exact h)
  | m + 1, a, acc, hl, h => by
    rw [numsUp_succ, List.map_cons]
    refine wc_cons (wc_turn (wa_nil ?_))
    refine kk_turn_t rfl ?_
    refine ht _ _ ⟨_, rfl, small_of (by lia), ?_⟩
    refine shape_rng u ht m (a + 1) _ (by rw [List.length_append, List.length_singleton]; lia) ?_
    rw [List.append_assoc]
    rw [List.range'_succ, List.map_cons] at h
    exact h
theorem shaped_run {N : Nat} (hN : 30 ≤ N) (u : Bool) {F G : Nat → PyData} {line : List Nat} (hl : line.length < 20) {σ : Sto} {Q : V → Sto → Prop} (h : Q (.d (.bool true)) σ) : Mine.W (lvC theTab N 349 [.d (if u then sD "until" else sD "releases"), .d (untP u F G line), .d (.list (line.map intD))] σ) Q := by
  obtain ⟨n, rfl⟩ : ∃ n', N = n' + 30 := ⟨N - 30, by lia⟩
  have z1 : small (waysP u F G [] line) = true := small_of (by rw [waysP_len]; lia)
  have z2 : small (line.map intD) = true := small_of (by rw [List.length_map]; lia)
  obtain ⟨ws, hws⟩ : ∃ ws, ws = waysP u F G [] line := ⟨_, rfl⟩
  unfold untP
  obtain ⟨u', hu⟩ : ∃ u', u' = u := ⟨u, rfl⟩
  rw [← hws] at z1 ⊢
  rw [← hu] at hws
  have hwl : ws.length = line.length := by rw [hws, waysP_len]
  unfold sD
  cases u
  · simp only [if_true, Bool.false_eq_true, if_false]
    obtain ⟨b, hb⟩ : ∃ b, b = bodyOf 349 := ⟨_, rfl⟩
    obtain ⟨s, hs⟩ : ∃ b, b = scOf 349 := ⟨_, rfl⟩
    obtain ⟨p, hp⟩ : ∃ b, b = psOf 349 := ⟨_, rfl⟩
    have hf := fn_of 349 (by kernel_rfl)
    rw [← hb, ← hs, ← hp] at hf
    conv at hb => rhs; whnf
    conv at hs => rhs; whnf
    conv at hp => rhs; whnf
    subst hb hs hp
    simp only [List.map_cons, List.map_nil] at hf
    refine w_run hf (by kernel_rfl) ?_
    clear hf
    simp only [List.zip_cons_cons, List.zip_nil_right]
    with_reducible
      refine wq_cons ?_
      refine wx_if ?_
      refine wt_bool ?_
      refine wa_cons ?_
      refine wt_cmp (by kernel_rfl!) ?_
      refine w_subi (lk_at 1 (by kernel_rfl!) (by with_unfolding_all rfl)) (by kernel_rfl!) ?_
      refine ⟨_, sb_tup_0, ?_⟩
      refine kk_cmp ?_
      refine w_if ?_
      refine wt_eqs (lk_at 0 (by kernel_rfl!) (by with_unfolding_all rfl)) (by kernel_rfl!) (by kernel_rfl!) (by kernel_rfl!) ?_
      refine kk_if_f (by first | assumption | kernel_rfl!) ?_
      refine w_str ?_
      refine kk_cmp2 ?_
      refine p_ne_str (by kernel_rfl!) (by kernel_rfl!) ?_
      refine kk_all_t (by kernel_rfl!) ?_
      refine wa_cons ?_
      refine wt_cmp (by kernel_rfl!) ?_
      refine w_glb (by kernel_rfl!) glob_len (by kernel_rfl!) ?_
      refine ws_cons (by kernel_rfl!) ?_
      refine w_subi (lk_at 1 (by kernel_rfl!) (by with_unfolding_all rfl)) (by kernel_rfl!) ?_
      refine ⟨_, sb_tup_1, ?_⟩
      refine kk_end1 ?_
      refine kk_call2 ?_
      refine cv_blt ?_
      refine b_len_t (by first | assumption | kernel_rfl!) ?_
      refine kk_cmp ?_
      refine w_glb (by kernel_rfl!) glob_len (by kernel_rfl!) ?_
      refine ws_var1 (lk_at 2 (by kernel_rfl!) (by with_unfolding_all rfl)) (by kernel_rfl!) ?_
      refine kk_call2 ?_
      refine cv_blt ?_
      refine b_len_l (by first | assumption | kernel_rfl!) ?_
      refine kk_cmp2 ?_
      refine p_ne ?_
    rw [hwl, List.length_map, decide_eq_true rfl]
    have zs : Sh 2 (.list ((List.range' 0 line.length).map (partD u'))) := .list fun x hx => by
      obtain ⟨i, _, rfl⟩ := List.mem_map.mp hx
      exact Sh.two (by cases u' <;> exact Sh.sD (by kernel_rfl)) .int
    have er : ((line.length : Int) - 0).toNat = line.length := by lia
    have hl2 : (line.map intD).length < 20 := by rw [List.length_map]; exact hl
    subst hws
    with_reducible
      refine kk_all_t (by kernel_rfl!) ?_
      refine wa_nil ?_
      refine kk_skip (by first | assumption | kernel_rfl!) ?_
      refine wq_ret ?_
      refine w_cmp (by kernel_rfl!) ?_
      refine w_comp (by kernel_rfl!) ?_
      refine w_subi (lk_at 1 (by kernel_rfl!) (by with_unfolding_all rfl)) (by kernel_rfl!) ?_
      refine ⟨_, sb_tup_1, ?_⟩
      refine kk_comp ?_
    dsimp only
    refine wc_one (by kernel_rfl!) walks_tuple (by rw [List.length_map, hwl]; lia) ?_
    refine shape_ways u' ?_ line [] [] (by rw [List.length_nil]; lia) (by rw [List.length_nil]; lia) ?_
    · intro ds C hd hC
      have zd := small_of (xs := ds) (by lia)
      simp only [hu, if_true, Bool.false_eq_true, if_false, sD] at hC ⊢
      with_reducible
        refine w_tuple ?_
        refine ws_cons (by kernel_rfl!) ?_
        refine w_subi (lk_at 0 (by kernel_rfl!) (by with_unfolding_all rfl)) (by kernel_rfl!) ?_
        refine ⟨_, sb_tup_0, ?_⟩
        refine kk_more (by kernel_rfl!) ?_
        refine w_glb (by kernel_rfl!) glob_len (by kernel_rfl!) ?_
        refine ws_cons (by kernel_rfl!) ?_
        refine w_subi (lk_at 0 (by kernel_rfl!) (by with_unfolding_all rfl)) (by kernel_rfl!) ?_
        refine ⟨_, sb_tup_1, ?_⟩
        refine kk_end1 ?_
        refine kk_call2 ?_
        refine cv_blt ?_
        refine b_len_t (by first | assumption | kernel_rfl!) ?_
        refine kk_end2 ?_
        refine kk_tup (by with_unfolding_all rfl) (by kernel_rfl!) ?_
      exact hC
    with_reducible
      refine kk_li ?_
      refine kk_cmp ?_
      refine w_comp (by kernel_rfl!) ?_
      refine w_glb (by kernel_rfl!) glob_range (by kernel_rfl!) ?_
      refine ws_cons (by kernel_rfl!) ?_
      refine w_glb (by kernel_rfl!) glob_len (by kernel_rfl!) ?_
      refine ws_var1 (lk_at 2 (by kernel_rfl!) (by with_unfolding_all rfl)) (by kernel_rfl!) ?_
      refine kk_call2 ?_
      refine cv_blt ?_
      refine b_len_l (by first | assumption | kernel_rfl!) ?_
      refine kk_end1 ?_
      refine kk_call2 ?_
      refine cv_type ?_
      refine b_range1 (by lia) ?_
      refine kk_comp ?_
    dsimp only
    refine wc_one (by kernel_rfl!) walks_rng (by rw [List.length_map, List.length_map, er]; rw [numsUp_len]; lia) ?_
    rw [List.length_map, er]
    refine shape_rng u' ?_ line.length 0 [] (by rw [List.length_nil]; lia) ?_
    · intro i C hC
      unfold partD at hC
      simp only [hu, if_true, Bool.false_eq_true, if_false, sD] at hC
      with_reducible
        refine w_tuple ?_
        refine ws_cons (by kernel_rfl!) ?_
        refine w_if ?_
        refine wt_eqs (lk_at 0 (by kernel_rfl!) (by with_unfolding_all rfl)) (by kernel_rfl!) (by kernel_rfl!) (by kernel_rfl!) ?_
        refine kk_if_f (by first | assumption | kernel_rfl!) ?_
        refine w_str ?_
        refine kk_more (by kernel_rfl!) ?_
        refine w_bin ?_
        refine w_var (lk_at 1 (by kernel_rfl!) (by with_unfolding_all rfl)) (by kernel_rfl!) ?_
        refine kk_bin ?_
        refine w_int ?_
        refine kk_bin2 ?_
        refine p_add ?_
        refine kk_end2 ?_
        refine kk_tup (by with_unfolding_all rfl) (by kernel_rfl!) ?_
      exact hC
    refine p_eq_d (by rw [Bool.and_eq_true]; exact ⟨zs.shaped (by lia), zs.shaped (by lia)⟩) ?_
    have hq : PyData.eqv (.list ((List.range' 0 line.length).map (partD u'))) (.list ((List.range' 0 line.length).map (partD u'))) = true := eqv_refl _ zs.lay
    rw [List.length_nil]
    repeat rw [List.nil_append]
    rw [hq]
    exact h
  · simp only [if_true, Bool.false_eq_true, if_false]
    obtain ⟨b, hb⟩ : ∃ b, b = bodyOf 349 := ⟨_, rfl⟩
    obtain ⟨s, hs⟩ : ∃ b, b = scOf 349 := ⟨_, rfl⟩
    obtain ⟨p, hp⟩ : ∃ b, b = psOf 349 := ⟨_, rfl⟩
    have hf := fn_of 349 (by kernel_rfl)
    rw [← hb, ← hs, ← hp] at hf
    conv at hb => rhs; whnf
    conv at hs => rhs; whnf
    conv at hp => rhs; whnf
    subst hb hs hp
    simp only [List.map_cons, List.map_nil] at hf
    refine w_run hf (by kernel_rfl) ?_
    clear hf
    simp only [List.zip_cons_cons, List.zip_nil_right]
    with_reducible
      refine wq_cons ?_
      refine wx_if ?_
      refine wt_bool ?_
      refine wa_cons ?_
      refine wt_cmp (by kernel_rfl!) ?_
      refine w_subi (lk_at 1 (by kernel_rfl!) (by with_unfolding_all rfl)) (by kernel_rfl!) ?_
      refine ⟨_, sb_tup_0, ?_⟩
      refine kk_cmp ?_
      refine w_if ?_
      refine wt_eqs (lk_at 0 (by kernel_rfl!) (by with_unfolding_all rfl)) (by kernel_rfl!) (by kernel_rfl!) (by kernel_rfl!) ?_
      refine kk_if_t (by first | assumption | kernel_rfl!) ?_
      refine w_str ?_
      refine kk_cmp2 ?_
      refine p_ne_str (by kernel_rfl!) (by kernel_rfl!) ?_
      refine kk_all_t (by kernel_rfl!) ?_
      refine wa_cons ?_
      refine wt_cmp (by kernel_rfl!) ?_
      refine w_glb (by kernel_rfl!) glob_len (by kernel_rfl!) ?_
      refine ws_cons (by kernel_rfl!) ?_
      refine w_subi (lk_at 1 (by kernel_rfl!) (by with_unfolding_all rfl)) (by kernel_rfl!) ?_
      refine ⟨_, sb_tup_1, ?_⟩
      refine kk_end1 ?_
      refine kk_call2 ?_
      refine cv_blt ?_
      refine b_len_t (by first | assumption | kernel_rfl!) ?_
      refine kk_cmp ?_
      refine w_glb (by kernel_rfl!) glob_len (by kernel_rfl!) ?_
      refine ws_var1 (lk_at 2 (by kernel_rfl!) (by with_unfolding_all rfl)) (by kernel_rfl!) ?_
      refine kk_call2 ?_
      refine cv_blt ?_
      refine b_len_l (by first | assumption | kernel_rfl!) ?_
      refine kk_cmp2 ?_
      refine p_ne ?_
    rw [hwl, List.length_map, decide_eq_true rfl]
    have zs : Sh 2 (.list ((List.range' 0 line.length).map (partD u'))) := .list fun x hx => by
      obtain ⟨i, _, rfl⟩ := List.mem_map.mp hx
      exact Sh.two (by cases u' <;> exact Sh.sD (by kernel_rfl)) .int
    have er : ((line.length : Int) - 0).toNat = line.length := by lia
    have hl2 : (line.map intD).length < 20 := by rw [List.length_map]; exact hl
    subst hws
    with_reducible
      refine kk_all_t (by kernel_rfl!) ?_
      refine wa_nil ?_
      refine kk_skip (by first | assumption | kernel_rfl!) ?_
      refine wq_ret ?_
      refine w_cmp (by kernel_rfl!) ?_
      refine w_comp (by kernel_rfl!) ?_
      refine w_subi (lk_at 1 (by kernel_rfl!) (by with_unfolding_all rfl)) (by kernel_rfl!) ?_
      refine ⟨_, sb_tup_1, ?_⟩
      refine kk_comp ?_
    dsimp only
    refine wc_one (by kernel_rfl!) walks_tuple (by rw [List.length_map, hwl]; lia) ?_
    refine shape_ways u' ?_ line [] [] (by rw [List.length_nil]; lia) (by rw [List.length_nil]; lia) ?_
    · intro ds C hd hC
      have zd := small_of (xs := ds) (by lia)
      simp only [hu, if_true, Bool.false_eq_true, if_false, sD] at hC ⊢
      with_reducible
        refine w_tuple ?_
        refine ws_cons (by kernel_rfl!) ?_
        refine w_subi (lk_at 0 (by kernel_rfl!) (by with_unfolding_all rfl)) (by kernel_rfl!) ?_
        refine ⟨_, sb_tup_0, ?_⟩
        refine kk_more (by kernel_rfl!) ?_
        refine w_glb (by kernel_rfl!) glob_len (by kernel_rfl!) ?_
        refine ws_cons (by kernel_rfl!) ?_
        refine w_subi (lk_at 0 (by kernel_rfl!) (by with_unfolding_all rfl)) (by kernel_rfl!) ?_
        refine ⟨_, sb_tup_1, ?_⟩
        refine kk_end1 ?_
        refine kk_call2 ?_
        refine cv_blt ?_
        refine b_len_t (by first | assumption | kernel_rfl!) ?_
        refine kk_end2 ?_
        refine kk_tup (by with_unfolding_all rfl) (by kernel_rfl!) ?_
      exact hC
    with_reducible
      refine kk_li ?_
      refine kk_cmp ?_
      refine w_comp (by kernel_rfl!) ?_
      refine w_glb (by kernel_rfl!) glob_range (by kernel_rfl!) ?_
      refine ws_cons (by kernel_rfl!) ?_
      refine w_glb (by kernel_rfl!) glob_len (by kernel_rfl!) ?_
      refine ws_var1 (lk_at 2 (by kernel_rfl!) (by with_unfolding_all rfl)) (by kernel_rfl!) ?_
      refine kk_call2 ?_
      refine cv_blt ?_
      refine b_len_l (by first | assumption | kernel_rfl!) ?_
      refine kk_end1 ?_
      refine kk_call2 ?_
      refine cv_type ?_
      refine b_range1 (by lia) ?_
      refine kk_comp ?_
    dsimp only
    refine wc_one (by kernel_rfl!) walks_rng (by rw [List.length_map, List.length_map, er]; rw [numsUp_len]; lia) ?_
    rw [List.length_map, er]
    refine shape_rng u' ?_ line.length 0 [] (by rw [List.length_nil]; lia) ?_
    · intro i C hC
      unfold partD at hC
      simp only [hu, if_true, Bool.false_eq_true, if_false, sD] at hC
      with_reducible
        refine w_tuple ?_
        refine ws_cons (by kernel_rfl!) ?_
        refine w_if ?_
        refine wt_eqs (lk_at 0 (by kernel_rfl!) (by with_unfolding_all rfl)) (by kernel_rfl!) (by kernel_rfl!) (by kernel_rfl!) ?_
        refine kk_if_t (by first | assumption | kernel_rfl!) ?_
        refine w_str ?_
        refine kk_more (by kernel_rfl!) ?_
        refine w_bin ?_
        refine w_var (lk_at 1 (by kernel_rfl!) (by with_unfolding_all rfl)) (by kernel_rfl!) ?_
        refine kk_bin ?_
        refine w_int ?_
        refine kk_bin2 ?_
        refine p_add ?_
        refine kk_end2 ?_
        refine kk_tup (by with_unfolding_all rfl) (by kernel_rfl!) ?_
      exact hC
    refine p_eq_d (by rw [Bool.and_eq_true]; exact ⟨zs.shaped (by lia), zs.shaped (by lia)⟩) ?_
    have hq : PyData.eqv (.list ((List.range' 0 line.length).map (partD u'))) (.list ((List.range' 0 line.length).map (partD u'))) = true := eqv_refl _ zs.lay
    rw [List.length_nil]
    repeat rw [List.nil_append]
    rw [hq]
    exact h
end Mine
set_option maxHeartbeats 0
namespace Mine
open PySem
noncomputable def segC : List Stmt := ((bodyOf 354).drop 4).take 3
noncomputable def vsOf (v0 v1 v2 : Bool) : List PyData := (if v0 then [.int 0] else []) ++ (if v1 then [.int 1] else []) ++ (if v2 then [.int 2] else [])
noncomputable abbrev frC (vs : List PyData) (sc : V) : Vars := [(Str.ofString "script", sc), (Str.ofString "reel", .st 0), (Str.ofString "world", .st 1), (Str.ofString "varying", .d (.list vs))]
noncomputable abbrev worldO (m b : Nat) : O := .dict [(Str.ofString "many", .d (.int m)), (Str.ofString "back", .d (.int b))]
noncomputable def runC (n : Nat) (W : Wd) (sc : V) (o : O) : Res (Fl × Vars) := seqS (lvX theTab (n + 60) (scOf 354)) segC (frC (vsOf W.v0 W.v1 W.v2) sc) [o, worldO W.many W.back]
noncomputable def projC (r : Res (Fl × Vars)) : Option (Vars × Option O × Option O × Option O × Option O) := match r with
  | some ((.next, fr), σ) => some (fr, σ[0]?, σ[1]?, σ[10]?, σ[14]?)
  | _ => none
noncomputable def wantC (W : Wd) (sc : V) (o : O) : Option (Vars × Option O × Option O × Option O × Option O) :=
  some (frC (vsOf W.v0 W.v1 W.v2) sc ++ [(Str.ofString "bounds", .st 4), (Str.ofString "name", .d (.str (Str.ofString "w"))), (Str.ofString "roller", .st 10)], some o, some (worldO W.many W.back), some (W.roller 0), some W.places)
theorem c_2_0_0 (n : Nat) (sc : V) (o : O) : projC (runC n ⟨2, 0, false, false, false, 10, 14, 11⟩ sc o) = wantC ⟨2, 0, false, false, false, 10, 14, 11⟩ sc o := by kernel_rfl
theorem c_2_0_1 (n : Nat) (sc : V) (o : O) : projC (runC n ⟨2, 0, true, false, false, 10, 14, 11⟩ sc o) = wantC ⟨2, 0, true, false, false, 10, 14, 11⟩ sc o := by kernel_rfl
theorem c_2_0_2 (n : Nat) (sc : V) (o : O) : projC (runC n ⟨2, 0, false, true, false, 10, 14, 11⟩ sc o) = wantC ⟨2, 0, false, true, false, 10, 14, 11⟩ sc o := by kernel_rfl
theorem c_2_0_3 (n : Nat) (sc : V) (o : O) : projC (runC n ⟨2, 0, true, true, false, 10, 14, 11⟩ sc o) = wantC ⟨2, 0, true, true, false, 10, 14, 11⟩ sc o := by kernel_rfl
theorem c_2_0_4 (n : Nat) (sc : V) (o : O) : projC (runC n ⟨2, 0, false, false, true, 10, 14, 11⟩ sc o) = wantC ⟨2, 0, false, false, true, 10, 14, 11⟩ sc o := by kernel_rfl
theorem c_2_0_5 (n : Nat) (sc : V) (o : O) : projC (runC n ⟨2, 0, true, false, true, 10, 14, 11⟩ sc o) = wantC ⟨2, 0, true, false, true, 10, 14, 11⟩ sc o := by kernel_rfl
theorem c_2_0_6 (n : Nat) (sc : V) (o : O) : projC (runC n ⟨2, 0, false, true, true, 10, 14, 11⟩ sc o) = wantC ⟨2, 0, false, true, true, 10, 14, 11⟩ sc o := by kernel_rfl
theorem c_2_0_7 (n : Nat) (sc : V) (o : O) : projC (runC n ⟨2, 0, true, true, true, 10, 14, 11⟩ sc o) = wantC ⟨2, 0, true, true, true, 10, 14, 11⟩ sc o := by kernel_rfl
theorem c_2_1_0 (n : Nat) (sc : V) (o : O) : projC (runC n ⟨2, 1, false, false, false, 10, 14, 11⟩ sc o) = wantC ⟨2, 1, false, false, false, 10, 14, 11⟩ sc o := by kernel_rfl
theorem c_2_1_1 (n : Nat) (sc : V) (o : O) : projC (runC n ⟨2, 1, true, false, false, 10, 14, 11⟩ sc o) = wantC ⟨2, 1, true, false, false, 10, 14, 11⟩ sc o := by kernel_rfl
theorem c_2_1_2 (n : Nat) (sc : V) (o : O) : projC (runC n ⟨2, 1, false, true, false, 10, 14, 11⟩ sc o) = wantC ⟨2, 1, false, true, false, 10, 14, 11⟩ sc o := by kernel_rfl
theorem c_2_1_3 (n : Nat) (sc : V) (o : O) : projC (runC n ⟨2, 1, true, true, false, 10, 14, 11⟩ sc o) = wantC ⟨2, 1, true, true, false, 10, 14, 11⟩ sc o := by kernel_rfl
theorem c_2_1_4 (n : Nat) (sc : V) (o : O) : projC (runC n ⟨2, 1, false, false, true, 10, 14, 11⟩ sc o) = wantC ⟨2, 1, false, false, true, 10, 14, 11⟩ sc o := by kernel_rfl
theorem c_2_1_5 (n : Nat) (sc : V) (o : O) : projC (runC n ⟨2, 1, true, false, true, 10, 14, 11⟩ sc o) = wantC ⟨2, 1, true, false, true, 10, 14, 11⟩ sc o := by kernel_rfl
theorem c_2_1_6 (n : Nat) (sc : V) (o : O) : projC (runC n ⟨2, 1, false, true, true, 10, 14, 11⟩ sc o) = wantC ⟨2, 1, false, true, true, 10, 14, 11⟩ sc o := by kernel_rfl
theorem c_2_1_7 (n : Nat) (sc : V) (o : O) : projC (runC n ⟨2, 1, true, true, true, 10, 14, 11⟩ sc o) = wantC ⟨2, 1, true, true, true, 10, 14, 11⟩ sc o := by kernel_rfl
theorem c_3_0_0 (n : Nat) (sc : V) (o : O) : projC (runC n ⟨3, 0, false, false, false, 10, 14, 11⟩ sc o) = wantC ⟨3, 0, false, false, false, 10, 14, 11⟩ sc o := by kernel_rfl
theorem c_3_0_1 (n : Nat) (sc : V) (o : O) : projC (runC n ⟨3, 0, true, false, false, 10, 14, 11⟩ sc o) = wantC ⟨3, 0, true, false, false, 10, 14, 11⟩ sc o := by kernel_rfl
theorem c_3_0_2 (n : Nat) (sc : V) (o : O) : projC (runC n ⟨3, 0, false, true, false, 10, 14, 11⟩ sc o) = wantC ⟨3, 0, false, true, false, 10, 14, 11⟩ sc o := by kernel_rfl
theorem c_3_0_3 (n : Nat) (sc : V) (o : O) : projC (runC n ⟨3, 0, true, true, false, 10, 14, 11⟩ sc o) = wantC ⟨3, 0, true, true, false, 10, 14, 11⟩ sc o := by kernel_rfl
theorem c_3_0_4 (n : Nat) (sc : V) (o : O) : projC (runC n ⟨3, 0, false, false, true, 10, 14, 11⟩ sc o) = wantC ⟨3, 0, false, false, true, 10, 14, 11⟩ sc o := by kernel_rfl
theorem c_3_0_5 (n : Nat) (sc : V) (o : O) : projC (runC n ⟨3, 0, true, false, true, 10, 14, 11⟩ sc o) = wantC ⟨3, 0, true, false, true, 10, 14, 11⟩ sc o := by kernel_rfl
theorem c_3_0_6 (n : Nat) (sc : V) (o : O) : projC (runC n ⟨3, 0, false, true, true, 10, 14, 11⟩ sc o) = wantC ⟨3, 0, false, true, true, 10, 14, 11⟩ sc o := by kernel_rfl
theorem c_3_0_7 (n : Nat) (sc : V) (o : O) : projC (runC n ⟨3, 0, true, true, true, 10, 14, 11⟩ sc o) = wantC ⟨3, 0, true, true, true, 10, 14, 11⟩ sc o := by kernel_rfl
theorem c_3_1_0 (n : Nat) (sc : V) (o : O) : projC (runC n ⟨3, 1, false, false, false, 10, 14, 11⟩ sc o) = wantC ⟨3, 1, false, false, false, 10, 14, 11⟩ sc o := by kernel_rfl
theorem c_3_1_1 (n : Nat) (sc : V) (o : O) : projC (runC n ⟨3, 1, true, false, false, 10, 14, 11⟩ sc o) = wantC ⟨3, 1, true, false, false, 10, 14, 11⟩ sc o := by kernel_rfl
theorem c_3_1_2 (n : Nat) (sc : V) (o : O) : projC (runC n ⟨3, 1, false, true, false, 10, 14, 11⟩ sc o) = wantC ⟨3, 1, false, true, false, 10, 14, 11⟩ sc o := by kernel_rfl
theorem c_3_1_3 (n : Nat) (sc : V) (o : O) : projC (runC n ⟨3, 1, true, true, false, 10, 14, 11⟩ sc o) = wantC ⟨3, 1, true, true, false, 10, 14, 11⟩ sc o := by kernel_rfl
theorem c_3_1_4 (n : Nat) (sc : V) (o : O) : projC (runC n ⟨3, 1, false, false, true, 10, 14, 11⟩ sc o) = wantC ⟨3, 1, false, false, true, 10, 14, 11⟩ sc o := by kernel_rfl
theorem c_3_1_5 (n : Nat) (sc : V) (o : O) : projC (runC n ⟨3, 1, true, false, true, 10, 14, 11⟩ sc o) = wantC ⟨3, 1, true, false, true, 10, 14, 11⟩ sc o := by kernel_rfl
theorem c_3_1_6 (n : Nat) (sc : V) (o : O) : projC (runC n ⟨3, 1, false, true, true, 10, 14, 11⟩ sc o) = wantC ⟨3, 1, false, true, true, 10, 14, 11⟩ sc o := by kernel_rfl
theorem c_3_1_7 (n : Nat) (sc : V) (o : O) : projC (runC n ⟨3, 1, true, true, true, 10, 14, 11⟩ sc o) = wantC ⟨3, 1, true, true, true, 10, 14, 11⟩ sc o := by kernel_rfl
theorem c_3_2_0 (n : Nat) (sc : V) (o : O) : projC (runC n ⟨3, 2, false, false, false, 10, 14, 11⟩ sc o) = wantC ⟨3, 2, false, false, false, 10, 14, 11⟩ sc o := by kernel_rfl
theorem c_3_2_1 (n : Nat) (sc : V) (o : O) : projC (runC n ⟨3, 2, true, false, false, 10, 14, 11⟩ sc o) = wantC ⟨3, 2, true, false, false, 10, 14, 11⟩ sc o := by kernel_rfl
theorem c_3_2_2 (n : Nat) (sc : V) (o : O) : projC (runC n ⟨3, 2, false, true, false, 10, 14, 11⟩ sc o) = wantC ⟨3, 2, false, true, false, 10, 14, 11⟩ sc o := by kernel_rfl
theorem c_3_2_3 (n : Nat) (sc : V) (o : O) : projC (runC n ⟨3, 2, true, true, false, 10, 14, 11⟩ sc o) = wantC ⟨3, 2, true, true, false, 10, 14, 11⟩ sc o := by kernel_rfl
theorem c_3_2_4 (n : Nat) (sc : V) (o : O) : projC (runC n ⟨3, 2, false, false, true, 10, 14, 11⟩ sc o) = wantC ⟨3, 2, false, false, true, 10, 14, 11⟩ sc o := by kernel_rfl
theorem c_3_2_5 (n : Nat) (sc : V) (o : O) : projC (runC n ⟨3, 2, true, false, true, 10, 14, 11⟩ sc o) = wantC ⟨3, 2, true, false, true, 10, 14, 11⟩ sc o := by kernel_rfl
theorem c_3_2_6 (n : Nat) (sc : V) (o : O) : projC (runC n ⟨3, 2, false, true, true, 10, 14, 11⟩ sc o) = wantC ⟨3, 2, false, true, true, 10, 14, 11⟩ sc o := by kernel_rfl
theorem c_3_2_7 (n : Nat) (sc : V) (o : O) : projC (runC n ⟨3, 2, true, true, true, 10, 14, 11⟩ sc o) = wantC ⟨3, 2, true, true, true, 10, 14, 11⟩ sc o := by kernel_rfl
theorem ctor_all {W : Wd} (ok : W.ok) (h1 : W.ro = 10) (h2 : W.pl = 14) (h3 : W.bo = 11) (n : Nat) (sc : V) (o : O) : projC (runC n W sc o) = wantC W sc o := by
  obtain ⟨m, b, v0, v1, v2, ro, pl, bo⟩ := W
  have hm := ok.m
  have hb := ok.b
  clear ok
  simp only at h1 h2 h3 hm hb
  subst h1 h2 h3
  have hc : (m = 2 ∧ b = 0) ∨ (m = 2 ∧ b = 1) ∨ (m = 3 ∧ b = 0) ∨ (m = 3 ∧ b = 1) ∨ (m = 3 ∧ b = 2) := by lia
  rcases hc with ⟨rfl, rfl⟩ | ⟨rfl, rfl⟩ | ⟨rfl, rfl⟩ | ⟨rfl, rfl⟩ | ⟨rfl, rfl⟩
  all_goals cases v0
  all_goals cases v1
  all_goals cases v2
  · exact c_2_0_0 n sc o
  · exact c_2_0_4 n sc o
  · exact c_2_0_2 n sc o
  · exact c_2_0_6 n sc o
  · exact c_2_0_1 n sc o
  · exact c_2_0_5 n sc o
  · exact c_2_0_3 n sc o
  · exact c_2_0_7 n sc o
  · exact c_2_1_0 n sc o
  · exact c_2_1_4 n sc o
  · exact c_2_1_2 n sc o
  · exact c_2_1_6 n sc o
  · exact c_2_1_1 n sc o
  · exact c_2_1_5 n sc o
  · exact c_2_1_3 n sc o
  · exact c_2_1_7 n sc o
  · exact c_3_0_0 n sc o
  · exact c_3_0_4 n sc o
  · exact c_3_0_2 n sc o
  · exact c_3_0_6 n sc o
  · exact c_3_0_1 n sc o
  · exact c_3_0_5 n sc o
  · exact c_3_0_3 n sc o
  · exact c_3_0_7 n sc o
  · exact c_3_1_0 n sc o
  · exact c_3_1_4 n sc o
  · exact c_3_1_2 n sc o
  · exact c_3_1_6 n sc o
  · exact c_3_1_1 n sc o
  · exact c_3_1_5 n sc o
  · exact c_3_1_3 n sc o
  · exact c_3_1_7 n sc o
  · exact c_3_2_0 n sc o
  · exact c_3_2_4 n sc o
  · exact c_3_2_2 n sc o
  · exact c_3_2_6 n sc o
  · exact c_3_2_1 n sc o
  · exact c_3_2_5 n sc o
  · exact c_3_2_3 n sc o
  · exact c_3_2_7 n sc o
end Mine
set_option maxHeartbeats 1000000
namespace Mine
open PySem
theorem w_dict {T : Tab} {n : Nat} {sc : Scope} {fr : Vars} {σ : Sto} {Q : V → Sto → Prop} {ks vs p keys} (hk : keysOf ks = some keys) (h : W (seqE (lvE T n sc fr) vs σ) fun us σ₁ => (keys.length == us.length && decide (keys.length < 10) && decide keys.Nodup) = true ∧ Q (.st σ₁.length) (σ₁ ++ [.dict (keys.zip us)])) : W (lvE T (n + 1) sc fr (.Dict ks vs p) σ) Q := by
  show W (ob (keysOf ks) fun ks => bd (seqE (lvE T n sc fr) vs σ) fun vs σ => gd (ks.length == vs.length && ks.length < 10 && ks.Nodup) (some (.st σ.length, σ ++ [.dict (ks.zip vs)]))) Q
  exact w_ob hk (w_bd (h.mono fun us σ h => w_gd h.1 (w_now h.2)))
noncomputable def stm (i : Nat) : Stmt := ((bodyOf 354)[i]?).getD (.Pass ⟨0, 0, 0, 0⟩)
theorem body_eq : bodyOf 354 = [stm 0, stm 1, stm 2, stm 3] ++ segC ++ [stm 7, stm 8, stm 9, stm 10, stm 11, stm 12] := by kernel_rfl
noncomputable def cellsOf (ns : List Int) : List Int := (ns.take 60).map fun c => (c.natAbs : Int) % 1000003
theorem st0 {n : Nat} {ns : List Int} (hn : ns.length ≤ 63) {X : Fl × Vars → Sto → Prop} (h : X (.next, [(Str.ofString "script", .d (.list (ns.map .int))), (Str.ofString "reel", .st 0)]) [reelO (cellsOf ns) 0]) :
    W (lvX theTab (n + 20) (scOf 354) (stm 0) [(Str.ofString "script", .d (.list (ns.map .int)))] []) X := by
  obtain ⟨b, hb⟩ : ∃ b, b = stm 0 := ⟨_, rfl⟩
  obtain ⟨sc', hsc⟩ : ∃ b, b = scOf 354 := ⟨_, rfl⟩
  rw [← hb, ← hsc]
  conv at hb => rhs; whnf
  conv at hsc => rhs; whnf
  subst hb hsc
  have hz : small (ns.map PyData.int) = true := small_of (by rw [List.length_map]; lia)
  with_reducible
    refine wx_asg (by kernel_rfl!) ?_
    refine wv_plain (by kernel_rfl!) ?_
  refine w_dict (keys := [Str.ofString "cells", Str.ofString "at"]) (by kernel_rfl!) ?_
  with_reducible
    refine ws_cons (by kernel_rfl!) ?_
    refine w_comp (by kernel_rfl!) ?_
  dsimp only
  refine w_to ?_ rfl
  with_reducible
    refine w_var (lk_at 0 (by kernel_rfl!) (by with_unfolding_all rfl)) (by kernel_rfl!) ?_
    refine kk_to ?_
  refine ⟨by decide, hz, ?_⟩
  refine wc_oneI (xs := ((ns.map PyData.int).take 60).map V.d) (by kernel_rfl!) (fun r σ' acc => σ' = [] ∧ ∃ done rest : List Int, ns.take 60 = done ++ rest ∧ r = rest.map (fun i => V.d (.int i)) ∧ acc = done.map fun c => PyData.int ((c.natAbs : Int) % 1000003)) ?_ ?_ ?_ ?_ ?_
  · rintro r σ' acc i _
    exact walks_list i σ'
  · rw [List.length_map, List.length_take]; lia
  · exact ⟨rfl, [], ns.take 60, rfl, by rw [← List.map_take, List.map_map]; rfl, rfl⟩
  · rintro y r σ' acc ⟨rfl, done, rest, e1, e2, rfl⟩
    cases rest with
    | nil => cases e2
    | cons j rest =>
      cases e2
      have hl : (ns.take 60).length ≤ 60 := by rw [List.length_take]; lia
      rw [e1, List.length_append] at hl
      with_reducible
        refine wc_turn ?_
        refine wa_nil ?_
        refine kk_turn_t (by kernel_rfl!) ?_
        refine w_bin ?_
        refine w_glb (by kernel_rfl!) glob_abs (by kernel_rfl!) ?_
        refine ws_var1 (lk_at 0 (by kernel_rfl!) (by with_unfolding_all rfl)) (by kernel_rfl!) ?_
        refine kk_call2 ?_
        refine cv_blt ?_
      dsimp only
      refine b_abs ?_
      with_reducible
        refine kk_bin ?_
        refine w_int ?_
        refine kk_bin2 ?_
        refine p_mod (by lia) (by lia) ?_
        refine kk_put' ?_
      exact ⟨small_of (by rw [List.length_map]; lia), rfl, done ++ [j], rest, by rw [e1, List.append_assoc]; rfl, rfl, by rw [List.map_append]; rfl⟩
  · rintro σ' acc ⟨rfl, done, rest, e1, e2, rfl⟩
    cases rest with
    | cons j rest => cases e2
    | nil =>
      rw [List.append_nil] at e1
      have ec : done.map (fun c => PyData.int ((c.natAbs : Int) % 1000003)) = (cellsOf ns).map PyData.int := by unfold cellsOf; rw [e1, List.map_map]; rfl
      rw [ec]
      with_reducible
        refine kk_li ?_
        refine kk_cons ?_
        refine ws_int2 ?_
      refine ⟨rfl, ?_⟩
      with_reducible
        refine kk_asg ?_
      exact h
theorem st3_turns {t : V → Sto → List PyData → Res (List PyData)} {cs : List Int} {w : O} {C : List PyData → Sto → Prop}
    (ht : ∀ (i p : Nat) (acc : List PyData) (C : List PyData → Sto → Prop), p < 50 → small acc = true → (∀ v : Bool, C (acc ++ if v then [.int i] else []) [reelO cs (p + 1), w]) → W (t (.d (.int i)) [reelO cs p, w] acc) C)
    (h : ∀ v0 v1 v2, C (vsOf v0 v1 v2) [reelO cs 5, w]) : W (compL t [V.d (.int 0), V.d (.int 1), V.d (.int 2)] [reelO cs 2, w] []) C :=
  wc_cons (ht 0 2 _ _ (by decide) (by kernel_rfl) fun v0 => wc_cons (ht 1 3 _ _ (by decide) (by cases v0 <;> kernel_rfl) fun v1 => wc_cons (ht 2 4 _ _ (by decide) (by cases v0 <;> cases v1 <;> kernel_rfl) fun v2 => wc_nil (h v0 v1 v2))))
theorem st3 {n : Nat} {sc : V} {cs : List Int} (hn : cs.length ≤ 60) {many back : Nat} {X : Fl × Vars → Sto → Prop} (h : ∀ v0 v1 v2, X (.next, frC (vsOf v0 v1 v2) sc) [reelO cs 5, worldO many back]) :
    W (lvX theTab (n + 40) (scOf 354) (stm 3) [(Str.ofString "script", sc), (Str.ofString "reel", .st 0), (Str.ofString "world", .st 1)] [reelO cs 2, worldO many back]) X := by
  obtain ⟨b, hb⟩ : ∃ b, b = stm 3 := ⟨_, rfl⟩
  obtain ⟨sc', hsc⟩ : ∃ b, b = scOf 354 := ⟨_, rfl⟩
  rw [← hb, ← hsc]
  conv at hb => rhs; whnf
  conv at hsc => rhs; whnf
  subst hb hsc
  with_reducible
    refine wx_asg (by kernel_rfl!) ?_
    refine wv_comp (by kernel_rfl!) ?_
    refine w_glb (by kernel_rfl!) glob_range (by kernel_rfl!) ?_
    refine ws_int1 ?_
    refine kk_call2 ?_
    refine cv_type ?_
    refine b_range1 (by lia) ?_
    refine kk_comp ?_
  dsimp only
  refine wc_one (by kernel_rfl!) walks_rng (by decide) ?_
  refine st3_turns ?_ h
  intro i p acc C hp hs hC
  have g2 : ([reelO cs p, worldO many back] : Sto)[0]? = some (reelO cs p) := rfl
  refine wc_turn ?_
  with_reducible
    refine wa_cons ?_
    refine wt_cmp (by kernel_rfl!) ?_
    refine w_glb (by kernel_rfl!) glob__law_next (by kernel_rfl!) ?_
    refine ws_var (lk_at 0 (by kernel_rfl!) (by with_unfolding_all rfl)) (by kernel_rfl!) ?_
    refine ws_int2 ?_
    refine kk_call2 ?_
  dsimp only
  refine cv_fun noinit_299 isfn_299 (next_run (by lia) g2 (by lia) (by decide) (by lia) ?_)
  show kCmp _ _ _ _ _ _ _ _ [reelO cs (p + 1), worldO many back]
  with_reducible
    refine kk_cmp ?_
    refine w_int ?_
    refine kk_cmp2 ?_
    refine p_lt ?_
  generalize decide (cellOfReel cs p % 3 < 2) = v
  have hC := hC v
  cases v
  · with_reducible
      refine kk_all_f (by kernel_rfl!) ?_
      refine kk_turn_f (by kernel_rfl!) ?_
    rw [if_neg Bool.false_ne_true, List.append_nil] at hC
    exact hC
  · with_reducible
      refine kk_all_t (by kernel_rfl!) ?_
      refine wa_nil ?_
      refine kk_turn_t (by kernel_rfl!) ?_
      refine w_var (lk_at 1 (by kernel_rfl!) (by with_unfolding_all rfl)) (by kernel_rfl!) ?_
      refine kk_put' ?_
    exact ⟨hs, hC⟩
theorem st123 {n : Nat} {sc : V} {cs : List Int} (hn : cs.length ≤ 60) {X : Fl × Vars → Sto → Prop} (h : ∀ W : Wd, W.ok → W.ro = 10 → W.pl = 14 → W.bo = 11 → X (.next, frC (vsOf W.v0 W.v1 W.v2) sc) [reelO cs 5, worldO W.many W.back]) :
    W (seqS (lvX theTab (n + 60) (scOf 354)) [stm 1, stm 2, stm 3] [(Str.ofString "script", sc), (Str.ofString "reel", .st 0)] [reelO cs 0]) X := by
  obtain ⟨sc', hsc⟩ : ∃ b, b = scOf 354 := ⟨_, rfl⟩
  obtain ⟨b1, hb1⟩ : ∃ b, b = stm 1 := ⟨_, rfl⟩
  obtain ⟨b2, hb2⟩ : ∃ b, b = stm 2 := ⟨_, rfl⟩
  have k3 := fun v (many back : Nat) X => @st3 (n + 20) v cs hn many back X
  obtain ⟨b3, hb3⟩ : ∃ b, b = stm 3 := ⟨_, rfl⟩
  rw [← hb3, ← hsc] at k3
  rw [← hb1, ← hb2, ← hb3, ← hsc]
  conv at hb1 => rhs; whnf
  conv at hb2 => rhs; whnf
  conv at hsc => rhs; whnf
  clear hb3
  subst hb1 hb2 hsc
  have g0 : ([reelO cs 0] : Sto)[0]? = some (reelO cs 0) := rfl
  with_reducible
    refine wq_cons ?_
    refine wx_asg (by kernel_rfl!) ?_
    refine wv_plain (by kernel_rfl!) ?_
  refine w_dict (keys := [Str.ofString "many"]) (by kernel_rfl!) ?_
  with_reducible
    refine ws_cons (by kernel_rfl!) ?_
    refine w_bin ?_
    refine w_int ?_
    refine kk_bin ?_
    refine w_glb (by kernel_rfl!) glob__law_next (by kernel_rfl!) ?_
    refine ws_var (lk_at 1 (by kernel_rfl!) (by with_unfolding_all rfl)) (by kernel_rfl!) ?_
    refine ws_int2 ?_
    refine kk_call2 ?_
  dsimp only
  refine cv_fun noinit_299 isfn_299 (next_run (by lia) g0 (by lia) (by lia) (by lia) ?_)
  with_reducible
    refine kk_bin2 ?_
    refine p_add ?_
    refine kk_end1 ?_
  refine ⟨rfl, ?_⟩
  with_reducible
    refine kk_asg ?_
    refine kk_next ?_
    refine wx_asub ?_
    refine w_glb (by kernel_rfl!) glob__law_next (by kernel_rfl!) ?_
    refine ws_var (lk_at 1 (by kernel_rfl!) (by with_unfolding_all rfl)) (by kernel_rfl!) ?_
    refine ws_cons (by kernel_rfl!) ?_
    refine w_subs (lk_at 2 (by kernel_rfl!) (by with_unfolding_all rfl)) (by kernel_rfl!) ?_
  refine ⟨_, rfl, ?_⟩
  with_reducible
    refine kk_end2 ?_
    refine kk_call2 ?_
  dsimp only
  obtain ⟨many, hm, hm2⟩ : ∃ many : Nat, 2 + cellOfReel cs 0 % 2 = (many : Int) ∧ (many = 2 ∨ many = 3) := ⟨(2 + cellOfReel cs 0 % 2).toNat, by lia, by lia⟩
  rw [hm]
  generalize hσ₁ : List.set ([reelO cs 0] : Sto) 0 _ ++ _ = σ₁
  have e₁ : σ₁ = [reelO cs 1, .dict [(Str.ofString "many", .d (.int many))]] := hσ₁.symm
  subst e₁
  have g1 : ([reelO cs 1, .dict [(Str.ofString "many", .d (.int many))]] : Sto)[0]? = some (reelO cs 1) := rfl
  have g2 : ([reelO cs 1, .dict [(Str.ofString "many", .d (.int many))]] : Sto)[1]? = some (.dict [(Str.ofString "many", .d (.int many))]) := rfl
  refine cv_fun noinit_299 isfn_299 (next_run (by lia) g1 (by lia) (by lia) (by lia) ?_)
  obtain ⟨back, hb, hb2⟩ : ∃ back : Nat, cellOfReel cs 1 % (many : Int) = (back : Int) ∧ back < many := ⟨(cellOfReel cs 1 % (many : Int)).toNat, by have := Int.emod_nonneg (cellOfReel cs 1) (b := (many : Int)) (by lia); lia, by have := Int.emod_nonneg (cellOfReel cs 1) (b := (many : Int)) (by lia); have := Int.emod_lt_of_pos (cellOfReel cs 1) (b := (many : Int)) (by lia); lia⟩
  rw [hb]
  generalize hσ₂ : List.set ([reelO cs 1, .dict [(Str.ofString "many", .d (.int many))]] : Sto) 0 _ = σ₂
  have e₂ : σ₂ = [reelO cs 2, .dict [(Str.ofString "many", .d (.int many))]] := hσ₂.symm
  subst e₂
  clear g1 g2 g0
  have g2 : ([reelO cs 2, .dict [(Str.ofString "many", .d (.int many))]] : Sto)[1]? = some (.dict [(Str.ofString "many", .d (.int many))]) := rfl
  with_reducible
    refine kk_asub ?_
    refine w_var (lk_at 2 (by kernel_rfl!) (by with_unfolding_all rfl)) (by kernel_rfl!) ?_
    refine kk_asub2 ?_
    refine w_str ?_
    refine kk_asub3 ?_
  dsimp only
  refine ⟨1, Str.ofString "back", _, rfl, rfl, g2, rfl, ?_⟩
  generalize hσ₃ : List.set ([reelO cs 2, .dict [(Str.ofString "many", .d (.int many))]] : Sto) 1 _ = σ₃
  have gp : putD [(Str.ofString "many", V.d (.int many))] (Str.ofString "back") (V.d (.int back)) = [(Str.ofString "many", .d (.int many)), (Str.ofString "back", .d (.int back))] := by
    simp only [putD, List.any_cons, List.map_cons, ofString_beq, List.any_nil, List.map_nil, String.reduceBEq, beq_self_eq_true]; rfl
  have e₃ : σ₃ = [reelO cs 2, worldO many back] := by rw [← hσ₃, gp]; rfl
  subst e₃
  clear hσ₃
  refine wq_cons ?_
  refine k3 sc many back _ fun v0 v1 v2 => ?_
  with_reducible
    refine kk_seq_n ?_
    refine wq_nil ?_
  exact h ⟨many, back, v0, v1, v2, 10, 14, 11⟩ ⟨hm2, hb2, show (10 : Nat) ≠ 14 by decide⟩ rfl rfl rfl
end Mine
set_option maxHeartbeats 1000000
namespace Mine
open PySem
variable {W : Wd} {cs : List Int} {wo : O}
structure Mn (W : Wd) (cs : List Int) (k m : Nat) (wo : O) (σ : Sto) : Prop where
  r : σ[0]? = some (reelO cs k)
  w : σ[1]? = some wo
  s : St W σ m
structure Good (W : Wd) : Prop where
  ok : W.ok
  ro : W.ro = 10
  pl : W.pl = 14
  bo : W.bo = 11
theorem Mn.reel {k m σ} (g : Good W) (h : Mn W cs k m wo σ) (k' : Nat) : Mn W cs k' m wo (σ.set 0 (reelO cs k')) :=
  ⟨getElem?_set_self' h.r, by rw [List.getElem?_set_ne (by lia)]; exact h.w, h.s.ex (i := 0) (by rw [g.ro]; lia) (by rw [g.pl]; lia) rfl⟩
theorem Mn.push {k m σ l} (h : Mn W cs k m wo σ) : Mn W cs k m wo (σ ++ l) := ⟨getElem?_append_some h.r, getElem?_append_some h.w, h.s.push⟩
theorem Mn.ex {k m m' σ σ'} (g : Good W) (h : Mn W cs k m wo σ) (x : Ex W.ro σ σ') (s : St W σ' m') : Mn W cs k m' wo σ' := ⟨x.at (by rw [g.ro]; lia) h.r, x.at (by rw [g.ro]; lia) h.w, s⟩
theorem Mn.pre {k m σ σ'} (h : Mn W cs k m wo σ) (x : Pre σ σ') : Mn W cs k m wo σ' := ⟨x.at h.r, x.at h.w, x.at h.s.ro, x.at h.s.pl⟩
theorem segB {n : Nat} (g : Good W) {sc : V} {X : Fl × Vars → Sto → Prop} (h : ∀ σ, Mn W cs 5 0 (worldO W.many W.back) σ → X (.next, frC (vsOf W.v0 W.v1 W.v2) sc ++ [(Str.ofString "bounds", .st 4), (Str.ofString "name", .d (.str (Str.ofString "w"))), (Str.ofString "roller", .st 10)]) σ) :
    Mine.W (seqS (lvX theTab (n + 60) (scOf 354)) segC (frC (vsOf W.v0 W.v1 W.v2) sc) [reelO cs 5, worldO W.many W.back]) X := by
  have e := ctor_all g.ok g.ro g.pl g.bo n sc (reelO cs 5)
  unfold runC at e
  cases q : seqS (lvX theTab (n + 60) (scOf 354)) segC (frC (vsOf W.v0 W.v1 W.v2) sc) [reelO cs 5, worldO W.many W.back] with
  | none => rw [q] at e; cases e
  | some p =>
    obtain ⟨⟨fl, fr⟩, σ⟩ := p
    rw [q] at e
    cases fl with
    | ret v => cases e
    | next =>
      have e : some (fr, σ[0]?, σ[1]?, σ[10]?, σ[14]?) = wantC W sc (reelO cs 5) := e
      unfold wantC at e
      injection e with e
      injection e with e1 e
      injection e with e2 e
      injection e with e3 e
      injection e with e4 e5
      refine ⟨_, _, rfl, ?_⟩
      rw [e1]
      exact h σ ⟨e2, e3, by rw [g.ro]; exact e4, by rw [g.pl]; exact e5⟩
theorem st7 {n : Nat} (g : Good W) (hn : cs.length ≤ 60) {fr : Vars} {σ : Sto} {k m : Nat} (hk : k < 1000) (hs : Mn W cs k m wo σ) (v1 : fr.lookup (Str.ofString "reel") = some (.st 0)) {X : Fl × Vars → Sto → Prop}
    (h : ∀ f h : Fm, f.ok → h.ok → f.cost ≤ 61 → h.cost ≤ 61 → f.dp ≤ 1 → h.dp ≤ 1 → ∀ k' σ', k' ≤ k + 22 → Mn W cs k' m wo σ' → X (.next, putV (putV fr (Str.ofString "f") (.d f.node)) (Str.ofString "g") (.d h.node)) σ') : Mine.W (lvX theTab (n + 60) (scOf 354) (stm 7) fr σ) X := by
  obtain ⟨b, hb⟩ : ∃ b, b = stm 7 := ⟨_, rfl⟩
  obtain ⟨sc', hsc⟩ : ∃ b, b = scOf 354 := ⟨_, rfl⟩
  rw [← hb, ← hsc]
  conv at hb => rhs; whnf
  conv at hsc => rhs; whnf
  subst hb hsc
  refine wx_asgTt (by kernel_rfl!) (by kernel_rfl!) ?_
  with_reducible
    refine ws_cons (by kernel_rfl!) ?_
    refine w_glb (by kernel_rfl!) glob__law_claim (by kernel_rfl!) ?_
    refine ws_var (by assumption) (by kernel_rfl!) ?_
    refine ws_int2 ?_
    refine kk_call2 ?_
  refine cv_fun noinit_313 isfn_313 (claim1_run (by lia) hs.r (by lia) (by lia) fun f k₁ o₁ c₁ d₁ l₁ => ?_)
  have hs₁ := hs.reel g k₁
  with_reducible
    refine kk_more (by kernel_rfl!) ?_
    refine w_glb (by kernel_rfl!) glob__law_claim (by kernel_rfl!) ?_
    refine ws_var (by assumption) (by kernel_rfl!) ?_
    refine ws_int2 ?_
    refine kk_call2 ?_
  refine cv_fun noinit_313 isfn_313 (claim1_run (by lia) hs₁.r (by lia) (by lia) fun f' k₂ o₂ c₂ d₂ l₂ => ?_)
  have hs₂ := hs₁.reel g k₂
  with_reducible
    refine kk_end2 ?_
  refine ⟨_, rfl, ?_⟩
  exact h f f' o₁ o₂ c₁ c₂ d₁ d₂ k₂ _ (by lia) hs₂
theorem hc_free {fr : Vars} {l : List (Str × NameKind)} {sc : Scope} {x : Str} {it : Expr} (h1 : (!canSet sc x || isSetE it) = false) (h2 : (l.lookup x == some NameKind.free) = false) : (!canSet sc x || isSetE it || ((fr.filter fun p => l.lookup p.1 == some .free).lookup x).isSome) = false := by
  rw [h1, lookup_free, h2]; rfl
theorem emod_nat (x : Int) {m : Nat} (hm : 0 < m) : ∃ b : Nat, x % (m : Int) = (b : Int) ∧ b < m := by
  have h1 := Int.emod_nonneg x (b := (m : Int)) (by lia)
  have h2 := Int.emod_lt_of_pos x (b := (m : Int)) (by lia)
  exact ⟨(x % (m : Int)).toNat, by lia, by lia⟩
theorem st8 {n : Nat} (g : Good W) (hn : cs.length ≤ 60) {fr : Vars} {σ : Sto} {k m : Nat} (hk : k < 1000) (hs : Mn W cs k m (worldO W.many W.back) σ) (v1 : fr.lookup (Str.ofString "reel") = some (.st 0)) (v2 : fr.lookup (Str.ofString "world") = some (.st 1)) {X : Fl × Vars → Sto → Prop}
    (h : ∀ line : List Nat, line.length ≤ 5 → (∀ j ∈ line, j < W.many) → ∀ k' σ', k' ≤ k + 6 → Mn W cs k' m (worldO W.many W.back) σ' → X (.next, putV fr (Str.ofString "line") (.d (.list (line.map intD)))) σ') : Mine.W (lvX theTab (n + 60) (scOf 354) (stm 8) fr σ) X := by
  have hm := g.ok.m
  obtain ⟨b, hb⟩ : ∃ b, b = stm 8 := ⟨_, rfl⟩
  obtain ⟨sc', hsc⟩ : ∃ b, b = scOf 354 := ⟨_, rfl⟩
  rw [← hb, ← hsc]
  conv at hb => rhs; whnf
  conv at hsc => rhs; whnf
  subst hb hsc
  with_reducible
    refine wx_asg (by kernel_rfl!) ?_
    refine wv_comp (by kernel_rfl!) ?_
    refine w_glb (by kernel_rfl!) glob_range (by kernel_rfl!) ?_
    refine ws_cons (by kernel_rfl!) ?_
    refine w_glb (by kernel_rfl!) glob__law_next (by kernel_rfl!) ?_
    refine ws_var (by assumption) (by kernel_rfl!) ?_
    refine ws_int2 ?_
    refine kk_call2 ?_
  dsimp only
  refine cv_fun noinit_299 isfn_299 (next_run (by lia) hs.r (by lia) (by lia) (by lia) ?_)
  obtain ⟨d, hd, hd2⟩ := emod_nat (cellOfReel cs k) (m := 6) (by lia)
  have hd : cellOfReel cs k % 6 = (d : Int) := hd
  rw [hd]
  have hs₁ := hs.reel g (k + 1)
  generalize List.set σ 0 (reelO cs (k + 1)) = σ₁ at hs₁ ⊢
  with_reducible
    refine kk_end1 ?_
    refine kk_call2 ?_
    refine cv_type ?_
    refine b_range1 (by lia) ?_
    refine kk_comp ?_
  have e0 : ((d : Int) - 0).toNat = d := by lia
  refine wc_oneI (xs := (numsUp 0 d).map fun i => V.d (.int i)) (hc_free (by kernel_rfl!) (by kernel_rfl!)) (fun r σ' acc => ∃ (line : List Nat) (k' : Nat), line.length + r.length = d ∧ (∀ j ∈ line, j < W.many) ∧ acc = line.map intD ∧ k' = k + 1 + line.length ∧ Mn W cs k' m (worldO W.many W.back) σ') ?_ ?_ ?_ ?_ ?_
  · intro r σ' acc i _
    rw [walks_rng i σ', e0]
  · rw [List.length_map, numsUp_len]; lia
  · exact ⟨[], k + 1, by rw [List.length_map, numsUp_len, List.length_nil]; lia, (fun _ hj => nomatch hj), rfl, rfl, hs₁⟩
  · rintro y r σ' acc ⟨line, k', e1, e2, rfl, e3, hs'⟩
    rw [List.length_cons] at e1
    have g1 := hs'.w
    with_reducible
      refine wc_turn ?_
      refine wa_nil ?_
      refine kk_turn_t (by kernel_rfl!) ?_
      refine w_glb (by kernel_rfl!) glob__law_next (by kernel_rfl!) ?_
      refine ws_var (lk_past (by kernel_rfl!) (lk_free (by kernel_rfl!) (by assumption))) (by kernel_rfl!) ?_
      refine ws_cons (by kernel_rfl!) ?_
      refine w_subs (lk_past (by kernel_rfl!) (lk_free (by kernel_rfl!) (by assumption))) (by kernel_rfl!) ?_
      refine ⟨_, sb_dict (by assumption) (lk_at 0 (by kernel_rfl!) (by with_unfolding_all rfl)), ?_⟩
      refine kk_end2 ?_
      refine kk_call2 ?_
    dsimp only
    refine cv_fun noinit_299 isfn_299 (next_run (by lia) hs'.r (by lia) (by lia) (by lia) ?_)
    obtain ⟨j, hj, hj2⟩ := emod_nat (cellOfReel cs k') (m := W.many) (by lia)
    rw [hj]
    refine ⟨_, rfl, small_of (by rw [List.length_map]; lia), line ++ [j], k' + 1, by rw [List.length_append, List.length_singleton]; lia, ?_, by rw [List.map_append]; rfl, by rw [List.length_append, List.length_singleton]; lia, hs'.reel g _⟩
    intro x hx
    rcases List.mem_append.mp hx with hx | hx
    · exact e2 x hx
    · rw [List.mem_singleton] at hx; subst hx; exact hj2
  · rintro σ' acc ⟨line, k', e1, e2, rfl, e3, hs'⟩
    rw [List.length_nil] at e1
    with_reducible
      refine kk_li ?_
      refine kk_asg ?_
    exact h line (by lia) e2 k' σ' (by lia) hs'
end Mine
set_option maxHeartbeats 1000000
namespace Mine
open PySem
variable {W : Wd} {cs : List Int} {wo : O}
noncomputable abbrev foundO (W : Wd) (f h : Fm) (line : List Nat) : O := .dict [(Str.ofString "until", .d (untP true (f.res W) (h.res W) line)), (Str.ofString "releases", .d (untP false (f.res W) (h.res W) line))]
theorem untP_eq {u F G line} : untP u F G line = .tuple [if u then sD "or" else sD "and", .tuple (waysP u F G [] line)] := rfl
/-- told_until of the drawn ones along a line of data -/
theorem tuf (g : Good W) {f h : Fm} (fo : f.ok) (ho : h.ok) (fc : f.cost ≤ 61) (hc : h.cost ≤ 61) (fd : f.dp ≤ 1) (hd : h.dp ≤ 1) (u : Bool) {N : Nat} (hN : 240 ≤ N) {xs : List Nat} (hx : ∀ j ∈ xs, j < W.many) (hl : xs.length ≤ 5) {σ : Sto} {line : V}
    (hline : ∀ σ', Ex W.ro σ σ' → ∀ i : Nat, itemAt σ' line i = some ((xs.map fun j : Nat => V.d (.int j))[i]?)) {m : Nat} (hs : St W σ m) (hm : m + 2000 ≤ 200000) {Q : V → Sto → Prop}
    (k : ∀ σ' m', St W σ' m' → Ex W.ro σ σ' → m ≤ m' → m' ≤ m + 2000 → Q (.d (untP u (f.res W) (h.res W) xs)) σ') : Mine.W (lvC theTab N 285 [.st W.ro, .d (if u then sD "until" else sD "releases"), .d f.node, .d h.node, line] σ) Q := by
  have q1 : xs.length * 61 ≤ 5 * 61 := Nat.mul_le_mul_right _ hl
  have q2 : xs.length * (61 + xs.length * 61) ≤ 5 * (61 + 5 * 61) := Nat.mul_le_mul hl (by lia)
  exact tu_run g.ok u ((told_run g.ok f fo).mono (c' := 61) (N' := 180) (by lia) fc) ((told_run g.ok h ho).mono (c' := 61) (N' := 180) (by lia) hc) (by lia) hx hl hline hs (by lia) fun σ' m' a b c d => k σ' m' a b c (by lia)
theorem tuf_t (g : Good W) {f h : Fm} (fo : f.ok) (ho : h.ok) (fc : f.cost ≤ 61) (hc : h.cost ≤ 61) (fd : f.dp ≤ 1) (hd : h.dp ≤ 1) {N : Nat} (hN : 240 ≤ N) {xs : List Nat} (hx : ∀ j ∈ xs, j < W.many) (hl : xs.length ≤ 5) {σ : Sto} {line : V}
    (hline : ∀ σ', Ex W.ro σ σ' → ∀ i : Nat, itemAt σ' line i = some ((xs.map fun j : Nat => V.d (.int j))[i]?)) {m : Nat} (hs : St W σ m) (hm : m + 2000 ≤ 200000) {Q : V → Sto → Prop}
    (k : ∀ σ' m', St W σ' m' → Ex W.ro σ σ' → m ≤ m' → m' ≤ m + 2000 → Q (.d (untP true (f.res W) (h.res W) xs)) σ') : Mine.W (lvC theTab N 285 [.st W.ro, .d (.str (Str.ofString "until")), .d f.node, .d h.node, line] σ) Q := tuf g fo ho fc hc fd hd true hN hx hl hline hs hm k
theorem tuf_f (g : Good W) {f h : Fm} (fo : f.ok) (ho : h.ok) (fc : f.cost ≤ 61) (hc : h.cost ≤ 61) (fd : f.dp ≤ 1) (hd : h.dp ≤ 1) {N : Nat} (hN : 240 ≤ N) {xs : List Nat} (hx : ∀ j ∈ xs, j < W.many) (hl : xs.length ≤ 5) {σ : Sto} {line : V}
    (hline : ∀ σ', Ex W.ro σ σ' → ∀ i : Nat, itemAt σ' line i = some ((xs.map fun j : Nat => V.d (.int j))[i]?)) {m : Nat} (hs : St W σ m) (hm : m + 2000 ≤ 200000) {Q : V → Sto → Prop}
    (k : ∀ σ' m', St W σ' m' → Ex W.ro σ σ' → m ≤ m' → m' ≤ m + 2000 → Q (.d (untP false (f.res W) (h.res W) xs)) σ') : Mine.W (lvC theTab N 285 [.st W.ro, .d (.str (Str.ofString "releases")), .d f.node, .d h.node, line] σ) Q := tuf g fo ho fc hc fd hd false hN hx hl hline hs hm k
theorem hline_d {xs : List Nat} {r : Nat} {σ : Sto} : ∀ σ', Ex r σ σ' → ∀ i : Nat, itemAt σ' (.d (.list (xs.map intD))) i = some ((xs.map fun j : Nat => V.d (.int j))[i]?) := fun σ' _ i => by rw [walks_list i σ', List.map_map]; rfl
theorem st9 {n : Nat} (g : Good W) {f h : Fm} (fo : f.ok) (ho : h.ok) (fc : f.cost ≤ 61) (hc : h.cost ≤ 61) (fd : f.dp ≤ 1) (hd : h.dp ≤ 1) {line : List Nat} (hl : line.length ≤ 5) (hx : ∀ j ∈ line, j < W.many) {fr : Vars} {σ : Sto} {k m : Nat} (hm : m + 4000 ≤ 200000) (hs : Mn W cs k m wo σ)
    (v1 : fr.lookup (Str.ofString "roller") = some (.st W.ro)) (v2 : fr.lookup (Str.ofString "f") = some (.d f.node)) (v3 : fr.lookup (Str.ofString "g") = some (.d h.node)) (v4 : fr.lookup (Str.ofString "line") = some (.d (.list (line.map intD)))) {X : Fl × Vars → Sto → Prop}
    (kk : ∀ σ' m' fo, m' ≤ m + 4000 → 14 < fo → Mn W cs k m' wo σ' → σ'[fo]? = some (foundO W f h line) → X (.next, putV fr (Str.ofString "found") (.st fo)) σ') : Mine.W (lvX theTab (n + 260) (scOf 354) (stm 9) fr σ) X := by
  have hst := hs.s
  obtain ⟨b, hb⟩ : ∃ b, b = stm 9 := ⟨_, rfl⟩
  obtain ⟨sc', hsc⟩ : ∃ b, b = scOf 354 := ⟨_, rfl⟩
  rw [← hb, ← hsc]
  conv at hb => rhs; whnf
  conv at hsc => rhs; whnf
  subst hb hsc
  have h1 := hs.s.ro
  with_reducible
    refine wx_asg (by kernel_rfl!) ?_
    refine wv_plain (by kernel_rfl!) ?_
    refine w_glb (by kernel_rfl!) glob_dict (by kernel_rfl!) ?_
    refine ws_cons (by kernel_rfl!) ?_
    refine w_comp (by kernel_rfl!) ?_
    refine w_strs2 ?_
    refine kk_comp ?_
  dsimp only
  refine wc_one (hc_free (by kernel_rfl!) (by kernel_rfl!)) walks_tuple (by simp) ?_
  show Mine.W (compL _ [V.d (sD "until"), V.d (sD "releases")] _ _) _
  refine wc_cons (wc_turn ?_)
  with_reducible
    refine wa_nil ?_
    refine kk_turn_t (by kernel_rfl!) ?_
    refine w_tuple ?_
    refine ws_var lk_put (by kernel_rfl!) ?_
    refine ws_cons (by kernel_rfl!) ?_
    refine w_methv (by kernel_rfl!) (lk_past (by kernel_rfl!) (lk_free (by kernel_rfl!) (by assumption))) (by kernel_rfl!) ?_
    refine kk_meth (by assumption) meth_288_told_until (lk_miss (by kernel_rfl!) (lk_miss (by kernel_rfl!) (lk_miss (by kernel_rfl!) (lk_miss (by kernel_rfl!) (lk_miss (by kernel_rfl!) lk_nil))))) isfn_285 ?_
    refine ws_var lk_put (by kernel_rfl!) ?_
    refine ws_var (lk_past (by kernel_rfl!) (lk_free (by kernel_rfl!) (by assumption))) (by kernel_rfl!) ?_
    refine ws_var (lk_past (by kernel_rfl!) (lk_free (by kernel_rfl!) (by assumption))) (by kernel_rfl!) ?_
    refine ws_var3 (lk_past (by kernel_rfl!) (lk_free (by kernel_rfl!) (by assumption))) (by kernel_rfl!) ?_
    refine kk_cons2 ?_
    refine kk_meth2 ?_
  refine tuf_t g fo ho fc hc fd hd (by lia) hx hl hline_d hst (by lia) fun σ₁ m₁ hs₁ x₁ l₁ l₁' => ?_
  clear h1
  have h1 := hs₁.ro
  with_reducible
    refine kk_end2 ?_
    refine kk_tup (by with_unfolding_all rfl) (by kernel_rfl!) ?_
    refine kk_put (by kernel_rfl!) ?_
    refine kk_turns ?_
    refine wc_cons ?_
    refine wc_turn ?_
    refine wa_nil ?_
    refine kk_turn_t (by kernel_rfl!) ?_
    refine w_tuple ?_
    refine ws_var lk_put (by kernel_rfl!) ?_
    refine ws_cons (by kernel_rfl!) ?_
    refine w_methv (by kernel_rfl!) (lk_past (by kernel_rfl!) (lk_free (by kernel_rfl!) (by assumption))) (by kernel_rfl!) ?_
    refine kk_meth (by assumption) meth_288_told_until (lk_miss (by kernel_rfl!) (lk_miss (by kernel_rfl!) (lk_miss (by kernel_rfl!) (lk_miss (by kernel_rfl!) (lk_miss (by kernel_rfl!) lk_nil))))) isfn_285 ?_
    refine ws_var lk_put (by kernel_rfl!) ?_
    refine ws_var (lk_past (by kernel_rfl!) (lk_free (by kernel_rfl!) (by assumption))) (by kernel_rfl!) ?_
    refine ws_var (lk_past (by kernel_rfl!) (lk_free (by kernel_rfl!) (by assumption))) (by kernel_rfl!) ?_
    refine ws_var3 (lk_past (by kernel_rfl!) (lk_free (by kernel_rfl!) (by assumption))) (by kernel_rfl!) ?_
    refine kk_cons2 ?_
    refine kk_meth2 ?_
  refine tuf_f g fo ho fc hc fd hd (by lia) hx hl hline_d hs₁ (by lia) fun σ₂ m₂ hs₂ x₂ l₂ l₂' => ?_
  with_reducible
    refine kk_end2 ?_
    refine kk_tup (by with_unfolding_all rfl) (by kernel_rfl!) ?_
    refine kk_put (by kernel_rfl!) ?_
    refine kk_turns ?_
    refine wc_nil ?_
    refine kk_li ?_
    refine kk_end1 ?_
    refine kk_call2 ?_
    refine cv_type ?_
  show Mine.W (callBlt (.type "dict") [.d (.list [.tuple [.str (Str.ofString "until"), _], .tuple [.str (Str.ofString "releases"), _]])] σ₂) _
  refine b_dict2 (by kernel_rfl!) ?_
  have hlen : W.pl < σ₂.length := (List.getElem?_eq_some_iff.mp hs₂.pl).1
  have hpl := g.pl
  exact kk _ m₂ σ₂.length (by lia) (by lia) ((hs.ex g (x₁.trans x₂) hs₂).push) (by simp)
/-! told makes of it there what told_until makes -/
noncomputable def inn10 : Stmt := match stm 10 with
  | .For _ _ [_, s] _ _ => s
  | _ => .Pass ⟨0, 0, 0, 0⟩
structure Fs (W : Wd) (f h : Fm) : Prop where
  fo : f.ok
  ho : h.ok
  fc : f.cost ≤ 61
  hc : h.cost ≤ 61
  fd : f.dp ≤ 1
  hd : h.dp ≤ 1
theorem lineN_eq (k : Nat) : lineN W.many W.back k = W.line k := rfl
theorem eqv_untP (u : Bool) (f h : Fm) (q : Fs W f h) (line : List Nat) : PyData.eqv (untP u (f.res W) (h.res W) line) (untP u (f.res W) (h.res W) line) = true ∧ shapedD (untP u (f.res W) (h.res W) line) = true := by
  have := sh_untP u (F := f.res W) (G := h.res W) (n := 6) (fun j => (sh_res f j).mono (by have := q.fd; lia)) (fun j => (sh_res h j).mono (by have := q.hd; lia)) line
  exact ⟨eqv_refl _ this.lay, this.shaped (by lia)⟩
theorem st10in {n : Nat} (g : Good W) {f h : Fm} (q : Fs W f h) (u : Bool) {line : List Nat} {fr : Vars} {σ : Sto} {k m fo : Nat} (hm : m + 12000 ≤ 200000) (hfo : 14 < fo) (hs : Mn W cs k m (worldO W.many W.back) σ) (hf : σ[fo]? = some (foundO W f h line))
    (v1 : fr.lookup (Str.ofString "roller") = some (.st W.ro)) (v2 : fr.lookup (Str.ofString "f") = some (.d f.node)) (v3 : fr.lookup (Str.ofString "g") = some (.d h.node)) (v4 : fr.lookup (Str.ofString "world") = some (.st 1))
    (v5 : fr.lookup (Str.ofString "op") = some (.d (if u then sD "until" else sD "releases"))) {X : Fl × Vars → Sto → Prop}
    (kk : ∀ σ' m' fr', m' ≤ m + 12000 → Mn W cs k m' (worldO W.many W.back) σ' → σ'[fo]? = some (foundO W f h line) → (∀ x, x ≠ Str.ofString "k" → fr'.lookup x = fr.lookup x) → X (.next, fr') σ') : Mine.W (lvX theTab (n + 270) (scOf 354) inn10 fr σ) X := by
  obtain ⟨u', hu⟩ : ∃ u', u' = u := ⟨u, rfl⟩
  have T := told_unt g.ok u' ((told_run g.ok f q.fo).mono (c' := 61) (N' := 180) (by have := q.fd; lia) q.fc) ((told_run g.ok h q.ho).mono (c' := 61) (N' := 180) (by have := q.hd; lia) q.hc)
  have go := fun N hN xs hx hl σ line hline m hs hm Q k => @tuf W g f h q.fo q.ho q.fc q.hc q.fd q.hd u' N hN xs hx hl σ line hline m hs hm Q k
  have E := eqv_untP (W := W) u' f h q
  have hm3 := g.ok.m
  have hro := g.ro
  rw [hu] at T go
  cases u
  all_goals
    simp only [if_true, Bool.false_eq_true, if_false, sD] at T go v5
    rw [← hu] at T go
    obtain ⟨b, hb⟩ : ∃ b, b = inn10 := ⟨_, rfl⟩
    obtain ⟨sc', hsc⟩ : ∃ b, b = scOf 354 := ⟨_, rfl⟩
    rw [← hb, ← hsc]
    conv at hb => rhs; whnf
    conv at hsc => rhs; whnf
    subst hb hsc
    have g1 := hs.w
    refine wx_forI (by kernel_rfl!) ?_
    with_reducible
      refine w_glb (by kernel_rfl!) glob_range (by kernel_rfl!) ?_
      refine ws_cons (by kernel_rfl!) ?_
      refine w_subs (by assumption) (by kernel_rfl!) ?_
      refine ⟨_, sb_dict (by assumption) (lk_at 0 (by kernel_rfl!) (by with_unfolding_all rfl)), ?_⟩
      refine kk_end1 ?_
      refine kk_call2 ?_
      refine cv_type ?_
      refine b_range1 (by lia) ?_
    refine ⟨(numsUp 0 W.many).map fun i => V.d (.int i), fun r fr' σ' => ∃ (j m' : Nat), j + r.length = W.many ∧ r = (numsUp j r.length).map (fun i => V.d (.int i)) ∧ m' ≤ m + j * 4000 ∧ Mn W cs k m' (worldO W.many W.back) σ' ∧ σ'[fo]? = some (foundO W f h line) ∧ ∀ x, x ≠ Str.ofString "k" → fr'.lookup x = fr.lookup x, ?_, ?_, ?_, ?_, ?_⟩
    · intro r fr σ' i _
      rw [walks_rng i σ', show ((W.many : Int) - 0).toNat = W.many by lia]
    · rw [List.length_map, numsUp_len]; lia
    · exact ⟨0, m, by rw [List.length_map, numsUp_len]; lia, by rw [List.length_map, numsUp_len]; rfl, by lia, hs, hf, fun _ _ => rfl⟩
    · rintro y r fr' σ' ⟨j, m', e1, e2, l, hs', hf', hfr⟩
      rw [List.length_cons] at e1 e2
      rw [numsUp_succ, List.map_cons] at e2
      injection e2 with e2 e3
      subst e2
      have w1 := (hfr (Str.ofString "roller") (fun z => absurd (ofString_inj z) (by decide))).trans v1
      have w2 := (hfr (Str.ofString "f") (fun z => absurd (ofString_inj z) (by decide))).trans v2
      have w3 := (hfr (Str.ofString "g") (fun z => absurd (ofString_inj z) (by decide))).trans v3
      have w4 := (hfr (Str.ofString "world") (fun z => absurd (ofString_inj z) (by decide))).trans v4
      have w5 := (hfr (Str.ofString "op") (fun z => absurd (ofString_inj z) (by decide))).trans v5
      have hj : j < W.many := by lia
      have h1 := hs'.s.ro
      with_reducible
        refine wq_cons ?_
        refine wx_if ?_
        refine wt_cmp (by kernel_rfl!) ?_
        refine w_methv (by kernel_rfl!) (lk_past (by kernel_rfl!) (by assumption)) (by kernel_rfl!) ?_
        refine kk_meth (by assumption) meth_288_told (lk_miss (by kernel_rfl!) (lk_miss (by kernel_rfl!) (lk_miss (by kernel_rfl!) (lk_miss (by kernel_rfl!) (lk_miss (by kernel_rfl!) lk_nil))))) isfn_278 ?_
        refine ws_cons (by kernel_rfl!) ?_
        refine w_tuple ?_
        refine ws_var (lk_past (by kernel_rfl!) (by assumption)) (by kernel_rfl!) ?_
        refine ws_var (lk_past (by kernel_rfl!) (by assumption)) (by kernel_rfl!) ?_
        refine ws_var3 (lk_past (by kernel_rfl!) (by assumption)) (by kernel_rfl!) ?_
        refine kk_tup (by with_unfolding_all rfl) (by kernel_rfl!) ?_
        refine kk_cons ?_
        refine ws_var2 lk_put (by kernel_rfl!) ?_
        refine kk_meth2 ?_
      dsimp only
      refine T _ _ _ _ _ (by lia) hs'.s hj (by lia) fun σ₁ m₁ hs₁ x₁ l₁ l₁' => ?_
      have hs₁ := hs'.ex g x₁ hs₁
      clear h1
      have h1 := hs₁.s.ro
      with_reducible
        refine kk_cmp ?_
        refine w_methv (by kernel_rfl!) (lk_past (by kernel_rfl!) (by assumption)) (by kernel_rfl!) ?_
        refine kk_meth (by assumption) meth_288_told_until (lk_miss (by kernel_rfl!) (lk_miss (by kernel_rfl!) (lk_miss (by kernel_rfl!) (lk_miss (by kernel_rfl!) (lk_miss (by kernel_rfl!) lk_nil))))) isfn_285 ?_
        refine ws_var (lk_past (by kernel_rfl!) (by assumption)) (by kernel_rfl!) ?_
        refine ws_var (lk_past (by kernel_rfl!) (by assumption)) (by kernel_rfl!) ?_
        refine ws_var (lk_past (by kernel_rfl!) (by assumption)) (by kernel_rfl!) ?_
        refine ws_cons (by kernel_rfl!) ?_
        refine w_glb (by kernel_rfl!) glob__law_walk (by kernel_rfl!) ?_
        refine ws_var (lk_past (by kernel_rfl!) (by assumption)) (by kernel_rfl!) ?_
        refine ws_var2 lk_put (by kernel_rfl!) ?_
        refine kk_call2 ?_
      dsimp only
      refine cv_fun noinit_320 isfn_320 (walk_run (by lia) (by lia) g.ok.b hj hs₁.w (by kernel_rfl!) (by kernel_rfl!) fun σ₂ x₂ ha => ?_)
      have hs₂ := hs₁.pre x₂
      clear h1
      have h1 := hs₂.s.ro
      have hr2 : W.ro < σ₁.length := (List.getElem?_eq_some_iff.mp hs₁.s.ro).1
      have hl := g.ok.line hj
      with_reducible
        refine kk_end3 ?_
        refine kk_cons2 ?_
        refine kk_meth2 ?_
      refine go _ (by lia) (W.line j) hl.2 (by lia) _ _ (fun σ'' xx i => item_st (xx.at (by lia) ha)) m₁ hs₂.s (by lia) _ fun σ₃ m₃ hs₃ x₃ l₃ l₃' => ?_
      have hs₃ := hs₂.ex g x₃ hs₃
      with_reducible
        refine kk_cmp2 ?_
      refine p_ne_d (by rw [Bool.and_eq_true]; exact ⟨(E _).2, (E _).2⟩) ?_
      rw [(E _).1]
      with_reducible
        refine kk_skip (by first | assumption | kernel_rfl!) ?_
        refine wq_nil ?_
      dsimp only
      refine ⟨j + 1, m₃, by lia, e3, by lia, hs₃, x₃.at (by lia) (x₂.at (x₁.at (by lia) hf')), fun x hx => ?_⟩
      rw [lookup_putV', if_neg (by simpa using hx)]
      exact hfr x hx
    · rintro fr' σ' ⟨j, m', e1, e2, l, hs', hf', hfr⟩
      rw [List.length_nil] at e1
      exact kk σ' m' fr' (by lia) hs' hf' hfr
end Mine
set_option maxHeartbeats 1000000
namespace Mine
open PySem
variable {W : Wd} {cs : List Int} {wo : O}
theorem shaped_t {N : Nat} (hN : 30 ≤ N) {F G : Nat → PyData} {line : List Nat} (hl : line.length < 20) {σ : Sto} {Q : V → Sto → Prop} (h : Q (.d (.bool true)) σ) : Mine.W (lvC theTab N 349 [.d (.str (Str.ofString "until")), .d (untP true F G line), .d (.list (line.map intD))] σ) Q := shaped_run hN true hl h
theorem shaped_f {N : Nat} (hN : 30 ≤ N) {F G : Nat → PyData} {line : List Nat} (hl : line.length < 20) {σ : Sto} {Q : V → Sto → Prop} (h : Q (.d (.bool true)) σ) : Mine.W (lvC theTab N 349 [.d (.str (Str.ofString "releases")), .d (untP false F G line), .d (.list (line.map intD))] σ) Q := shaped_run hN false hl h
theorem ne_k {a b : String} (h : a ≠ b) : Str.ofString a ≠ Str.ofString b := fun z => h (ofString_inj z)
theorem st10 {n : Nat} (g : Good W) {f h : Fm} (q : Fs W f h) {line : List Nat} (hl : line.length ≤ 5) {fr : Vars} {σ : Sto} {k m fo : Nat} (hm : m + 24000 ≤ 200000) (hfo : 14 < fo) (hs : Mn W cs k m (worldO W.many W.back) σ) (hf : σ[fo]? = some (foundO W f h line))
    (v1 : fr.lookup (Str.ofString "roller") = some (.st W.ro)) (v2 : fr.lookup (Str.ofString "f") = some (.d f.node)) (v3 : fr.lookup (Str.ofString "g") = some (.d h.node)) (v4 : fr.lookup (Str.ofString "world") = some (.st 1))
    (v5 : fr.lookup (Str.ofString "found") = some (.st fo)) (v6 : fr.lookup (Str.ofString "line") = some (.d (.list (line.map intD)))) {X : Fl × Vars → Sto → Prop}
    (kk : ∀ σ' m' fr', m' ≤ m + 24000 → Mn W cs k m' (worldO W.many W.back) σ' → σ'[fo]? = some (foundO W f h line) → (∀ x, x ≠ Str.ofString "k" → x ≠ Str.ofString "op" → fr'.lookup x = fr.lookup x) → X (.next, fr') σ') : Mine.W (lvX theTab (n + 280) (scOf 354) (stm 10) fr σ) X := by
  have k10 := fun u fr σ m hm hs hf v1 v2 v3 v4 v5 X kk => @st10in W cs (n + 9) g f h q u line fr σ k m fo hm hfo hs hf v1 v2 v3 v4 v5 X kk
  obtain ⟨bi, hbi⟩ : ∃ b, b = inn10 := ⟨_, rfl⟩
  obtain ⟨b, hb⟩ : ∃ b, b = stm 10 := ⟨_, rfl⟩
  obtain ⟨sc', hsc⟩ : ∃ b, b = scOf 354 := ⟨_, rfl⟩
  rw [← hb, ← hsc]
  rw [← hbi, ← hsc] at k10
  conv at hb => rhs; whnf
  conv at hbi => rhs; whnf
  conv at hsc => rhs; whnf
  subst hb hsc hbi
  refine wx_forD (by kernel_rfl!) ?_
  with_reducible
    refine w_strs2 ?_
  refine ⟨_, walks_tuple, by simp, ?_⟩
  show Mine.W (forL _ _ [V.d (sD "until"), V.d (sD "releases")] _ _) _
  unfold sD
  refine wf_cons ?_
  with_reducible
    refine wq_cons ?_
    refine wx_if ?_
    refine wt_not ?_
    refine wt_plain (by kernel_rfl!) ?_
    refine w_glb (by kernel_rfl!) glob__law_is_shaped (by kernel_rfl!) ?_
    refine ws_var lk_put (by kernel_rfl!) ?_
    refine ws_cons (by kernel_rfl!) ?_
    refine w_subv (by kernel_rfl!) (lk_past (by kernel_rfl!) (by assumption)) (by kernel_rfl!) ?_
    refine w_var lk_put (by kernel_rfl!) ?_
    refine kk_sub2 ?_
    refine ⟨_, sb_dict (by assumption) (lk_at 0 (by kernel_rfl!) (by with_unfolding_all rfl)), ?_⟩
    refine kk_cons ?_
    refine ws_var3 (lk_past (by kernel_rfl!) (by assumption)) (by kernel_rfl!) ?_
    refine kk_call2 ?_
  dsimp only
  refine cv_fun noinit_349 isfn_349 (shaped_t (by lia) (by lia) ?_)
  with_reducible
    refine kk_truth ?_
    refine kk_notT ?_
    refine kk_skipn (by first | assumption | kernel_rfl!) ?_
  refine k10 true _ _ m (by lia) hs hf ?_ ?_ ?_ ?_ ?_ _ fun σ₁ m₁ fr₁ l₁ hs₁ hf₁ hfr₁ => ?_
  · rw [lookup_putV', if_neg (by rw [ofString_beq]; decide)]; exact v1
  · rw [lookup_putV', if_neg (by rw [ofString_beq]; decide)]; exact v2
  · rw [lookup_putV', if_neg (by rw [ofString_beq]; decide)]; exact v3
  · rw [lookup_putV', if_neg (by rw [ofString_beq]; decide)]; exact v4
  · rw [lookup_putV', if_pos (by rw [ofString_beq]; decide)]; rfl
  have hfr₁' : ∀ x, x ≠ Str.ofString "k" → x ≠ Str.ofString "op" → fr₁.lookup x = fr.lookup x := fun x a b => by rw [hfr₁ x a, lookup_putV', if_neg (by simpa using b)]
  have w1 := (hfr₁' (Str.ofString "roller") (ne_k (by decide)) (ne_k (by decide))).trans v1
  have w2 := (hfr₁' (Str.ofString "f") (ne_k (by decide)) (ne_k (by decide))).trans v2
  have w3 := (hfr₁' (Str.ofString "g") (ne_k (by decide)) (ne_k (by decide))).trans v3
  have w4 := (hfr₁' (Str.ofString "world") (ne_k (by decide)) (ne_k (by decide))).trans v4
  have w5 := (hfr₁' (Str.ofString "found") (ne_k (by decide)) (ne_k (by decide))).trans v5
  have w6 := (hfr₁' (Str.ofString "line") (ne_k (by decide)) (ne_k (by decide))).trans v6
  refine wq_nil ?_
  refine wf_cons ?_
  with_reducible
    refine wq_cons ?_
    refine wx_if ?_
    refine wt_not ?_
    refine wt_plain (by kernel_rfl!) ?_
    refine w_glb (by kernel_rfl!) glob__law_is_shaped (by kernel_rfl!) ?_
    refine ws_var lk_put (by kernel_rfl!) ?_
    refine ws_cons (by kernel_rfl!) ?_
    refine w_subv (by kernel_rfl!) (lk_past (by kernel_rfl!) (by assumption)) (by kernel_rfl!) ?_
    refine w_var lk_put (by kernel_rfl!) ?_
    refine kk_sub2 ?_
    refine ⟨_, sb_dict (by assumption) (lk_at 1 (by kernel_rfl!) (by with_unfolding_all rfl)), ?_⟩
    refine kk_cons ?_
    refine ws_var3 (lk_past (by kernel_rfl!) (by assumption)) (by kernel_rfl!) ?_
    refine kk_call2 ?_
  dsimp only
  refine cv_fun noinit_349 isfn_349 (shaped_f (by lia) (by lia) ?_)
  with_reducible
    refine kk_truth ?_
    refine kk_notT ?_
    refine kk_skipn (by first | assumption | kernel_rfl!) ?_
  refine k10 false _ _ m₁ (by lia) hs₁ hf₁ ?_ ?_ ?_ ?_ ?_ _ fun σ₂ m₂ fr₂ l₂ hs₂ hf₂ hfr₂ => ?_
  · rw [lookup_putV', if_neg (by rw [ofString_beq]; decide)]; exact w1
  · rw [lookup_putV', if_neg (by rw [ofString_beq]; decide)]; exact w2
  · rw [lookup_putV', if_neg (by rw [ofString_beq]; decide)]; exact w3
  · rw [lookup_putV', if_neg (by rw [ofString_beq]; decide)]; exact w4
  · rw [lookup_putV', if_pos (by rw [ofString_beq]; decide)]; rfl
  refine wq_nil ?_
  refine wf_nil ?_
  exact kk σ₂ m₂ fr₂ (by lia) hs₂ hf₂ fun x a b => by rw [hfr₂ x a, lookup_putV', if_neg (by simpa using b)]; exact hfr₁' x a b
end Mine
set_option maxHeartbeats 1000000
namespace Mine
open PySem
variable {W : Wd} {cs : List Int} {wo : O} {S : Nat → Int → Bool}
noncomputable def onlyIf (b : Bool) (p : Nat) : List Nat := if b then [p] else []
noncomputable def fullAt (W : Wd) (S : Nat → Int → Bool) (k : Nat) : List Nat := onlyIf (S k 0) (W.place 0 k) ++ onlyIf (S k 1) (W.place 1 k) ++ onlyIf (S k 2) (W.place 2 k)
noncomputable def fullP (W : Wd) (S : Nat → Int → Bool) (l : List Nat) : List Nat := l.flatMap (fullAt W S)
theorem mem_onlyIf {b : Bool} {p x : Nat} : x ∈ onlyIf b p ↔ b = true ∧ x = p := by
  unfold onlyIf
  cases b <;> simp
theorem place_inj (ok : W.ok) {i j : Int} (hi : in3 i) (hj : in3 j) {k l : Nat} (hk : k < W.many) (hl : l < W.many) (h : W.place i k = W.place j l) : i = j ∧ (W.vary i = true → k = l) := by
  have hm := ok.m
  unfold Wd.place Wd.base Wd.vary at h
  unfold Wd.vary
  rcases hi with rfl | rfl | rfl <;> rcases hj with rfl | rfl | rfl <;> revert h <;> cases W.v0 <;> cases W.v1 <;> cases W.v2 <;> simp <;> lia
theorem full_has (ok : W.ok) (hS : ∀ i, in3 i → W.vary i = false → ∀ k l, k < W.many → l < W.many → S k i = S l i) {i : Int} (hi : in3 i) {k : Nat} (hk : k < W.many) : (fullP W S (List.range W.many)).contains (W.place i k) = S k i := by
  have key : W.place i k ∈ fullP W S (List.range W.many) ↔ S k i = true := by
    unfold fullP
    rw [List.mem_flatMap]
    constructor
    · rintro ⟨l, hl, hm⟩
      have hl := List.mem_range.mp hl
      have go : ∀ j, in3 j → W.place i k ∈ onlyIf (S l j) (W.place j l) → S k i = true := by
        intro j hj hm
        obtain ⟨h1, h2⟩ := mem_onlyIf.mp hm
        obtain ⟨rfl, h3⟩ := place_inj ok hi hj hk hl h2
        cases hv : W.vary i with
        | true => rw [h3 hv]; exact h1
        | false => rw [hS i hi hv k l hk hl]; exact h1
      unfold fullAt at hm
      rcases List.mem_append.mp hm with hm | hm
      · rcases List.mem_append.mp hm with hm | hm
        · exact go 0 (.inl rfl) hm
        · exact go 1 (.inr (.inl rfl)) hm
      · exact go 2 (.inr (.inr rfl)) hm
    · intro h
      refine ⟨k, List.mem_range.mpr hk, ?_⟩
      unfold fullAt
      have hm : W.place i k ∈ onlyIf (S k i) (W.place i k) := mem_onlyIf.mpr ⟨h, rfl⟩
      rcases hi with rfl | rfl | rfl
      · exact List.mem_append_left _ (List.mem_append_left _ hm)
      · exact List.mem_append_left _ (List.mem_append_right _ hm)
      · exact List.mem_append_right _ hm
  cases hs : S k i with
  | true => exact List.contains_iff_mem.mpr (key.mpr hs)
  | false =>
    cases hc : (fullP W S (List.range W.many)).contains (W.place i k) with
    | false => rfl
    | true => rw [key.mp (List.contains_iff_mem.mp hc)] at hs; cases hs
theorem any_vs (W : Wd) {i : Int} (hi : in3 i) : ((vsOf W.v0 W.v1 W.v2).any fun y => PyData.eqv y (.int i)) = W.vary i ∧ (shapedD (.list (vsOf W.v0 W.v1 W.v2)) && shapedD (.int i)) = true := by
  unfold Wd.vary
  rcases hi with rfl | rfl | rfl <;> cases W.v0 <;> cases W.v1 <;> cases W.v2 <;> exact ⟨rfl, rfl⟩
/-! one lap -/
noncomputable def lapS (i : Nat) : Stmt := match stm 11 with
  | .For _ _ b _ _ => (b[i]?).getD (.Pass ⟨0, 0, 0, 0⟩)
  | _ => .Pass ⟨0, 0, 0, 0⟩
theorem stm11 : ∃ xp it p, stm 11 = .For (.Name (Str.ofString "lap") xp) it [lapS 0, lapS 1, lapS 2, lapS 3, lapS 4, lapS 5] [] p ∧ (∃ a b c d, it = .Call (.Name (Str.ofString "range") a) [.Constant (.int 4) b c] [] d) := ⟨_, _, _, rfl, _, _, _, _, rfl⟩
theorem lap0 {n : Nat} (g : Good W) (hn : cs.length ≤ 60) {lap : Int} {fr : Vars} {σ : Sto} {k m : Nat} (hk : k < 1000) (hs : Mn W cs k m wo σ)
    (v1 : fr.lookup (Str.ofString "reel") = some (.st 0)) (v2 : fr.lookup (Str.ofString "lap") = some (.d (.int lap))) {X : Fl × Vars → Sto → Prop}
    (kk : ∀ s0 s1 s2 k' σ', k' ≤ k + 3 → Mn W cs k' m wo σ' → (∀ i o, i ≠ 0 → σ[i]? = some o → σ'[i]? = some o) → X (.next, putV fr (Str.ofString "still") (.d (.list [.bool s0, .bool s1, .bool s2]))) σ') : Mine.W (lvX theTab (n + 40) (scOf 354) (lapS 0) fr σ) X := by
  obtain ⟨b, hb⟩ : ∃ b, b = lapS 0 := ⟨_, rfl⟩
  obtain ⟨sc', hsc⟩ : ∃ b, b = scOf 354 := ⟨_, rfl⟩
  rw [← hb, ← hsc]
  conv at hb => rhs; whnf
  conv at hsc => rhs; whnf
  subst hb hsc
  with_reducible
    refine wx_asg (by kernel_rfl!) ?_
    refine wv_comp (by kernel_rfl!) ?_
    refine w_glb (by kernel_rfl!) glob_range (by kernel_rfl!) ?_
    refine ws_int1 ?_
    refine kk_call2 ?_
    refine cv_type ?_
    refine b_range1 (by lia) ?_
    refine kk_comp ?_
  dsimp only
  refine wc_oneI (xs := (numsUp 0 3).map fun i => V.d (.int i)) (hc_free (by kernel_rfl!) (by kernel_rfl!)) (fun r σ' acc => ∃ (bs : List Bool) (k' : Nat), bs.length + r.length = 3 ∧ acc = boolsD bs ∧ k' ≤ k + bs.length ∧ Mn W cs k' m wo σ' ∧ ∀ i o, i ≠ 0 → σ[i]? = some o → σ'[i]? = some o) ?_ (by decide) ⟨[], k, rfl, rfl, by lia, hs, fun i o _ e => e⟩ ?_ ?_
  · intro r σ' acc i _
    exact walks_rng i σ'
  · rintro y r σ' acc ⟨bs, k', e1, rfl, l, hs', ho⟩
    rw [List.length_cons] at e1
    have hz : small (boolsD bs) = true := small_of (by unfold boolsD; rw [List.length_map]; lia)
    with_reducible
      refine wc_turn ?_
      refine wa_nil ?_
      refine kk_turn_t (by kernel_rfl!) ?_
      refine w_if ?_
      refine wt_var (by kernel_rfl!) (lk_past (by kernel_rfl!) (lk_free (by kernel_rfl!) (by assumption))) (by kernel_rfl!) ?_
      refine w_int ?_
      refine kk_cmp2 ?_
      refine p_gt ?_
      refine kk_if ?_
    refine w_if_d (fun hd => ?_) (fun hd => ?_)
    · with_reducible
        refine w_cmp (by kernel_rfl!) ?_
        refine w_var (lk_past (by kernel_rfl!) (lk_free (by kernel_rfl!) (by assumption))) (by kernel_rfl!) ?_
        refine kk_cmp ?_
        refine w_int ?_
        refine kk_cmp2 ?_
        refine p_eq ?_
        refine kk_bool ?_
        refine kk_put' ?_
      exact ⟨hz, bs ++ [decide (lap = 2)], k', by rw [List.length_append, List.length_singleton]; lia, by unfold boolsD; rw [List.map_append]; rfl, by rw [List.length_append]; lia, hs', ho⟩
    · with_reducible
        refine w_cmp (by kernel_rfl!) ?_
        refine w_glb (by kernel_rfl!) glob__law_next (by kernel_rfl!) ?_
        refine ws_var (lk_past (by kernel_rfl!) (lk_free (by kernel_rfl!) (by assumption))) (by kernel_rfl!) ?_
        refine ws_int2 ?_
        refine kk_call2 ?_
      refine cv_fun noinit_299 isfn_299 (next_run (by lia) hs'.r (by lia) (by lia) (by lia) ?_)
      with_reducible
        refine kk_cmp ?_
        refine w_int ?_
        refine kk_cmp2 ?_
        refine p_eq ?_
        refine kk_bool ?_
        refine kk_put' ?_
      exact ⟨hz, bs ++ [decide (cellOfReel cs k' % 2 = 1)], k' + 1, by rw [List.length_append, List.length_singleton]; lia, by unfold boolsD; rw [List.map_append]; rfl, by rw [List.length_append, List.length_singleton]; lia, hs'.reel g _, fun i o h0 e => by rw [List.getElem?_set_ne (Ne.symm h0)]; exact ho i o h0 e⟩
  · rintro σ' acc ⟨bs, k', e1, rfl, l, hs', ho⟩
    rw [List.length_nil] at e1
    match bs, e1 with
    | [s0, s1, s2], _ =>
      with_reducible
        refine kk_li ?_
        refine kk_asg ?_
      exact kk s0 s1 s2 k' σ' (by simp at l; lia) hs' ho
end Mine
set_option maxHeartbeats 1000000
namespace Mine
open PySem
variable {W : Wd} {cs : List Int} {wo : O} {S : Nat → Int → Bool}
noncomputable abbrev worldS (W : Wd) (s : Nat) : O := .dict [(Str.ofString "many", .d (.int W.many)), (Str.ofString "back", .d (.int W.back)), (Str.ofString "sets", .st s)]
theorem Mn.wset {k m σ} (g : Good W) (h : Mn W cs k m wo σ) (o : O) : Mn W cs k m o (σ.set 1 o) :=
  ⟨by rw [List.getElem?_set_ne (by lia)]; exact h.r, getElem?_set_self' h.w, h.s.ex (i := 1) (by rw [g.ro]; lia) (by rw [g.pl]; lia) rfl⟩
theorem lap1 {n : Nat} (g : Good W) (hw : wo = worldO W.many W.back ∨ ∃ s, wo = worldS W s) {fr : Vars} {σ : Sto} {k m : Nat} (hs : Mn W cs k m wo σ)
    (v1 : fr.lookup (Str.ofString "world") = some (.st 1)) {X : Fl × Vars → Sto → Prop}
    (kk : ∀ σ', Mn W cs k m (worldS W σ.length) σ' → σ'[σ.length]? = some (.lst []) → (∀ i o, i ≠ 1 → σ[i]? = some o → σ'[i]? = some o) → X (.next, fr) σ') : Mine.W (lvX theTab (n + 20) (scOf 354) (lapS 1) fr σ) X := by
  have hl : 1 < σ.length := (List.getElem?_eq_some_iff.mp hs.w).1
  have hs' := hs.push (l := [.lst []])
  obtain ⟨b, hb⟩ : ∃ b, b = lapS 1 := ⟨_, rfl⟩
  obtain ⟨sc', hsc⟩ : ∃ b, b = scOf 354 := ⟨_, rfl⟩
  rw [← hb, ← hsc]
  conv at hb => rhs; whnf
  conv at hsc => rhs; whnf
  subst hb hsc
  with_reducible
    refine wx_asub ?_
    refine w_nil ?_
    refine kk_asub ?_
    refine w_var (by assumption) (by kernel_rfl!) ?_
    refine kk_asub2 ?_
    refine w_str ?_
    refine kk_asub3 ?_
  refine ⟨1, Str.ofString "sets", (match wo with | .dict kvs => kvs | _ => []), rfl, rfl, by rw [hs'.w]; rcases hw with rfl | ⟨s, rfl⟩ <;> rfl, by rcases hw with rfl | ⟨s, rfl⟩ <;> rfl, ?_⟩
  have gp : O.dict (putD (match wo with | .dict kvs => kvs | _ => []) (Str.ofString "sets") (.st σ.length)) = worldS W σ.length := by
    rcases hw with rfl | ⟨s, rfl⟩ <;>
    simp only [putD, List.any_cons, List.map_cons, ofString_beq, List.any_nil, List.map_nil, String.reduceBEq, Bool.or_true, Bool.or_false, Bool.or_self, Bool.false_eq_true, if_true, if_false] <;> rfl
  rw [gp]
  exact kk _ (hs'.wset g _) (by rw [List.getElem?_set_ne (by lia)]; simp) fun i o hi e => by rw [List.getElem?_set_ne (Ne.symm hi)]; exact getElem?_append_some e
noncomputable def sel (b : Bool × Bool × Bool) (i : Int) : Bool := if i = 0 then b.1 else if i = 1 then b.2.1 else b.2.2
noncomputable def rowV (b : Bool × Bool × Bool) : V := .d (.list [.bool b.1, .bool b.2.1, .bool b.2.2])
theorem lap2 {n : Nat} (g : Good W) (hn : cs.length ≤ 60) {lap : Int} {st : Bool × Bool × Bool} {fr : Vars} {σ : Sto} {k m s : Nat} (hk : k < 1000) (hs14 : 14 < s) (hs : Mn W cs k m (worldS W s) σ) (hr : σ[s]? = some (.lst []))
    (v1 : fr.lookup (Str.ofString "world") = some (.st 1)) (v2 : fr.lookup (Str.ofString "reel") = some (.st 0)) (v3 : fr.lookup (Str.ofString "lap") = some (.d (.int lap))) (v4 : fr.lookup (Str.ofString "still") = some (rowV st))
    (v5 : fr.lookup (Str.ofString "varying") = some (.d (.list (vsOf W.v0 W.v1 W.v2)))) {X : Fl × Vars → Sto → Prop}
    (kk : ∀ (rows : List (Bool × Bool × Bool)) k' σ' fr', rows.length = W.many → (∀ row ∈ rows, ∀ i, in3 i → W.vary i = false → sel row i = sel st i) → k' ≤ k + 9 → Mn W cs k' m (worldS W s) σ' → σ'[s]? = some (.lst (rows.map rowV)) → (∀ i o, i ≠ 0 → i ≠ s → σ[i]? = some o → σ'[i]? = some o) →
      (∀ x, x ≠ Str.ofString "k" → fr'.lookup x = fr.lookup x) → X (.next, fr') σ') : Mine.W (lvX theTab (n + 60) (scOf 354) (lapS 2) fr σ) X := by
  have hm := g.ok.m
  have hw := hs.w
  obtain ⟨b, hb⟩ : ∃ b, b = lapS 2 := ⟨_, rfl⟩
  obtain ⟨sc', hsc⟩ : ∃ b, b = scOf 354 := ⟨_, rfl⟩
  rw [← hb, ← hsc]
  conv at hb => rhs; whnf
  conv at hsc => rhs; whnf
  subst hb hsc
  refine wx_forI (by kernel_rfl!) ?_
  with_reducible
    refine w_glb (by kernel_rfl!) glob_range (by kernel_rfl!) ?_
    refine ws_cons (by kernel_rfl!) ?_
    refine w_subs (by assumption) (by kernel_rfl!) ?_
    refine ⟨_, sb_dict (by assumption) (lk_at 0 (by kernel_rfl!) (by with_unfolding_all rfl)), ?_⟩
    refine kk_end1 ?_
    refine kk_call2 ?_
    refine cv_type ?_
    refine b_range1 (by lia) ?_
  refine ⟨(numsUp 0 W.many).map fun i => V.d (.int i), fun r fr' σ' => ∃ (rows : List (Bool × Bool × Bool)) (k' : Nat), rows.length + r.length = W.many ∧ (∀ row ∈ rows, ∀ i, in3 i → W.vary i = false → sel row i = sel st i) ∧ k' ≤ k + 3 * rows.length ∧ Mn W cs k' m (worldS W s) σ' ∧ σ'[s]? = some (.lst (rows.map rowV)) ∧
      (∀ i o, i ≠ 0 → i ≠ s → σ[i]? = some o → σ'[i]? = some o) ∧ ∀ x, x ≠ Str.ofString "k" → fr'.lookup x = fr.lookup x, ?_, ?_, ?_, ?_, ?_⟩
  · intro r fr σ' i _
    rw [walks_rng i σ', show ((W.many : Int) - 0).toNat = W.many by lia]
  · rw [List.length_map, numsUp_len]; lia
  · exact ⟨[], k, by rw [List.length_map, numsUp_len, List.length_nil]; lia, (fun _ h => nomatch h), by simp, hs, hr, (fun i o _ _ e => e), fun _ _ => rfl⟩
  · rintro y r fr' σ' ⟨rows, k', e1, e2, l, hs', hr', ho, hfr⟩
    rw [List.length_cons] at e1
    have w1 := (hfr (Str.ofString "world") (ne_k (by decide))).trans v1
    have w2 := (hfr (Str.ofString "reel") (ne_k (by decide))).trans v2
    have w3 := (hfr (Str.ofString "lap") (ne_k (by decide))).trans v3
    have w4 := (hfr (Str.ofString "still") (ne_k (by decide))).trans v4
    have w5 := (hfr (Str.ofString "varying") (ne_k (by decide))).trans v5
    have hw' := hs'.w
    unfold rowV at w4
    with_reducible
      refine wq_cons ?_
      refine wx_expr (by kernel_rfl!) ?_
      refine w_append (by kernel_rfl!) (by kernel_rfl!) ?_
      refine w_subs (lk_past (by kernel_rfl!) (by assumption)) (by kernel_rfl!) ?_
      refine ⟨_, sb_dict (by assumption) (lk_at 2 (by kernel_rfl!) (by with_unfolding_all rfl)), ?_⟩
      refine kk_app (by assumption) ?_
      refine ws_cons (by kernel_rfl!) ?_
      refine w_comp (by kernel_rfl!) ?_
      refine w_glb (by kernel_rfl!) glob_range (by kernel_rfl!) ?_
      refine ws_int1 ?_
      refine kk_call2 ?_
      refine cv_type ?_
      refine b_range1 (by lia) ?_
      refine kk_comp ?_
    dsimp only
    have ext : ∀ (bs : List Bool) (b : Bool), (∀ (j : Nat) b, bs[j]? = some b → W.vary j = false → b = sel st j) → (W.vary bs.length = false → b = sel st bs.length) → ∀ (j : Nat) b', (bs ++ [b])[j]? = some b' → W.vary j = false → b' = sel st j := by
      intro bs b h1 h2 j b' e hv
      by_cases hj : j < bs.length
      · rw [List.getElem?_append_left hj] at e; exact h1 j b' e hv
      · have := (List.getElem?_eq_some_iff.mp e).1
        rw [List.length_append, List.length_singleton] at this
        have hj' : j = bs.length := by lia
        subst hj'
        rw [List.getElem?_append_right (Nat.le_refl _), Nat.sub_self] at e
        injection e with e
        rw [← e]; exact h2 hv
    refine wc_oneI (xs := (numsUp 0 3).map fun i => V.d (.int i)) (hc_free (by kernel_rfl!) (by kernel_rfl!)) (fun r σ₁ acc => ∃ (bs : List Bool) (k₁ : Nat), r = ((numsUp 0 3).drop bs.length).map (fun i => V.d (.int i)) ∧ bs.length ≤ 3 ∧ acc = boolsD bs ∧ k₁ ≤ k' + bs.length ∧ Mn W cs k₁ m (worldS W s) σ₁ ∧
      σ₁[s]? = some (.lst (rows.map rowV)) ∧ (∀ i o, i ≠ 0 → i ≠ s → σ[i]? = some o → σ₁[i]? = some o) ∧ ∀ (j : Nat) b, bs[j]? = some b → W.vary j = false → b = sel st j) ?_ (by decide) ⟨[], k', rfl, by simp, rfl, by lia, hs', hr', ho, fun j b e => by simp at e⟩ ?_ ?_
    · intro r σ'' acc i _
      exact walks_rng i σ''
    · rintro y' r' σ₁ acc ⟨bs, k₁, f1, f2, rfl, l₁, hs₁, hr₁, ho₁, hb₁⟩
      have hbs : bs = [] ∨ (∃ b0, bs = [b0]) ∨ (∃ b0 b1, bs = [b0, b1]) ∨ 3 ≤ bs.length := by
        match bs with
        | [] => exact .inl rfl
        | [b0] => exact .inr (.inl ⟨b0, rfl⟩)
        | [b0, b1] => exact .inr (.inr (.inl ⟨b0, b1, rfl⟩))
        | _ :: _ :: _ :: _ => exact .inr (.inr (.inr (by simp)))
      rcases hbs with rfl | ⟨b0, rfl⟩ | ⟨b0, b1, rfl⟩ | h3
      · have ey : y' :: r' = [V.d (.int 0), V.d (.int 1), V.d (.int 2)] := f1
        injection ey with ey er
        subst ey er
        have hz : small (boolsD []) = true := rfl
        have ha := any_vs W (i := 0) (.inl rfl)
        with_reducible
          refine wc_turn ?_
          refine wa_nil ?_
          refine kk_turn_t (by kernel_rfl!) ?_
          refine w_if ?_
          refine wt_var (by kernel_rfl!) lk_put (by kernel_rfl!) ?_
          refine w_var (lk_past (by kernel_rfl!) (lk_free (by kernel_rfl!) (lk_past (by kernel_rfl!) (by assumption)))) (by kernel_rfl!) ?_
          refine kk_cmp2 ?_
        refine p_in_list ha.2 ?_
        rw [ha.1]
        cases hv : W.vary 0
        · with_reducible
            refine kk_if_f (by first | assumption | kernel_rfl!) ?_
            refine w_subv (by kernel_rfl!) (lk_past (by kernel_rfl!) (lk_free (by kernel_rfl!) (lk_past (by kernel_rfl!) (by assumption)))) (by kernel_rfl!) ?_
            refine w_var lk_put (by kernel_rfl!) ?_
            refine kk_sub2 ?_
            refine ⟨_, sb_list_0, ?_⟩
            refine kk_put (by kernel_rfl!) ?_
          exact ⟨[] ++ [st.1], k₁, rfl, by simp, rfl, by simp at l₁ ⊢; lia, hs₁, hr₁, ho₁, ext _ _ hb₁ fun _ => rfl⟩
        · with_reducible
            refine kk_if_t (by first | assumption | kernel_rfl!) ?_
            refine w_if ?_
            refine wt_var (by kernel_rfl!) (lk_past (by kernel_rfl!) (lk_free (by kernel_rfl!) (lk_past (by kernel_rfl!) (by assumption)))) (by kernel_rfl!) ?_
            refine w_int ?_
            refine kk_cmp2 ?_
            refine p_gt ?_
            refine kk_if ?_
          refine w_if_d (fun hd => ?_) (fun hd => ?_)
          · with_reducible
              refine w_cmp (by kernel_rfl!) ?_
              refine w_var (lk_past (by kernel_rfl!) (lk_free (by kernel_rfl!) (lk_past (by kernel_rfl!) (by assumption)))) (by kernel_rfl!) ?_
              refine kk_cmp ?_
              refine w_int ?_
              refine kk_cmp2 ?_
              refine p_eq ?_
              refine kk_bool ?_
              refine kk_put (by kernel_rfl!) ?_
            exact ⟨[] ++ [decide (lap = 2)], k₁, rfl, by simp, rfl, by simp at l₁ ⊢; lia, hs₁, hr₁, ho₁, ext _ _ hb₁ fun z => absurd hv (by rw [show W.vary 0 = false from z]; decide)⟩
          · with_reducible
              refine w_cmp (by kernel_rfl!) ?_
              refine w_glb (by kernel_rfl!) glob__law_next (by kernel_rfl!) ?_
              refine ws_var (lk_past (by kernel_rfl!) (lk_free (by kernel_rfl!) (lk_past (by kernel_rfl!) (by assumption)))) (by kernel_rfl!) ?_
              refine ws_int2 ?_
              refine kk_call2 ?_
            refine cv_fun noinit_299 isfn_299 (next_run (by lia) hs₁.r (by simp at l₁; lia) (by lia) (by lia) ?_)
            with_reducible
              refine kk_cmp ?_
              refine w_int ?_
              refine kk_cmp2 ?_
              refine p_eq ?_
              refine kk_bool ?_
              refine kk_put (by kernel_rfl!) ?_
            exact ⟨[] ++ [decide (cellOfReel cs k₁ % 2 = 1)], k₁ + 1, rfl, by simp, rfl, by simp at l₁ ⊢; lia, hs₁.reel g _, by rw [List.getElem?_set_ne (by lia)]; exact hr₁, fun i o h0 h1 e => by rw [List.getElem?_set_ne (Ne.symm h0)]; exact ho₁ i o h0 h1 e, ext _ _ hb₁ fun z => absurd hv (by rw [show W.vary 0 = false from z]; decide)⟩
      · have ey : y' :: r' = [V.d (.int 1), V.d (.int 2)] := f1
        injection ey with ey er
        subst ey er
        have hz : small (boolsD [b0]) = true := rfl
        have ha := any_vs W (i := 1) (.inr (.inl rfl))
        with_reducible
          refine wc_turn ?_
          refine wa_nil ?_
          refine kk_turn_t (by kernel_rfl!) ?_
          refine w_if ?_
          refine wt_var (by kernel_rfl!) lk_put (by kernel_rfl!) ?_
          refine w_var (lk_past (by kernel_rfl!) (lk_free (by kernel_rfl!) (lk_past (by kernel_rfl!) (by assumption)))) (by kernel_rfl!) ?_
          refine kk_cmp2 ?_
        refine p_in_list ha.2 ?_
        rw [ha.1]
        cases hv : W.vary 1
        · with_reducible
            refine kk_if_f (by first | assumption | kernel_rfl!) ?_
            refine w_subv (by kernel_rfl!) (lk_past (by kernel_rfl!) (lk_free (by kernel_rfl!) (lk_past (by kernel_rfl!) (by assumption)))) (by kernel_rfl!) ?_
            refine w_var lk_put (by kernel_rfl!) ?_
            refine kk_sub2 ?_
            refine ⟨_, sb_list_1, ?_⟩
            refine kk_put (by kernel_rfl!) ?_
          exact ⟨[b0] ++ [st.2.1], k₁, rfl, by simp, rfl, by simp at l₁ ⊢; lia, hs₁, hr₁, ho₁, ext _ _ hb₁ fun _ => rfl⟩
        · with_reducible
            refine kk_if_t (by first | assumption | kernel_rfl!) ?_
            refine w_if ?_
            refine wt_var (by kernel_rfl!) (lk_past (by kernel_rfl!) (lk_free (by kernel_rfl!) (lk_past (by kernel_rfl!) (by assumption)))) (by kernel_rfl!) ?_
            refine w_int ?_
            refine kk_cmp2 ?_
            refine p_gt ?_
            refine kk_if ?_
          refine w_if_d (fun hd => ?_) (fun hd => ?_)
          · with_reducible
              refine w_cmp (by kernel_rfl!) ?_
              refine w_var (lk_past (by kernel_rfl!) (lk_free (by kernel_rfl!) (lk_past (by kernel_rfl!) (by assumption)))) (by kernel_rfl!) ?_
              refine kk_cmp ?_
              refine w_int ?_
              refine kk_cmp2 ?_
              refine p_eq ?_
              refine kk_bool ?_
              refine kk_put (by kernel_rfl!) ?_
            exact ⟨[b0] ++ [decide (lap = 2)], k₁, rfl, by simp, rfl, by simp at l₁ ⊢; lia, hs₁, hr₁, ho₁, ext _ _ hb₁ fun z => absurd hv (by rw [show W.vary 1 = false from z]; decide)⟩
          · with_reducible
              refine w_cmp (by kernel_rfl!) ?_
              refine w_glb (by kernel_rfl!) glob__law_next (by kernel_rfl!) ?_
              refine ws_var (lk_past (by kernel_rfl!) (lk_free (by kernel_rfl!) (lk_past (by kernel_rfl!) (by assumption)))) (by kernel_rfl!) ?_
              refine ws_int2 ?_
              refine kk_call2 ?_
            refine cv_fun noinit_299 isfn_299 (next_run (by lia) hs₁.r (by simp at l₁; lia) (by lia) (by lia) ?_)
            with_reducible
              refine kk_cmp ?_
              refine w_int ?_
              refine kk_cmp2 ?_
              refine p_eq ?_
              refine kk_bool ?_
              refine kk_put (by kernel_rfl!) ?_
            exact ⟨[b0] ++ [decide (cellOfReel cs k₁ % 2 = 1)], k₁ + 1, rfl, by simp, rfl, by simp at l₁ ⊢; lia, hs₁.reel g _, by rw [List.getElem?_set_ne (by lia)]; exact hr₁, fun i o h0 h1 e => by rw [List.getElem?_set_ne (Ne.symm h0)]; exact ho₁ i o h0 h1 e, ext _ _ hb₁ fun z => absurd hv (by rw [show W.vary 1 = false from z]; decide)⟩
      · have ey : y' :: r' = [V.d (.int 2)] := f1
        injection ey with ey er
        subst ey er
        have hz : small (boolsD [b0, b1]) = true := rfl
        have ha := any_vs W (i := 2) (.inr (.inr rfl))
        with_reducible
          refine wc_turn ?_
          refine wa_nil ?_
          refine kk_turn_t (by kernel_rfl!) ?_
          refine w_if ?_
          refine wt_var (by kernel_rfl!) lk_put (by kernel_rfl!) ?_
          refine w_var (lk_past (by kernel_rfl!) (lk_free (by kernel_rfl!) (lk_past (by kernel_rfl!) (by assumption)))) (by kernel_rfl!) ?_
          refine kk_cmp2 ?_
        refine p_in_list ha.2 ?_
        rw [ha.1]
        cases hv : W.vary 2
        · with_reducible
            refine kk_if_f (by first | assumption | kernel_rfl!) ?_
            refine w_subv (by kernel_rfl!) (lk_past (by kernel_rfl!) (lk_free (by kernel_rfl!) (lk_past (by kernel_rfl!) (by assumption)))) (by kernel_rfl!) ?_
            refine w_var lk_put (by kernel_rfl!) ?_
            refine kk_sub2 ?_
            refine ⟨_, sb_list_2, ?_⟩
            refine kk_put (by kernel_rfl!) ?_
          exact ⟨[b0, b1] ++ [st.2.2], k₁, rfl, by simp, rfl, by simp at l₁ ⊢; lia, hs₁, hr₁, ho₁, ext _ _ hb₁ fun _ => rfl⟩
        · with_reducible
            refine kk_if_t (by first | assumption | kernel_rfl!) ?_
            refine w_if ?_
            refine wt_var (by kernel_rfl!) (lk_past (by kernel_rfl!) (lk_free (by kernel_rfl!) (lk_past (by kernel_rfl!) (by assumption)))) (by kernel_rfl!) ?_
            refine w_int ?_
            refine kk_cmp2 ?_
            refine p_gt ?_
            refine kk_if ?_
          refine w_if_d (fun hd => ?_) (fun hd => ?_)
          · with_reducible
              refine w_cmp (by kernel_rfl!) ?_
              refine w_var (lk_past (by kernel_rfl!) (lk_free (by kernel_rfl!) (lk_past (by kernel_rfl!) (by assumption)))) (by kernel_rfl!) ?_
              refine kk_cmp ?_
              refine w_int ?_
              refine kk_cmp2 ?_
              refine p_eq ?_
              refine kk_bool ?_
              refine kk_put (by kernel_rfl!) ?_
            exact ⟨[b0, b1] ++ [decide (lap = 2)], k₁, rfl, by simp, rfl, by simp at l₁ ⊢; lia, hs₁, hr₁, ho₁, ext _ _ hb₁ fun z => absurd hv (by rw [show W.vary 2 = false from z]; decide)⟩
          · with_reducible
              refine w_cmp (by kernel_rfl!) ?_
              refine w_glb (by kernel_rfl!) glob__law_next (by kernel_rfl!) ?_
              refine ws_var (lk_past (by kernel_rfl!) (lk_free (by kernel_rfl!) (lk_past (by kernel_rfl!) (by assumption)))) (by kernel_rfl!) ?_
              refine ws_int2 ?_
              refine kk_call2 ?_
            refine cv_fun noinit_299 isfn_299 (next_run (by lia) hs₁.r (by simp at l₁; lia) (by lia) (by lia) ?_)
            with_reducible
              refine kk_cmp ?_
              refine w_int ?_
              refine kk_cmp2 ?_
              refine p_eq ?_
              refine kk_bool ?_
              refine kk_put (by kernel_rfl!) ?_
            exact ⟨[b0, b1] ++ [decide (cellOfReel cs k₁ % 2 = 1)], k₁ + 1, rfl, by simp, rfl, by simp at l₁ ⊢; lia, hs₁.reel g _, by rw [List.getElem?_set_ne (by lia)]; exact hr₁, fun i o h0 h1 e => by rw [List.getElem?_set_ne (Ne.symm h0)]; exact ho₁ i o h0 h1 e, ext _ _ hb₁ fun z => absurd hv (by rw [show W.vary 2 = false from z]; decide)⟩
      · rw [show bs.length = 3 by lia] at f1
        cases f1
    · rintro σ₁ acc ⟨bs, k₁, f1, f2, rfl, l₁, hs₁, hr₁, ho₁, hb₁⟩
      match bs, f1, f2 with
      | [b0, b1, b2], _, _ =>
        with_reducible
          refine kk_li ?_
          refine kk_end1 ?_
          refine kk_app2 (by assumption) ?_
        refine ⟨Nat.ble_eq_true_of_le (by rw [List.length_map]; lia), ?_⟩
        with_reducible
          refine kk_expr ?_
          refine kk_seq_n ?_
          refine wq_nil ?_
        dsimp only
        refine ⟨rows ++ [(b0, b1, b2)], k₁, by rw [List.length_append, List.length_singleton]; lia, ?_, by rw [List.length_append, List.length_singleton]; simp at l₁; lia, ⟨by rw [List.getElem?_set_ne (by lia)]; exact hs₁.r, by rw [List.getElem?_set_ne (by lia)]; exact hs₁.w, hs₁.s.ex (i := s) (by have := g.ro; lia) (by have := g.pl; lia) rfl⟩, ?_, fun i o h0 h1 e => by rw [List.getElem?_set_ne (Ne.symm h1)]; exact ho₁ i o h0 h1 e, fun x hx => by rw [lookup_putV', if_neg (by simpa using hx)]; exact hfr x hx⟩
        · intro row hrow i hi hv
          rcases List.mem_append.mp hrow with hrow | hrow
          · exact e2 row hrow i hi hv
          · rw [List.mem_singleton] at hrow
            subst hrow
            rcases hi with rfl | rfl | rfl
            · exact hb₁ 0 b0 rfl hv
            · exact hb₁ 1 b1 rfl hv
            · exact hb₁ 2 b2 rfl hv
        · rw [getElem?_set_self' hr₁, List.map_append]; rfl
  · rintro fr' σ' ⟨rows, k', e1, e2, l, hs', hr', ho, hfr⟩
    rw [List.length_nil] at e1
    exact kk rows k' σ' fr' e1 e2 (by lia) hs' hr' ho hfr
end Mine
set_option maxHeartbeats 1000000
namespace Mine
open PySem
variable {W : Wd} {cs : List Int} {wo : O} {S : Nat → Int → Bool}
theorem hc_put {fr : Vars} {l : List (Str × NameKind)} {sc : Scope} {x z : Str} {v : V} {it : Expr} (h1 : (!canSet sc x || isSetE it) = false) (h2 : (l.lookup x == some NameKind.free) = false) (h3 : (x == z) = false) : (!canSet sc x || isSetE it || ((putV (fr.filter fun p => l.lookup p.1 == some .free) z v).lookup x).isSome) = false := by
  rw [h1, lookup_putV', h3, lookup_free, h2]; rfl
theorem onlyIf_len (b : Bool) (p : Nat) : (onlyIf b p).length ≤ 1 := by unfold onlyIf; cases b <;> simp
theorem fullP_len (l : List Nat) : (fullP W S l).length ≤ 3 * l.length := by
  induction l with
  | nil => simp [fullP]
  | cons a r ih =>
    have h1 := onlyIf_len (S a 0) (W.place 0 a)
    have h2 := onlyIf_len (S a 1) (W.place 1 a)
    have h3 := onlyIf_len (S a 2) (W.place 2 a)
    have : fullP W S (a :: r) = fullAt W S a ++ fullP W S r := rfl
    rw [this, List.length_append, List.length_cons]
    unfold fullAt
    rw [List.length_append, List.length_append]
    lia
theorem fullP_snoc (l : List Nat) (k : Nat) : fullP W S (l ++ [k]) = fullP W S l ++ fullAt W S k := by
  unfold fullP
  rw [List.flatMap_append]
  simp
theorem lap3 {n : Nat} (g : Good W) {fr : Vars} {σ : Sto} {m s : Nat} (hst : St W σ m) (hw : Wst W S 1 s σ)
    (v1 : fr.lookup (Str.ofString "world") = some (.st 1)) (v2 : fr.lookup (Str.ofString "roller") = some (.st W.ro)) {X : Fl × Vars → Sto → Prop}
    (kk : X (.next, putV fr (Str.ofString "full") (.d (.list ((fullP W S (List.range W.many)).map intD)))) σ) : Mine.W (lvX theTab (n + 60) (scOf 354) (lapS 3) fr σ) X := by
  have hm := g.ok.m
  have g1 := hw.w
  have g2 := hw.s
  have g3 := hst.ro
  obtain ⟨b, hb⟩ : ∃ b, b = lapS 3 := ⟨_, rfl⟩
  obtain ⟨sc', hsc⟩ : ∃ b, b = scOf 354 := ⟨_, rfl⟩
  rw [← hb, ← hsc]
  conv at hb => rhs; whnf
  conv at hsc => rhs; whnf
  subst hb hsc
  with_reducible
    refine wx_asg (by kernel_rfl!) ?_
    refine wv_comp (by kernel_rfl!) ?_
    refine w_glb (by kernel_rfl!) glob_range (by kernel_rfl!) ?_
    refine ws_cons (by kernel_rfl!) ?_
    refine w_subs (by assumption) (by kernel_rfl!) ?_
    refine ⟨_, sb_dict (by assumption) (lk_at 0 (by kernel_rfl!) (by with_unfolding_all rfl)), ?_⟩
    refine kk_end1 ?_
    refine kk_call2 ?_
    refine cv_type ?_
    refine b_range1 (by lia) ?_
    refine kk_comp ?_
  dsimp only
  have e0 : ((W.many : Int) - 0).toNat = W.many := by lia
  refine wc_two (hc_free (by kernel_rfl!) (by kernel_rfl!)) walks_rng (by rw [List.length_map, numsUp_len, e0]; lia) ?_
  rw [e0]
  refine wc_inv (fun r σ' acc => σ' = σ ∧ ∃ j : Nat, j + r.length = W.many ∧ r = (numsUp j r.length).map (fun i => V.d (.int i)) ∧ acc = (fullP W S (List.range j)).map intD) ?_ ?_ ?_
  · exact ⟨rfl, 0, by rw [List.length_map, numsUp_len]; lia, by rw [List.length_map, numsUp_len]; rfl, rfl⟩
  · rintro y r σ' acc ⟨rfl, j, e1, e2, rfl⟩
    rw [List.length_cons] at e1 e2
    rw [numsUp_succ, List.map_cons] at e2
    injection e2 with e2 e3
    subst e2
    have hj : j < W.many := by lia
    have hfl := fullP_len (W := W) (S := S) (List.range j)
    rw [List.length_range] at hfl
    have g4 : ((List.range W.many).map fun k => V.d (.list [.bool (S k 0), .bool (S k 1), .bool (S k 2)]))[j]? = some (V.d (.list [.bool (S j 0), .bool (S j 1), .bool (S j 2)])) := by rw [List.getElem?_map, List.getElem?_range hj]; rfl
    with_reducible
      refine wc_turn2 ?_
      refine wa_nil ?_
      refine kk_turn2_t (by kernel_rfl!) ?_
      refine w_glb (by kernel_rfl!) glob_range (by kernel_rfl!) ?_
      refine ws_int1 ?_
      refine kk_call2 ?_
      refine cv_type ?_
      refine b_range1 (by lia) ?_
    refine wc_one (hc_put (by kernel_rfl!) (by kernel_rfl!) (by kernel_rfl!)) walks_rng (by decide) ?_
    show Mine.W (compL _ [V.d (.int 0), V.d (.int 1), V.d (.int 2)] _ _) _
    have hb0 := onlyIf_len (S j 0) (W.place 0 j)
    have hb1 := onlyIf_len (S j 1) (W.place 1 j)
    refine wc_cons (Mine.W.mono (Q := fun acc' σ₁ => σ₁ = σ' ∧ acc' = (fullP W S (List.range j)).map intD ++ (onlyIf (S j 0) (W.place 0 j)).map intD) ?_ ?_)
    · with_reducible
        refine wc_turn ?_
        refine wa_cons ?_
        refine wt_plain (by kernel_rfl!) ?_
        refine w_sub (by kernel_rfl!) ?_
        refine w_sub (by kernel_rfl!) ?_
        refine w_subs (lk_past (by kernel_rfl!) (lk_past (by kernel_rfl!) (lk_free (by kernel_rfl!) (by assumption)))) (by kernel_rfl!) ?_
        refine ⟨_, sb_dict (by assumption) (lk_at 2 (by kernel_rfl!) (by with_unfolding_all rfl)), ?_⟩
        refine kk_sub ?_
        refine w_var (lk_past (by kernel_rfl!) lk_put) (by kernel_rfl!) ?_
        refine kk_sub2 ?_
      dsimp only
      refine ⟨_, sb_lst g2 (by lia) g4, ?_⟩
      with_reducible
        refine kk_sub ?_
        refine w_var lk_put (by kernel_rfl!) ?_
        refine kk_sub2 ?_
        refine ⟨_, sb_list_0, ?_⟩
        refine kk_truth ?_
      cases hb : S j 0
      · with_reducible
          refine kk_all_f (by kernel_rfl!) ?_
          refine kk_turn_f (by kernel_rfl!) ?_
        refine ⟨rfl, ?_⟩
        simp [onlyIf]
      · with_reducible
          refine kk_all_t (by kernel_rfl!) ?_
          refine wa_nil ?_
          refine kk_turn_t (by kernel_rfl!) ?_
          refine w_methv (by kernel_rfl!) (lk_past (by kernel_rfl!) (lk_past (by kernel_rfl!) (lk_free (by kernel_rfl!) (by assumption)))) (by kernel_rfl!) ?_
          refine kk_meth (by assumption) meth_288_relation_at (lk_miss (by kernel_rfl!) (lk_miss (by kernel_rfl!) (lk_miss (by kernel_rfl!) (lk_miss (by kernel_rfl!) (lk_miss (by kernel_rfl!) lk_nil))))) isfn_245 ?_
          refine ws_var lk_put (by kernel_rfl!) ?_
          refine ws_var2 (lk_past (by kernel_rfl!) lk_put) (by kernel_rfl!) ?_
          refine kk_meth2 ?_
        refine rel_run (by lia) g.ok hst (.inl rfl) hj ?_
        with_reducible
          refine kk_put' ?_
        exact ⟨small_of (by simp only [List.length_append, List.length_map]; lia), rfl, rfl⟩
    rintro acc' σ1 ⟨rfl, rfl⟩
    refine wc_cons (Mine.W.mono (Q := fun acc' σ₁ => σ₁ = σ1 ∧ acc' = (fullP W S (List.range j)).map intD ++ (onlyIf (S j 0) (W.place 0 j)).map intD ++ (onlyIf (S j 1) (W.place 1 j)).map intD) ?_ ?_)
    · with_reducible
        refine wc_turn ?_
        refine wa_cons ?_
        refine wt_plain (by kernel_rfl!) ?_
        refine w_sub (by kernel_rfl!) ?_
        refine w_sub (by kernel_rfl!) ?_
        refine w_subs (lk_past (by kernel_rfl!) (lk_past (by kernel_rfl!) (lk_free (by kernel_rfl!) (by assumption)))) (by kernel_rfl!) ?_
        refine ⟨_, sb_dict (by assumption) (lk_at 2 (by kernel_rfl!) (by with_unfolding_all rfl)), ?_⟩
        refine kk_sub ?_
        refine w_var (lk_past (by kernel_rfl!) lk_put) (by kernel_rfl!) ?_
        refine kk_sub2 ?_
      dsimp only
      refine ⟨_, sb_lst g2 (by lia) g4, ?_⟩
      with_reducible
        refine kk_sub ?_
        refine w_var lk_put (by kernel_rfl!) ?_
        refine kk_sub2 ?_
        refine ⟨_, sb_list_1, ?_⟩
        refine kk_truth ?_
      cases hb : S j 1
      · with_reducible
          refine kk_all_f (by kernel_rfl!) ?_
          refine kk_turn_f (by kernel_rfl!) ?_
        refine ⟨rfl, ?_⟩
        simp [onlyIf]
      · with_reducible
          refine kk_all_t (by kernel_rfl!) ?_
          refine wa_nil ?_
          refine kk_turn_t (by kernel_rfl!) ?_
          refine w_methv (by kernel_rfl!) (lk_past (by kernel_rfl!) (lk_past (by kernel_rfl!) (lk_free (by kernel_rfl!) (by assumption)))) (by kernel_rfl!) ?_
          refine kk_meth (by assumption) meth_288_relation_at (lk_miss (by kernel_rfl!) (lk_miss (by kernel_rfl!) (lk_miss (by kernel_rfl!) (lk_miss (by kernel_rfl!) (lk_miss (by kernel_rfl!) lk_nil))))) isfn_245 ?_
          refine ws_var lk_put (by kernel_rfl!) ?_
          refine ws_var2 (lk_past (by kernel_rfl!) lk_put) (by kernel_rfl!) ?_
          refine kk_meth2 ?_
        refine rel_run (by lia) g.ok hst (.inr (.inl rfl)) hj ?_
        with_reducible
          refine kk_put' ?_
        exact ⟨small_of (by simp only [List.length_append, List.length_map]; lia), rfl, rfl⟩
    rintro acc' σ2 ⟨rfl, rfl⟩
    refine wc_cons (Mine.W.mono (Q := fun acc' σ₁ => σ₁ = σ2 ∧ acc' = (fullP W S (List.range j)).map intD ++ (onlyIf (S j 0) (W.place 0 j)).map intD ++ (onlyIf (S j 1) (W.place 1 j)).map intD ++ (onlyIf (S j 2) (W.place 2 j)).map intD) ?_ ?_)
    · with_reducible
        refine wc_turn ?_
        refine wa_cons ?_
        refine wt_plain (by kernel_rfl!) ?_
        refine w_sub (by kernel_rfl!) ?_
        refine w_sub (by kernel_rfl!) ?_
        refine w_subs (lk_past (by kernel_rfl!) (lk_past (by kernel_rfl!) (lk_free (by kernel_rfl!) (by assumption)))) (by kernel_rfl!) ?_
        refine ⟨_, sb_dict (by assumption) (lk_at 2 (by kernel_rfl!) (by with_unfolding_all rfl)), ?_⟩
        refine kk_sub ?_
        refine w_var (lk_past (by kernel_rfl!) lk_put) (by kernel_rfl!) ?_
        refine kk_sub2 ?_
      dsimp only
      refine ⟨_, sb_lst g2 (by lia) g4, ?_⟩
      with_reducible
        refine kk_sub ?_
        refine w_var lk_put (by kernel_rfl!) ?_
        refine kk_sub2 ?_
        refine ⟨_, sb_list_2, ?_⟩
        refine kk_truth ?_
      cases hb : S j 2
      · with_reducible
          refine kk_all_f (by kernel_rfl!) ?_
          refine kk_turn_f (by kernel_rfl!) ?_
        refine ⟨rfl, ?_⟩
        simp [onlyIf]
      · with_reducible
          refine kk_all_t (by kernel_rfl!) ?_
          refine wa_nil ?_
          refine kk_turn_t (by kernel_rfl!) ?_
          refine w_methv (by kernel_rfl!) (lk_past (by kernel_rfl!) (lk_past (by kernel_rfl!) (lk_free (by kernel_rfl!) (by assumption)))) (by kernel_rfl!) ?_
          refine kk_meth (by assumption) meth_288_relation_at (lk_miss (by kernel_rfl!) (lk_miss (by kernel_rfl!) (lk_miss (by kernel_rfl!) (lk_miss (by kernel_rfl!) (lk_miss (by kernel_rfl!) lk_nil))))) isfn_245 ?_
          refine ws_var lk_put (by kernel_rfl!) ?_
          refine ws_var2 (lk_past (by kernel_rfl!) lk_put) (by kernel_rfl!) ?_
          refine kk_meth2 ?_
        refine rel_run (by lia) g.ok hst (.inr (.inr rfl)) hj ?_
        with_reducible
          refine kk_put' ?_
        exact ⟨small_of (by simp only [List.length_append, List.length_map]; lia), rfl, rfl⟩
    rintro acc' σ3 ⟨rfl, rfl⟩
    refine wc_nil ⟨rfl, j + 1, by lia, e3, ?_⟩
    rw [List.range_succ, fullP_snoc]
    unfold fullAt
    simp only [List.map_append, List.append_assoc]
  · rintro σ' acc ⟨rfl, j, e1, e2, rfl⟩
    rw [List.length_nil] at e1
    have : j = W.many := by lia
    subst this
    with_reducible
      refine kk_li ?_
      refine kk_asg ?_
    exact kk
end Mine
set_option maxHeartbeats 1000000
namespace Mine
open PySem
variable {W : Wd} {cs : List Int} {wo : O} {S : Nat → Int → Bool} {s : Nat}
theorem holds_lineD {nd b N} (hf : Holds W S 1 s nd b N) {n : Nat} (hN : N ≤ n) {sc : Scope} {elt it : Expr} {x : Str} {xp} {fr : Vars} {σ : Sto} (hs : Wst W S 1 s σ) {xs : List Nat} (hx : ∀ j ∈ xs, j < W.many) (hl : xs.length ≤ 50)
    (hc : (!canSet sc x || isSetE it || (fr.lookup x).isSome) = false)
    (ht : ∀ (j : Nat) (σ' : Sto) (C : V → Sto → Prop), (Mine.W (lvC theTab n 339 [.st 1, .d nd, .d (.int j)] σ') C) → Mine.W (lvE theTab (n + 1) sc (putV fr x (.d (.int j))) elt σ') C)
    {C : List PyData → Sto → Prop} (h : ∀ σ', Pre σ σ' → C (boolsD (xs.map b)) σ') : Mine.W (compAll (level theTab (n + 1)) sc elt [⟨.Name x xp, it, [], 0⟩] fr (.d (.list (xs.map intD))) σ []) C := by
  refine wc_oneI (xs := xs.map fun j : Nat => V.d (.int j)) hc (fun r σ' acc => ∃ done rest, xs = done ++ rest ∧ r = rest.map (fun j : Nat => V.d (.int j)) ∧ acc = boolsD (done.map b) ∧ Pre σ σ') ?_ (by rw [List.length_map]; lia) ⟨[], xs, rfl, rfl, rfl, .refl⟩ ?_ ?_
  · rintro r σ' acc i _
    rw [walks_list i σ', List.map_map]
    rfl
  · rintro y r σ' acc ⟨done, rest, e1, e2, rfl, x'⟩
    cases rest with
    | nil => cases e2
    | cons j rest =>
      cases e2
      refine wc_turn (wa_nil ?_)
      refine kk_turn_t rfl ?_
      refine ht j σ' _ (hf _ _ _ _ (by lia) (hs.pre x') (hx j (by rw [e1]; exact List.mem_append_right _ (.head _))) fun σ₁ x₁ => ?_)
      refine ⟨_, rfl, small_of ?_, done ++ [j], rest, by rw [e1, List.append_assoc]; rfl, rfl, ?_, x'.trans x₁⟩
      · unfold boolsD; rw [List.length_map, List.length_map]; rw [e1, List.length_append] at hl; lia
      · unfold boolsD; rw [List.map_append, List.map_append]; rfl
  · rintro σ' acc ⟨done, rest, e1, e2, rfl, x'⟩
    cases rest with
    | cons j rest => cases e2
    | nil => rw [List.append_nil] at e1; subst e1; exact h σ' x'
theorem okFree_of {sc scope : Scope} {fr : Vars} {w : Str} (h : (scope.names.all fun p => !(p.2 == .free) || (sc.names.lookup p.1 == some .cell || (sc.names.lookup p.1 == some .free && p.1 == w))) = true) (hw : (fr.lookup w).isSome = true) : okFree sc fr scope = true := by
  unfold okFree
  rw [List.all_eq_true] at h ⊢
  intro p hp
  have := h p hp
  simp only [Bool.or_eq_true, Bool.and_eq_true] at this ⊢
  rcases this with h1 | h1 | ⟨h1, h2⟩
  · exact .inl h1
  · exact .inr (.inl h1)
  · exact .inr (.inr ⟨h1, by rw [beq_iff_eq.mp h2]; exact hw⟩)
theorem lap4 {n : Nat} (g : Good W) {f h : Fm} (q : Fs W f h) {line : List Nat} (hl : line.length ≤ 5) (hx : ∀ j ∈ line, j < W.many) {fr : Vars} {σ : Sto} (hw : Wst W S 1 s σ)
    (v1 : fr.lookup (Str.ofString "world") = some (.st 1)) (v2 : fr.lookup (Str.ofString "f") = some (.d f.node)) (v3 : fr.lookup (Str.ofString "g") = some (.d h.node)) (v4 : fr.lookup (Str.ofString "line") = some (.d (.list (line.map intD)))) {X : Fl × Vars → Sto → Prop}
    (kk : ∀ σ', Pre σ σ' → X (.next, putV (putV fr (Str.ofString "first") (.d (.list (boolsD (line.map (f.truth W S)))))) (Str.ofString "second") (.d (.list (boolsD (line.map (h.truth W S)))))) σ') : Mine.W (lvX theTab (n + 170) (scOf 354) (lapS 4) fr σ) X := by
  have hf := (holds_run (S := S) (w := 1) (s := s) g.ok f q.fo).mono (N' := 140) (by have := q.fd; lia)
  have hh := (holds_run (S := S) (w := 1) (s := s) g.ok h q.ho).mono (N' := 140) (by have := q.hd; lia)
  obtain ⟨b, hb⟩ : ∃ b, b = lapS 4 := ⟨_, rfl⟩
  obtain ⟨sc', hsc⟩ : ∃ b, b = scOf 354 := ⟨_, rfl⟩
  rw [← hb, ← hsc]
  conv at hb => rhs; whnf
  conv at hsc => rhs; whnf
  subst hb hsc
  refine wx_asgTl (by kernel_rfl!) ?_
  with_reducible
    refine w_comp (by kernel_rfl!) ?_
    refine w_tuple ?_
    refine ws_var (by assumption) (by kernel_rfl!) ?_
    refine ws_var2 (by assumption) (by kernel_rfl!) ?_
    refine kk_tup (by with_unfolding_all rfl) (by kernel_rfl!) ?_
    refine kk_comp ?_
  dsimp only
  refine wc_one (hc_free (by kernel_rfl!) (by kernel_rfl!)) walks_tuple (by simp) ?_
  show Mine.W (compL _ [V.d f.node, V.d h.node] _ _) _
  refine wc_cons (wc_turn ?_)
  with_reducible
    refine wa_nil ?_
    refine kk_turn_t (by kernel_rfl!) ?_
  refine w_comp (Bool.and_eq_true_iff.mpr ⟨by kernel_rfl!, okFree_of (w := Str.ofString "world") (by kernel_rfl!) (by rw [lookup_putV', if_neg (by rw [ofString_beq]; decide), lookup_free, if_pos (by kernel_rfl!), v1]; rfl)⟩) ?_
  with_reducible
    refine w_var (lk_past (by kernel_rfl!) (lk_free (by kernel_rfl!) (by assumption))) (by kernel_rfl!) ?_
    refine kk_comp ?_
  dsimp only
  refine holds_lineD hf (by lia) hw hx (by lia) (hc_free (by kernel_rfl!) (by kernel_rfl!)) ?_ fun σ₁ x₁ => ?_
  · intro j σ' C hC
    with_reducible
      refine w_glb (by kernel_rfl!) glob__law_holds (by kernel_rfl!) ?_
      refine ws_var (lk_past (by kernel_rfl!) (lk_free (by kernel_rfl!) (lk_past (by kernel_rfl!) (lk_free (by kernel_rfl!) (by assumption))))) (by kernel_rfl!) ?_
      refine ws_var (lk_past (by kernel_rfl!) (lk_free (by kernel_rfl!) lk_put)) (by kernel_rfl!) ?_
      refine ws_var3 lk_put (by kernel_rfl!) ?_
      refine kk_call2 ?_
    exact cv_fun noinit_339 isfn_339 hC
  with_reducible
    refine kk_li ?_
    refine kk_put (by kernel_rfl!) ?_
    refine kk_turns ?_
    refine wc_cons ?_
    refine wc_turn ?_
    refine wa_nil ?_
    refine kk_turn_t (by kernel_rfl!) ?_
  refine w_comp (Bool.and_eq_true_iff.mpr ⟨by kernel_rfl!, okFree_of (w := Str.ofString "world") (by kernel_rfl!) (by rw [lookup_putV', if_neg (by rw [ofString_beq]; decide), lookup_free, if_pos (by kernel_rfl!), v1]; rfl)⟩) ?_
  with_reducible
    refine w_var (lk_past (by kernel_rfl!) (lk_free (by kernel_rfl!) (by assumption))) (by kernel_rfl!) ?_
    refine kk_comp ?_
  dsimp only
  refine holds_lineD hh (by lia) (hw.pre x₁) hx (by lia) (hc_free (by kernel_rfl!) (by kernel_rfl!)) ?_ fun σ₂ x₂ => ?_
  · intro j σ' C hC
    with_reducible
      refine w_glb (by kernel_rfl!) glob__law_holds (by kernel_rfl!) ?_
      refine ws_var (lk_past (by kernel_rfl!) (lk_free (by kernel_rfl!) (lk_past (by kernel_rfl!) (lk_free (by kernel_rfl!) (by assumption))))) (by kernel_rfl!) ?_
      refine ws_var (lk_past (by kernel_rfl!) (lk_free (by kernel_rfl!) lk_put)) (by kernel_rfl!) ?_
      refine ws_var3 lk_put (by kernel_rfl!) ?_
      refine kk_call2 ?_
    exact cv_fun noinit_339 isfn_339 hC
  with_reducible
    refine kk_li ?_
    refine kk_put (by kernel_rfl!) ?_
    refine kk_turns ?_
    refine wc_nil ?_
    refine kk_li ?_
  refine ⟨_, _, rfl, ?_, kk σ₂ (x₁.trans x₂)⟩
  kernel_rfl!
theorem plain_t {full : List Nat} {F G : Nat → PyData} {b : Bool} {line : List Nat} (u : Bool) (h : Plain full (untP u F G line) b 320) {n : Nat} (hn : 320 ≤ n) {σ : Sto} {Q : V → Sto → Prop} (k : Q (.d (.bool b)) σ) : Mine.W (lvC theTab n 344 [.d (untP u F G line), .d (.list (full.map intD))] σ) Q := h n σ Q hn k
theorem unt_t {N : Nat} (hN : 20 ≤ N) {fs gs : List Bool} (hl : fs.length < 50) {σ : Sto} {Q : V → Sto → Prop} (h : Q (.d (.bool (untV true fs gs))) σ) : Mine.W (lvC theTab N 327 [.d (.str (Str.ofString "until")), .d (.list (boolsD fs)), .d (.list (boolsD gs))] σ) Q := until_run hN true hl h
theorem unt_f {N : Nat} (hN : 20 ≤ N) {fs gs : List Bool} (hl : fs.length < 50) {σ : Sto} {Q : V → Sto → Prop} (h : Q (.d (.bool (untV false fs gs))) σ) : Mine.W (lvC theTab N 327 [.d (.str (Str.ofString "releases")), .d (.list (boolsD fs)), .d (.list (boolsD gs))] σ) Q := until_run hN false hl h
theorem lap5 {n : Nat} (g : Good W) {f h : Fm} (q : Fs W f h) {line : List Nat} (hl : line.length ≤ 5) (hx : ∀ j ∈ line, j < W.many) (hS : ∀ i, in3 i → W.vary i = false → ∀ k l, k < W.many → l < W.many → S k i = S l i) {fr : Vars} {σ : Sto} {fo : Nat} (hf : σ[fo]? = some (foundO W f h line))
    (v1 : fr.lookup (Str.ofString "found") = some (.st fo)) (v2 : fr.lookup (Str.ofString "full") = some (.d (.list ((fullP W S (List.range W.many)).map intD)))) (v3 : fr.lookup (Str.ofString "first") = some (.d (.list (boolsD (line.map (f.truth W S))))))
    (v4 : fr.lookup (Str.ofString "second") = some (.d (.list (boolsD (line.map (h.truth W S)))))) {X : Fl × Vars → Sto → Prop}
    (kk : ∀ fr', (∀ x, x ≠ Str.ofString "op" → fr'.lookup x = fr.lookup x) → X (.next, fr') σ) : Mine.W (lvX theTab (n + 340) (scOf 354) (lapS 5) fr σ) X := by
  have hfull := fun i k hi hk => full_has g.ok hS (i := i) (k := k) hi hk
  have hp := fun u => (plain_untP (full := fullP W S (List.range W.many)) u (F := f.res W) (G := h.res W) (fb := f.truth W S) (gb := h.truth W S) (N := 200) (line := line) (fun j hj =>
    ⟨(plain_res g.ok hfull f q.fo j (hx j hj)).mono (by have := q.fd; lia), (plain_res g.ok hfull h q.ho j (hx j hj)).mono (by have := q.hd; lia)⟩) (by lia))
  obtain ⟨b, hb⟩ : ∃ b, b = lapS 5 := ⟨_, rfl⟩
  obtain ⟨sc', hsc⟩ : ∃ b, b = scOf 354 := ⟨_, rfl⟩
  rw [← hb, ← hsc]
  conv at hb => rhs; whnf
  conv at hsc => rhs; whnf
  subst hb hsc
  refine wx_forD (by kernel_rfl!) ?_
  with_reducible
    refine w_strs2 ?_
  refine ⟨_, walks_tuple, by simp, ?_⟩
  show Mine.W (forL _ _ [V.d (sD "until"), V.d (sD "releases")] _ _) _
  unfold sD
  refine wf_cons ?_
  with_reducible
    refine wq_cons ?_
    refine wx_if ?_
    refine wt_cmp (by kernel_rfl!) ?_
    refine w_glb (by kernel_rfl!) glob__law_plain (by kernel_rfl!) ?_
    refine ws_cons (by kernel_rfl!) ?_
    refine w_subv (by kernel_rfl!) (lk_past (by kernel_rfl!) (by assumption)) (by kernel_rfl!) ?_
    refine w_var lk_put (by kernel_rfl!) ?_
    refine kk_sub2 ?_
    refine ⟨_, sb_dict (by assumption) (lk_at 0 (by kernel_rfl!) (by with_unfolding_all rfl)), ?_⟩
    refine kk_cons ?_
    refine ws_var2 (lk_past (by kernel_rfl!) (by assumption)) (by kernel_rfl!) ?_
    refine kk_call2 ?_
  dsimp only
  refine cv_fun noinit_344 isfn_344 (plain_t true (hp true) (by lia) ?_)
  with_reducible
    refine kk_cmp ?_
    refine w_glb (by kernel_rfl!) glob__law_until (by kernel_rfl!) ?_
    refine ws_var lk_put (by kernel_rfl!) ?_
    refine ws_var (lk_past (by kernel_rfl!) (by assumption)) (by kernel_rfl!) ?_
    refine ws_var3 (lk_past (by kernel_rfl!) (by assumption)) (by kernel_rfl!) ?_
    refine kk_call2 ?_
  refine cv_fun noinit_327 isfn_327 (unt_t (by lia) (by rw [List.length_map]; lia) ?_)
  with_reducible
    refine kk_cmp2 ?_
    refine p_isnot ?_
    refine kk_ifx ?_
  rw [bne_self_eq_false]
  with_reducible
    refine w_if_f (by first | assumption | kernel_rfl!) ?_
    refine wq_nil ?_
    refine kk_seq_n ?_
    refine wq_nil ?_
    refine kk_for_n ?_
  refine wf_cons ?_
  with_reducible
    refine wq_cons ?_
    refine wx_if ?_
    refine wt_cmp (by kernel_rfl!) ?_
    refine w_glb (by kernel_rfl!) glob__law_plain (by kernel_rfl!) ?_
    refine ws_cons (by kernel_rfl!) ?_
    refine w_subv (by kernel_rfl!) (lk_past (by kernel_rfl!) (lk_past (by kernel_rfl!) (by assumption))) (by kernel_rfl!) ?_
    refine w_var lk_put (by kernel_rfl!) ?_
    refine kk_sub2 ?_
    refine ⟨_, sb_dict (by assumption) (lk_at 1 (by kernel_rfl!) (by with_unfolding_all rfl)), ?_⟩
    refine kk_cons ?_
    refine ws_var2 (lk_past (by kernel_rfl!) (lk_past (by kernel_rfl!) (by assumption))) (by kernel_rfl!) ?_
    refine kk_call2 ?_
  dsimp only
  refine cv_fun noinit_344 isfn_344 (plain_t false (hp false) (by lia) ?_)
  with_reducible
    refine kk_cmp ?_
    refine w_glb (by kernel_rfl!) glob__law_until (by kernel_rfl!) ?_
    refine ws_var lk_put (by kernel_rfl!) ?_
    refine ws_var (lk_past (by kernel_rfl!) (lk_past (by kernel_rfl!) (by assumption))) (by kernel_rfl!) ?_
    refine ws_var3 (lk_past (by kernel_rfl!) (lk_past (by kernel_rfl!) (by assumption))) (by kernel_rfl!) ?_
    refine kk_call2 ?_
  refine cv_fun noinit_327 isfn_327 (unt_f (by lia) (by rw [List.length_map]; lia) ?_)
  with_reducible
    refine kk_cmp2 ?_
    refine p_isnot ?_
    refine kk_ifx ?_
  rw [bne_self_eq_false]
  with_reducible
    refine w_if_f (by first | assumption | kernel_rfl!) ?_
    refine wq_nil ?_
    refine kk_seq_n ?_
    refine wq_nil ?_
    refine kk_for_n ?_
  refine wf_nil (kk _ fun x hx => ?_)
  rw [lookup_putV', if_neg (by simpa using hx), lookup_putV', if_neg (by simpa using hx)]
end Mine
set_option maxHeartbeats 1000000
namespace Mine
open PySem
variable {W : Wd} {cs : List Int} {wo : O}
theorem rows_eq (rows : List (Bool × Bool × Bool)) : rows.map rowV = (List.range rows.length).map fun k => V.d (.list [.bool (sel (rows.getD k (false, false, false)) 0), .bool (sel (rows.getD k (false, false, false)) 1), .bool (sel (rows.getD k (false, false, false)) 2)]) := by
  apply List.ext_getElem
  · simp
  · intro i h1 h2
    rw [List.length_map] at h1
    rw [List.getElem_map, List.getElem_map, List.getElem_range]
    have : rows.getD i (false, false, false) = rows[i] := by rw [List.getD_eq_getElem?_getD, List.getElem?_eq_getElem h1]; rfl
    rw [this]
    rfl
structure Frm (W : Wd) (f h : Fm) (line : List Nat) (fo : Nat) (fr : Vars) : Prop where
  reel : fr.lookup (Str.ofString "reel") = some (.st 0)
  world : fr.lookup (Str.ofString "world") = some (.st 1)
  varying : fr.lookup (Str.ofString "varying") = some (.d (.list (vsOf W.v0 W.v1 W.v2)))
  roller : fr.lookup (Str.ofString "roller") = some (.st W.ro)
  f : fr.lookup (Str.ofString "f") = some (.d f.node)
  g : fr.lookup (Str.ofString "g") = some (.d h.node)
  line : fr.lookup (Str.ofString "line") = some (.d (.list (line.map intD)))
  found : fr.lookup (Str.ofString "found") = some (.st fo)
theorem Frm.put {f h line fo fr} (F : Frm W f h line fo fr) {a : String} (ha : ["reel", "world", "varying", "roller", "f", "g", "line", "found"].contains a = false) (v : V) : Frm W f h line fo (putV fr (Str.ofString a) v) := by
  have go : ∀ b ∈ ["reel", "world", "varying", "roller", "f", "g", "line", "found"], (putV fr (Str.ofString a) v).lookup (Str.ofString b) = fr.lookup (Str.ofString b) := by
    intro b hb
    rw [lookup_putV', ofString_beq, if_neg]
    intro z
    rw [beq_iff_eq.mp z] at hb
    rw [List.contains_iff_mem.mpr hb] at ha
    cases ha
  exact ⟨(go _ (by simp)).trans F.reel, (go _ (by simp)).trans F.world, (go _ (by simp)).trans F.varying, (go _ (by simp)).trans F.roller, (go _ (by simp)).trans F.f, (go _ (by simp)).trans F.g, (go _ (by simp)).trans F.line, (go _ (by simp)).trans F.found⟩
theorem Frm.same {f h line fo fr fr'} (F : Frm W f h line fo fr) {a : String} (ha : ["reel", "world", "varying", "roller", "f", "g", "line", "found"].contains a = false) (e : ∀ x, x ≠ Str.ofString a → fr'.lookup x = fr.lookup x) : Frm W f h line fo fr' := by
  have go : ∀ b ∈ ["reel", "world", "varying", "roller", "f", "g", "line", "found"], fr'.lookup (Str.ofString b) = fr.lookup (Str.ofString b) := by
    intro b hb
    refine e _ (ne_k fun z => ?_)
    subst z
    rw [List.contains_iff_mem.mpr hb] at ha
    cases ha
  exact ⟨(go _ (by simp)).trans F.reel, (go _ (by simp)).trans F.world, (go _ (by simp)).trans F.varying, (go _ (by simp)).trans F.roller, (go _ (by simp)).trans F.f, (go _ (by simp)).trans F.g, (go _ (by simp)).trans F.line, (go _ (by simp)).trans F.found⟩
theorem st11 {n : Nat} (g : Good W) (hn : cs.length ≤ 60) {f h : Fm} (q : Fs W f h) {line : List Nat} (hl : line.length ≤ 5) (hx : ∀ j ∈ line, j < W.many) {fr : Vars} {σ : Sto} {k m fo : Nat} (hk : k < 900) (hfo : 14 < fo) (hs : Mn W cs k m (worldO W.many W.back) σ) (hf : σ[fo]? = some (foundO W f h line)) (F : Frm W f h line fo fr)
    {X : Fl × Vars → Sto → Prop} (kk : ∀ fr' σ', X (.next, fr') σ') : Mine.W (lvX theTab (n + 345) (scOf 354) (stm 11) fr σ) X := by
  obtain ⟨xp, it, p, e, a, b, c, d, e'⟩ := stm11
  rw [e, e']
  refine wx_forI (by kernel_rfl!) ?_
  with_reducible
    refine w_glb (by kernel_rfl!) glob_range (by kernel_rfl!) ?_
    refine ws_int1 ?_
    refine kk_call2 ?_
    refine cv_type ?_
    refine b_range1 (by lia) ?_
  refine ⟨(numsUp 0 4).map fun i => V.d (.int i), fun r fr' σ' => ∃ (j k' : Nat) (wo' : O), j + r.length = 4 ∧ r = (numsUp j r.length).map (fun i => V.d (.int i)) ∧ k' ≤ k + 12 * j ∧ (wo' = worldO W.many W.back ∨ ∃ s, wo' = worldS W s) ∧ Mn W cs k' m wo' σ' ∧ σ'[fo]? = some (foundO W f h line) ∧ Frm W f h line fo fr', ?_, by decide, ?_, ?_, ?_⟩
  · intro r fr σ' i _
    exact walks_rng i σ'
  · exact ⟨0, k, _, rfl, rfl, by lia, .inl rfl, hs, hf, F⟩
  · rintro y r fr₀ σ₀ ⟨j, k₀, wo₀, e1, e2, l₀, hwo, hs₀, hf₀, F₀⟩
    rw [List.length_cons] at e1 e2
    rw [numsUp_succ, List.map_cons] at e2
    injection e2 with e2 e3
    subst e2
    have F₁ := F₀.put (a := "lap") (by decide) (.d (.int j))
    have vl : (putV fr₀ (Str.ofString "lap") (.d (.int j))).lookup (Str.ofString "lap") = some (.d (.int j)) := by rw [lookup_putV', if_pos (by rw [ofString_beq]; decide)]
    generalize putV fr₀ (Str.ofString "lap") (.d (.int j)) = fr₁ at F₁ vl
    refine wq_cons ?_
    refine lap0 (n := n + 304) g hn (by lia) hs₀ F₁.reel vl fun s0 s1 s2 k₁ σ₁ l₁ hs₁ o₁ => ?_
    have hf₁ := o₁ fo _ (by lia) hf₀
    have F₂ := F₁.put (a := "still") (by decide) (.d (.list [.bool s0, .bool s1, .bool s2]))
    have vl₂ : (putV fr₁ (Str.ofString "still") (.d (.list [.bool s0, .bool s1, .bool s2]))).lookup (Str.ofString "lap") = some (.d (.int j)) := by rw [lookup_putV', if_neg (by rw [ofString_beq]; decide)]; exact vl
    have vs₂ : (putV fr₁ (Str.ofString "still") (.d (.list [.bool s0, .bool s1, .bool s2]))).lookup (Str.ofString "still") = some (rowV (s0, s1, s2)) := by rw [lookup_putV', if_pos (by rw [ofString_beq]; decide)]; rfl
    generalize putV fr₁ (Str.ofString "still") (.d (.list [.bool s0, .bool s1, .bool s2])) = fr₂ at F₂ vl₂ vs₂ ⊢
    refine wq_cons ?_
    refine lap1 (n := n + 324) g hwo hs₁ F₂.world fun σ₂ hs₂ hr₂ o₂ => ?_
    have hf₂ := o₂ fo _ (by lia) hf₁
    have hlen : 14 < σ₁.length := by
      have := (List.getElem?_eq_some_iff.mp hs₁.s.pl).1
      have := g.pl
      lia
    refine wq_cons ?_
    refine lap2 (n := n + 284) g hn (by lia) hlen hs₂ hr₂ F₂.world F₂.reel vl₂ vs₂ F₂.varying fun rows k₃ σ₃ fr₃ hrl hrv l₃ hs₃ hr₃ o₃ e₃ => ?_
    have hne : fo ≠ σ₁.length := by
      have := (List.getElem?_eq_some_iff.mp hf₁).1
      lia
    have hf₃ := o₃ fo _ (by lia) hne hf₂
    have F₃ := F₂.same (a := "k") (by decide) e₃
    obtain ⟨S, hS⟩ : ∃ S : Nat → Int → Bool, S = fun k i => sel (rows.getD k (false, false, false)) i := ⟨_, rfl⟩
    have hw₃ : Wst W S 1 σ₁.length σ₃ := ⟨hs₃.w, by rw [hr₃, rows_eq, hrl, hS]⟩
    have hSv : ∀ i, in3 i → W.vary i = false → ∀ k l, k < W.many → l < W.many → S k i = S l i := by
      intro i hi hv k l hk hl
      have go : ∀ k, k < W.many → S k i = sel (s0, s1, s2) i := by
        intro k hk
        rw [hS]
        have hk' : k < rows.length := by lia
        have : rows.getD k (false, false, false) = rows[k] := by rw [List.getD_eq_getElem?_getD, List.getElem?_eq_getElem hk']; rfl
        show sel (rows.getD k (false, false, false)) i = _
        rw [this]
        exact hrv _ (List.getElem_mem hk') i hi hv
      rw [go k hk, go l hl]
    refine wq_cons ?_
    refine lap3 (n := n + 284) g hs₃.s hw₃ F₃.world F₃.roller ?_
    have F₄ := F₃.put (a := "full") (by decide) (.d (.list ((fullP W S (List.range W.many)).map intD)))
    have v4 : (putV fr₃ (Str.ofString "full") (.d (.list ((fullP W S (List.range W.many)).map intD)))).lookup (Str.ofString "full") = some (.d (.list ((fullP W S (List.range W.many)).map intD))) := by rw [lookup_putV', if_pos (by rw [ofString_beq]; decide)]
    generalize putV fr₃ (Str.ofString "full") (.d (.list ((fullP W S (List.range W.many)).map intD))) = fr₄ at F₄ v4 ⊢
    refine wq_cons ?_
    refine lap4 (n := n + 174) g q hl hx hw₃ F₄.world F₄.f F₄.g F₄.line fun σ₅ x₅ => ?_
    have F₅ := (F₄.put (a := "first") (by decide) (.d (.list (boolsD (line.map (f.truth W S)))))).put (a := "second") (by decide) (.d (.list (boolsD (line.map (h.truth W S)))))
    refine wq_cons ?_
    refine lap5 (n := n + 4) g q hl hx hSv (x₅.at hf₃) F₅.found ?_ ?_ ?_ fun fr₆ e₆ => ?_
    · rw [lookup_putV', if_neg (by rw [ofString_beq]; decide), lookup_putV', if_neg (by rw [ofString_beq]; decide)]; exact v4
    · rw [lookup_putV', if_neg (by rw [ofString_beq]; decide), lookup_putV', if_pos (by rw [ofString_beq]; decide)]
    · rw [lookup_putV', if_pos (by rw [ofString_beq]; decide)]
    refine wq_nil ?_
    exact ⟨j + 1, k₃, _, by lia, e3, by lia, .inr ⟨_, rfl⟩, hs₃.pre x₅, x₅.at hf₃, F₅.same (a := "op") (by decide) e₆⟩
  · intro fr' σ' _
    exact kk fr' σ'
end Mine
set_option maxHeartbeats 1000000
namespace Mine
open PySem
theorem wq_app {f : Stmt → Vars → Sto → Res (Fl × Vars)} {X : Fl × Vars → Sto → Prop} {xs ys : List Stmt} {fr : Vars} {σ : Sto} (h : W (seqS f xs fr σ) (fun p σ₁ => match p with | (.next, fr') => W (seqS f ys fr' σ₁) X | (.ret v, fr') => X (.ret v, fr') σ₁)) : W (seqS f (xs ++ ys) fr σ) X := by
  induction xs generalizing fr σ with
  | nil => obtain ⟨p, s, e, h⟩ := h; cases e; exact h
  | cons x xs ih =>
    obtain ⟨p, s, e, h⟩ := h
    obtain ⟨⟨fl, fr1⟩, s1, e1, e⟩ := bd_inv (show (bd (f x fr σ) fun p σ => goOn p (seqS f xs) σ) = some (p, s) from e)
    refine wq_cons ⟨(fl, fr1), s1, e1, ?_⟩
    cases fl with
    | next => exact ih ⟨p, s, e, h⟩
    | ret v => cases e; exact h
theorem st12 {n : Nat} {fr : Vars} {σ : Sto} {X : Fl × Vars → Sto → Prop} (h : X (.ret (.d (.bool true)), fr) σ) : W (lvX theTab (n + 20) (scOf 354) (stm 12) fr σ) X := by
  obtain ⟨b, hb⟩ : ∃ b, b = stm 12 := ⟨_, rfl⟩
  obtain ⟨sc', hsc⟩ : ∃ b, b = scOf 354 := ⟨_, rfl⟩
  rw [← hb, ← hsc]
  conv at hb => rhs; whnf
  conv at hsc => rhs; whnf
  subst hb hsc
  with_reducible
    refine wx_ret ?_
    refine w_bool ?_
    refine kk_ret ?_
  exact h
theorem law_run (ns : List Int) (h : ns.length ≤ 63) : W (lvC theTab 348 354 [.d (.list (ns.map .int))] []) fun v _ => v = .d (.bool true) := by
  have hf := fn_of 354 (by kernel_rfl!)
  refine w_run hf (by kernel_rfl!) ?_
  rw [body_eq]
  have hps : psOf 354 = [Str.ofString "script"] := by kernel_rfl
  rw [hps]
  have hcs : (cellsOf ns).length ≤ 60 := by unfold cellsOf; rw [List.length_map, List.length_take]; lia
  refine wq_app (wq_app ?_)
  refine wq_cons ?_
  refine st0 (n := 327) h ?_
  refine st123 (n := 287) hcs fun W ok h1 h2 h3 => ?_
  have g : Good W := ⟨ok, h1, h2, h3⟩
  refine segB (n := 287) g fun σ₀ hs₀ => ?_
  refine wq_cons ?_
  refine st7 (n := 287) g hcs (by lia) hs₀ (by kernel_rfl!) fun f h' fo ho fc hc fd hd k₁ σ₁ l₁ hs₁ => ?_
  refine wq_cons ?_
  refine st8 (n := 287) g hcs (by lia) hs₁ (by kernel_rfl!) (by kernel_rfl!) fun line hl hx k₂ σ₂ l₂ hs₂ => ?_
  have q : Fs W f h' := ⟨fo, ho, fc, hc, fd, hd⟩
  have hro : some (V.st W.ro) = some (.st 10) := by rw [h1]
  refine wq_cons ?_
  refine st9 (n := 87) g fo ho fc hc fd hd hl hx (by lia) hs₂ (by rw [hro]; kernel_rfl!) (by kernel_rfl!) (by kernel_rfl!) (by kernel_rfl!) fun σ₃ m₃ fo l₃ hfo hs₃ hf₃ => ?_
  have F : Frm W f h' line fo (putV (putV (putV (putV (frC (vsOf W.v0 W.v1 W.v2) (.d (.list (ns.map .int))) ++ [(Str.ofString "bounds", .st 4), (Str.ofString "name", .d (.str (Str.ofString "w"))), (Str.ofString "roller", .st 10)]) (Str.ofString "f") (.d f.node)) (Str.ofString "g") (.d h'.node)) (Str.ofString "line") (.d (.list (line.map intD)))) (Str.ofString "found") (.st fo)) :=
    ⟨by kernel_rfl!, by kernel_rfl!, by kernel_rfl!, by rw [hro]; kernel_rfl!, by kernel_rfl!, by kernel_rfl!, by kernel_rfl!, by kernel_rfl!⟩
  generalize putV (putV (putV (putV (frC (vsOf W.v0 W.v1 W.v2) (.d (.list (ns.map .int))) ++ [(Str.ofString "bounds", .st 4), (Str.ofString "name", .d (.str (Str.ofString "w"))), (Str.ofString "roller", .st 10)]) (Str.ofString "f") (.d f.node)) (Str.ofString "g") (.d h'.node)) (Str.ofString "line") (.d (.list (line.map intD)))) (Str.ofString "found") (.st fo) = fr at F ⊢
  refine wq_cons ?_
  refine st10 (n := 67) g q hl (by lia) hfo hs₃ hf₃ F.roller F.f F.g F.world F.found F.line fun σ₄ m₄ fr₄ l₄ hs₄ hf₄ e₄ => ?_
  have go : ∀ b : String, b ≠ "k" → b ≠ "op" → fr₄.lookup (Str.ofString b) = fr.lookup (Str.ofString b) := fun b h1 h2 => e₄ _ (ne_k h1) (ne_k h2)
  have F₄ : Frm W f h' line fo fr₄ := ⟨(go _ (by decide) (by decide)).trans F.reel, (go _ (by decide) (by decide)).trans F.world, (go _ (by decide) (by decide)).trans F.varying, (go _ (by decide) (by decide)).trans F.roller, (go _ (by decide) (by decide)).trans F.f,
    (go _ (by decide) (by decide)).trans F.g, (go _ (by decide) (by decide)).trans F.line, (go _ (by decide) (by decide)).trans F.found⟩
  refine wq_cons ?_
  refine st11 (n := 2) g hcs q hl hx (by lia) hfo hs₄ hf₄ F₄ fun fr₅ σ₅ => ?_
  refine wq_cons ?_
  exact st12 (n := 327) rfl
theorem law_pure (ns : List Int) (h : ns.length ≤ 63) : ∃ σ', (level theTab 348).c 354 [.d (.list (ns.map .int))] [] = some (.d (.bool true), σ') := by
  obtain ⟨v, σ', e, rfl⟩ := law_run ns h
  exact ⟨σ', e⟩
end Mine
set_option maxHeartbeats 0
namespace Mine
open PySem PySem.Calls PyProof.Rows PySem.W

theorem filt_get (h : Heap) (a : Addr) : (heapOf (fun a => (h.get? a).filter fun o => !badO o) h.objs.size).get? a = (h.get? a).filter fun o => !badO o :=
  heapOf_get (f := fun a => (h.get? a).filter fun o => !badO o) (fun b o e => by
    have e : (h.get? b).filter (fun o => !badO o) = some o := e
    rw [Option.filter_eq_some_iff] at e
    exact ⟨Heap.lt_size e.1, not_freed e.1⟩) a
/-- the heap less what the pure run does not know -/
noncomputable def filt (h : Heap) : Heap := heapOf (fun a => (h.get? a).filter fun o => !badO o) h.objs.size
theorem filt_sub {h : Heap} {a : Addr} {o : Obj} (e : (filt h).get? a = some o) : h.get? a = some o ∧ badO o = false := by
  unfold filt at e
  rw [filt_get, Option.filter_eq_some_iff] at e
  exact ⟨e.1, by simpa using e.2⟩
theorem filt_keep {h : Heap} {a : Addr} {o : Obj} (e : h.get? a = some o) (hb : badO o = false) : (filt h).get? a = some o := by
  unfold filt
  rw [filt_get, e]
  simp [hb]
theorem notBad {o : Obj} (h : ∀ vs n, o.data ≠ .seq vs n) : badO o = false := by
  unfold badO
  split
  · rename_i vs n e
    exact absurd e (h _ _)
  · simp
theorem ns_filt {h : Heap} {a : Addr} {m : Str → Option Value} (x : h.Ns a m) : (filt h).Ns a m := by
  obtain ⟨o, es, ep, h1, h2, h3⟩ := x
  exact ⟨o, es, ep, filt_keep h1 (notBad fun vs n e => by rw [h2] at e; cases e), h2, h3⟩
theorem Base.filt {prog : Program} {w : World} {h : Heap} (B : Base prog w h theTab) : Base prog w (filt h) theTab := by
  refine ⟨?_, ?_, fun a ps body sc hf => ?_, fun c hc => ?_, B.lkA, B.lkM, ?_⟩
  · obtain ⟨mg, mb, h1, h2, h3⟩ := B.globs
    exact ⟨mg, mb, ns_filt h1, ns_filt h2, h3⟩
  · obtain ⟨mc, h1, h2⟩ := B.lim
    exact ⟨mc, ns_filt h1, h2⟩
  · obtain ⟨o, fd, F⟩ := B.fn a ps body sc hf
    refine ⟨o, fd, filt_keep F.get (notBad fun vs n e => by rw [F.data] at e; cases e), F.cls, F.data, F.body, F.scope, F.globals, F.builtins, F.closure, ?_, F.ok, F.co, F.gen, F.bind, F.par, F.nodup⟩
    obtain ⟨c, o, vs, t, e1, e2, e3, e4⟩ := F.code
    exact ⟨c, o, vs, t, e1, filt_keep e2 (notBad fun vs n e => by rw [e3] at e; cases e), e3, e4⟩
  · obtain ⟨N, mN, X, r⟩ := B.cls c hc
    obtain ⟨nm, q, bs, sn, sub, col, dd, k0, k1, k2, k3, k5, e⟩ := X.obj
    exact ⟨N, mN, ⟨⟨nm, q, bs, sn, sub, col, dd, k0, k1, k2, k3, k5, filt_keep e (notBad fun vs n z => by cases z)⟩, ns_filt X.ns⟩, r⟩
  · obtain ⟨s, hs⟩ : ∃ s, theTab.fn 354 = some s := by
      cases q : theTab.fn 354 with
      | none =>
        have : (theTab.fn 354).isSome = true := by kernel_rfl
        rw [q] at this; cases this
      | some s => exact ⟨s, rfl⟩
    obtain ⟨o, fd, F⟩ := B.fn 354 s.1 s.2.1 s.2.2 hs
    exact ⟨354, by decide, by rw [filt_keep F.get (notBad fun vs n e => by rw [F.data] at e; cases e)]; exact Option.some_ne_none _⟩
theorem ints_any {h h' : Heap} : ∀ {ns : List Int} {vs : List Value} {as : List Addr}, ReadsAll h vs (ns.map .int) as → ∃ bs, ReadsAll h' vs (ns.map .int) bs
  | [], _, _, r => by cases r; exact ⟨_, .nil⟩
  | i :: ns, _, _, r => by
    cases r with
    | cons r1 r2 =>
      obtain ⟨bs, q⟩ := ints_any (ns := ns) (h' := h') r2
      obtain ⟨t, rfl⟩ := int_inv r1
      exact ⟨_, .cons (.int _ _) q⟩
theorem reads_filt {h : Heap} {u : Value} {ns : List Int} (r : ∃ as, Reads h u (.list (ns.map .int)) as) : ∃ as, Reads (filt h) u (.list (ns.map .int)) as := by
  obtain ⟨as, r⟩ := r
  cases r with
  | list h1 h2 h3 h4 =>
    rename_i a o vs n as'
    obtain ⟨bs, q⟩ := ints_any (h' := filt h) h4
    refine ⟨_, .list (filt_keep h1 ?_) h2 h3 q⟩
    unfold badO
    rw [h3]
    obtain ⟨vs⟩ := vs
    cases ns with
    | nil => cases h4; simp
    | cons i ns =>
      cases h4 with
      | cons r1 r2 =>
        obtain ⟨t, rfl⟩ := int_inv r1
        simp

theorem sr_start {prog : Program} {w : World} {h : Heap} : SR prog w (filt h) (filt h) [] [] h :=
  ⟨fun _ _ e => e, fun _ _ e => (filt_sub e).1, rfl, fun n o p e => by simp at e, fun a ⟨p, hp, _⟩ => by simp at hp, fun i j p q e => by simp at e, fun a o e => (filt_sub e).2⟩
theorem room_caller : Room callerA 348 := ⟨rfl, by decide, by decide⟩

theorem law_end {w : World} {s₁ : Shared} {mg : Str → Option Value} {fa : Addr} {ns : List Int} {u : Value} {Q E : Value → Shared → Prop} (Y : Base PySem.Challenge.pw_rr0083_01 w s₁.heap theTab) (hmg : mg (Str.ofString "law") = some (.ref fa)) (hns : s₁.heap.Ns mainGlobals mg) (hg : s₁.gens = #[])
    (hn : ns.length ≤ 63) (r0 : ∃ as, Reads s₁.heap u (.list (ns.map .int)) as)
    (K : ∀ v s', v = .bool true → (∀ b o, s₁.heap.get? b = some o → s'.heap.get? b = some o) → s'.os = s₁.os → s'.gens = #[] → Q v s') :
    wpAny (model PySem.Challenge.pw_rr0083_01 w) callerA (call (.ref fa) [u]) Q E s₁ := by
  obtain ⟨mg', mb', h1, h2, h3⟩ := Y.globs
  obtain ⟨z, hz, hz2⟩ := h3 (Str.ofString "law") (.val (.ref 354)) (by kernel_rfl)
  have e : mg' = mg := h1.eq_nsMap.trans hns.eq_nsMap.symm
  subst e
  have hz' : z = .ref 354 := by
    rcases hz with hz | ⟨i, t, hz, _⟩
    · injection hz with hz; exact hz.symm
    · cases hz
  subst hz'
  have hfa : fa = 354 := by
    rcases hz2 with q | ⟨q, _⟩
    · rw [hmg] at q; injection q with q; injection q
    · rw [hmg] at q; cases q
  subst hfa
  obtain ⟨σ', hl⟩ := law_pure ns hn
  refine (level_ok Y.filt 348).c _ _ _ _ _ hl callerA (filt s₁.heap) [] s₁ [u] Q E room_caller sr_start (.cons (reads_filt r0) .nil) fun g' ρ' h' tk v S X R => ?_
  obtain ⟨_, R⟩ := R
  exact K v _ (bool_inv R) (fun b o e => X.keep b o (fun ⟨p, hp, _⟩ => by simp at hp) id e) rfl hg
end Mine
open Mine PySem PySem.Calls PyProof.Rows PySem.W
theorem PySem.Challenge.cw_rr0083_01_holds : PySem.Challenge.rw_rr0083_01.Holds := by
  w_on
  refine holds_law (by kernel_rfl) fun said => ?_
  refine holds_open (q := qv) (loose := lo) (Xt := fun s => xlAt qv [] s && recOk [] s) (XP := XL qv []) (Yf := fun s => allObs s.heap) (Ya := fun _ => allWant) (YP := fun w h => Base PySem.Challenge.pw_rr0083_01 w h theTab) (N := 5102) left0 (fun w s e => base_of e) (fun w h h' B k => B.keeps k)
    (fun s e => xl_of s (Bool.and_eq_true_iff.mp e).1) XL.keeps (by rfl) (by rfl) (by rfl) (fun s e => recFacts_of (Bool.and_eq_true_iff.mp e).2) (by rfl) (by first | assumption | decide +kernel) (by decide +kernel) ⟨rfl, rfl, rfl, rfl, rfl, by decide +kernel⟩ ?hw ?hc
  case hw => w_witness2
  case hc =>
    intro w s₀ s₁ mg mb G Y fa o pm cd doc dV kV ho hd hcd hD hmg hg args vals as hpre hlay hrd hwl hlo
    clear hd hcd hD
    change mg (Str.ofString "law") = some (.ref fa) at hmg
    wrow_args hpre hlay hrd hwl hlo
    rename_i ns hs' hl0 hL1 hr1 hl2 as1 as2 l vs as3 hL ra w1 r0 hI hr hlt htr
    have hn : ns.length ≤ 63 := by
      have := hlt
      lia
    refine law_end Y hmg G.T.g hg hn ⟨_, r0⟩ (fun v s' hv hk ho' hg' => ?_)
    subst hv
    exact GoodW.toG ⟨.inl ⟨_, .bool true, [], rfl, fun _ => rfl, ReadsW.bool true, (by first | with_unfolding_all rfl | kernel_rfl), fun _ => ⟨List.nodup_nil, fun _ hm => (nomatch hm)⟩⟩, hk, ho', hg'⟩
